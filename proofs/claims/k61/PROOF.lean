import PyProof.Rows.All
import Wide.All
import OpenK.AllK
import Wide.FinOn
import KE.KStateDown
import KE.KSuper
import KE.KExcSuper
import HandS.Base
import HandS.Call
import HandS.List
import HandS.Ends
import HandS.Exc
import HandS.ExcInit
import HandS.Words
import HandS.ExcField
import HandS.ExcIs
import HandS.IsInst
import KE.KExcIs
import KE.KEqNest
import KE.KEqDict
import HandS.More
import HandS.Dict
import PyProof.NeKinds
import HandS.Defaults
import HandS.HeadHook1
import HandS.HeadHook2
import HandS.Comp
import HandS.Iter
import HandS.Steps
import PySem.Challenge.RW_heldback_k61_errors_made
import HandS.DictComp
import HandS.Walk
import HandS.WordsExc
import HandS.Head0
import HandS.Head1
import HandS.Head2
import HandS.HeadEnd
set_option Elab.async false
set_option linter.all false
set_option maxRecDepth 100000
set_option maxHeartbeats 4000000
/-! X1: own exceptions whose __init__ begins with super().__init__('..'): the def, walked. -/
namespace HB
open PySem PySem.Spec PyProof.Rows L2

/-- the def stands there: its function object, code object, class cell -/
structure SupFn (K : PySem.W.Frag) (P : Program) (name qual : Str) (params : Arguments) (body : List Stmt) (scope : Scope) (f D : Addr) (fd : FuncData) : Prop where
  ex : ∃ (oc : Value) (od : Option Addr) (kV doc pm ct : Value) (an : Option Addr) (osl : Array (Option Value)) (cda cc : Addr) (ccl : Value) (cdd : Option Addr) (vs : Array Value) (ccs : Array (Option Value)) (cl : Value) (cld : Option Addr) (csl : Array (Option Value)) (file : Str) (tf : Tok),
    fd = PySem.W.ksFn name qual params body scope .none kV doc pm an (.ref cda) ct cc ∧ K.lookup f = some ⟨oc, od, .func fd, osl⟩ ∧ PySem.W.codeIn K (.ref cda) qual = true ∧
    K.lookup cda = some ⟨ccl, cdd, .fields vs, ccs⟩ ∧ vs[2]? = some (.str file tf) ∧ ((P.main.file : Str) == file) = true ∧ K.lookup cc = some ⟨cl, cld, .cell (some (.ref D)), csl⟩
  kp : PySem.W.keepIn K (.ref f) = true
/-- the class -/
structure ExcK (K : PySem.W.Frag) (D : Addr) : Prop where
  T : OexC K D
  sup : PySem.W.ks_superIn K D D "__init__" = some (some (.builtin "ValueError.__init__"))
  sub : PySem.W.subIn K (.ref D) (.type "ValueError") = some true
  own : PySem.W.mroIn K D (.ref D) = some true
  opq : PySem.W.nsIn K cStatics "thirdparty.any" = some none
structure SupScope (N ps : List Str) (sc : Scope) : Prop where
  kind : sc.kind = .function
  co : sc.isCoroutine = false
  gen : sc.isGenerator = false
  nd : N.Nodup
  pre : N.take ps.length = ps
  par : ∀ x ∈ ps, sc.names.lookup x = some .local
  nocell : ∀ y ∈ sc.names, y.2 ≠ .cell
  free : ∀ y ∈ sc.names, y.2 = .free → y.1 = ("__class__" : Str)
  sup : sc.names.lookup ("super" : Str) = some .globalImplicit
  cls : sc.names.lookup ("__class__" : Str) = some .free

abbrev envS (qual : Str) (scope : Scope) (L f cda cc : Addr) : Env := PySem.W.ksEnv qual scope L f (.ref cda) cc
/-- the context of such a def's body -/
def cxS (CX : CXT) (P : Program) (w : World) (K : PySem.W.Frag) (mg : Str → Option Value) (base : Heap) (N : List Str) (qual : Str) (scope : Scope) (f cda cc : Addr) (A : Around) (outer : List Env) (s : Shared) (H : Hp) (E : XK) : Cx where
  prog := P
  w := w
  K := K
  mg := mg
  base := base
  A := A.deeper (envS qual scope s.heap.objs.size f cda cc)
  N := N
  s_0 := s
  H_0 := H
  env := envS qual scope s.heap.objs.size f cda cc
  outer := outer
  stack := envS qual scope s.heap.objs.size f cda cc :: outer
  ex := []
  calm := true
  fn := fun _ => false
  pn := []
  xe := fun e s' => wpAny (model P w) (A.deeper (envS qual scope s.heap.objs.size f cda cc)) (leaving (envS qual scope s.heap.objs.size f cda cc) e) (fun _ s'' => CX outer H s E e s'') (fun e' s'' => CX outer H s E e' s'') s'

theorem lookup_nd {l : List (Str × Value)} {x : Str} {v : Value} (nd : (l.map (·.1)).Nodup) (h : (x, v) ∈ l) : l.lookup x = some v := by
  induction l with
  | nil => cases h
  | cons p r ih =>
    obtain ⟨y, u⟩ := p
    rw [List.map_cons, List.nodup_cons] at nd
    rcases List.mem_cons.mp h with e | h
    · cases e
      simp [List.lookup]
    · have ne : x ≠ y := fun z => nd.1 (by rw [← z]; exact List.mem_map_of_mem (f := (·.1)) h)
      have nb : (x == y) = false := by simpa using ne
      simp only [List.lookup, nb]
      exact ih nd.2 h
theorem nodup_rev {l : List Str} (h : l.Nodup) : l.reverse.Nodup := by
  unfold List.Nodup
  rw [List.pairwise_reverse]
  exact h.imp fun z => z.symm
theorem zip_keys : ∀ {ps : List Str} {us : List Value}, us.length = ps.length → (ps.zip us).map (·.1) = ps
  | [], [], _ => rfl
  | p :: ps, u :: us, h => by
    have h' : us.length = ps.length := by simpa using h
    show p :: (ps.zip us).map (·.1) = _
    rw [zip_keys h']
theorem zip_look {ps : List Str} {us : List Value} {i : Nat} {y : Str} {u : Value} (nd : ps.Nodup) (hl : us.length = ps.length) (h1 : ps[i]? = some y) (h2 : us[i]? = some u) : (ps.zip us).reverse.lookup y = some u := by
  refine lookup_nd (by rw [List.map_reverse, zip_keys hl]; exact nodup_rev nd) (List.mem_reverse.mpr ?_)
  refine List.mem_of_getElem? (i := i) ?_
  rw [List.getElem?_zip_eq_some]
  exact ⟨h1, h2⟩

theorem inv_startS {CX : CXT} {P : Program} {w : World} {K : PySem.W.Frag} {mg : Str → Option Value} {base : Heap} {N ps : List Str} {qual : Str} {scope : Scope} {f cda cc D : Addr} {A : Around} {outer : List Env} {s : Shared} {H : Hp} {E : XK} {us : List Value} {vs : List V} {h0 : Heap} {tk : Nat}
    {cl : Value} {cld : Option Addr} {csl : Array (Option Value)}
    (S : SupScope N ps scope) (hd : A.handled = none) (e0 : Env0 P w K mg base A outer s H) (hl : vs.length = ps.length) (r : Vals vs us) (hcc : K.lookup cc = some ⟨cl, cld, .cell (some (.ref D)), csl⟩)
    (hns : h0.Ns s.heap.objs.size (fun x => (ps.zip us).reverse.lookup x)) (hk : ∀ b o, s.heap.get? b = some o → h0.get? b = some o) :
    Inv (cxS CX P w K mg base N qual scope f cda cc A outer s H E) [] (L2.start N vs) H { s with heap := h0, toks := tk } := by
  have hpl : ps.length ≤ N.length := by have := congrArg List.length S.pre; rw [List.length_take] at this; omega
  have noA : ∀ b : Addr, b ∉ (cxS CX P w K mg base N qual scope f cda cc A outer s H E).ex := fun b z => absurd (show b ∈ ([] : List Addr) from z) (by simp)
  have hbase : base.get? cc = some ⟨cl, cld, .cell (some (.ref D)), csl⟩ := e0.mod.kin _ _ hcc
  have cells : ∀ x c, ([(("__class__" : Str), cc)] : List (Str × Addr)).lookup x = some c → c = cc := fun x c e => by
    simp only [List.lookup] at e
    split at e
    · exact (Option.some.inj e).symm
    · cases e
  have cellx : ∀ x c, ([(("__class__" : Str), cc)] : List (Str × Addr)).lookup x = some c → x = ("__class__" : Str) := fun x c e => by
    simp only [List.lookup] at e
    split at e
    · rename_i q
      exact eq_of_beq q
    · cases e
  refine ⟨⟨e0.mod, S.kind, rfl, rfl, Nat.le_refl _, fun y z c h1 h2 => ?_, fun y hy => ?_, fun y c h _ => Bool.noConfusion h, fun _ => hd, Around.frames_deeper e0.frames, .inr ⟨rfl, rfl⟩, fun b z => absurd z (noA b), e0.bs, e0.bsz, fun b _ _ => noA b, fun b z => absurd z (noA b), e0.funs, e0.frf⟩,
    rfl, e0.bare, Un.kept hk, ⟨_, hns, fun i y v h1 h2 h3 => ?_⟩, fun y c h => ?_, e0.hok.fresh (Nat.le_refl _), fun y c h => ?_, fun p hp => absurd (show p ∈ ([] : List (Addr × Obj)) from hp) (by simp), e0.hok.kept hk, ?_⟩
  · exact (cellx y c h1).trans (cellx z c h2).symm
  · have hy : scope.names.lookup y = some .cell ∨ scope.names.lookup y = some .free := hy
    rcases hy with hy | hy
    · exact absurd rfl (S.nocell _ (PySem.mem_of_lookup hy))
    · have e := S.free _ (PySem.mem_of_lookup hy) rfl
      have e' : y = ("__class__" : Str) := e
      subst e'
      exact ⟨cc, by show ([(("__class__" : Str), cc)] : List (Str × Addr)).lookup _ = _; simp [List.lookup]⟩
  · have hi : i < vs.length := by
      unfold L2.start at h2
      by_cases hi : i < vs.length
      · exact hi
      · rw [List.getElem?_append_right (by simpa using hi)] at h2
        rw [List.getElem?_replicate] at h2
        split at h2 <;> cases h2
    have ha : vs[i]? = some v := by
      unfold L2.start at h2
      rw [List.getElem?_append_left (by simpa using hi), List.getElem?_map] at h2
      cases e : vs[i]? with
      | none => rw [e] at h2; cases h2
      | some a => rw [e] at h2; cases h2; rfl
    obtain ⟨u, hu, rv⟩ := r.get ha
    have hp : ps[i]? = some y := by
      rw [← S.pre, List.getElem?_take_of_lt (by omega)]; exact h1
    have ndP : ps.Nodup := by rw [← S.pre]; exact S.nd.sublist (List.take_sublist _ _)
    exact ⟨u, rv, .inl ⟨S.par y (List.mem_of_getElem? hp), zip_look ndP (r.length.symm.trans hl) hp hu⟩⟩
  · have e := cells y c h
    rw [e]
    exact ⟨_, _, hk _ _ (e0.bs _ _ hbase).1, rfl⟩
  · rw [cells y c h]
    exact (e0.bs _ _ hbase).2
  · unfold L2.start
    show _ = N.length
    rw [List.length_append, List.length_map, List.length_replicate]
    omega
end HB

set_option Elab.async false
set_option linter.all false
set_option maxRecDepth 100000
set_option maxHeartbeats 4000000
namespace HB
open PySem PySem.Spec PyProof.Rows L2

section
variable {CX : CXT} {P : Program} {w : World} {K : PySem.W.Frag} {mg : Str → Option Value} {base : Heap} {k : Nat} {f D : Addr} {fd : FuncData} {name qual : Str} {params : Arguments} {rest : List Stmt} {scope : Scope} {N ps : List Str} {sp : Sp} {p0 p1 apos pos pos' p2 : Pos} {m : Str} {j : Nat}

/-- the bound built-in __init__, called upon one text -/
theorem mw_call {X : Cx} {pins : List (Addr × Obj)} {σ : L2.St} {H : Hp} {s : Shared} {u a : Addr} {us : List Value} {Q : Value → Shared → Prop} {E : Value → Shared → Prop} (T : OexC X.K D) (I : Inv X pins σ H s) (e : H a = some (exo a D none)) (hu : s.heap.get? u = some (PySem.W.kxs_mw "ValueError.__init__" a)) (hl : us.length ≤ sizeLine)
    (h : ∀ s', Inv X pins σ H s' → Q .none s') : wpAny (model X.prog X.w) X.A (call (.ref u) us) Q E s := by
  obtain ⟨nm, q, N', bs, bm, sn, sub, ab, col, dd, k0, k1, k2, k3, k5, hC, hbm⟩ := T.cls
  obtain ⟨t1, he⟩ := exo_at I.hok e
  have hC' := I.kIn _ _ hC
  have FB := F.excBase_ValueError
  obtain ⟨hp, g, d, t, os⟩ := s
  refine wpAny_call (codeAny_of_tree ?_)
  show wpAny _ X.A.in1 (callAny (.ref u) ⟨us, []⟩) _ _ _
  simp only [callAny]
  refine wpAny_bind (wpAny_load hu ?_)
  simp only [PySem.W.kxs_mw, show (Value.type "method-wrapper" == Value.type "method" || Value.type "method-wrapper" == Value.type "builtin_function_or_method" || Value.type "method-wrapper" == Value.type "method-wrapper") = true by decide, if_true]
  refine PySem.W.KFB.if_so (by decide) ?_
  refine wpAny_bind (PySem.W.check_bound_init FB.toExcCallFacts hC' he rfl ?_)
  refine wpAny_bind (wpAny_pure (wpAny_pure ?_))
  refine ⟨plainId_quiet FB.init.plain _, codeAny_builtin FB.initEntry ?_⟩
  refine PySem.W.exc_init_tree (cls := .ref D) (t0 := t1) (dv := none) (c2 := .none) (c3 := .none) (b4 := .bool false) he hl fun h' kk hx _ => ?_
  have J := I.write (t' := t) (x := a) (e := a) (o := exo a D none) (by rw [e]; exact True.intro) (.inl rfl) kk ⟨_, hx⟩ (exo_ok hx)
  have eu : upd H a (exo a D none) = H := by
    funext b
    by_cases hb : b = a
    · rw [hb, upd_same, e]
    · rw [upd_ne hb]
  rw [eu] at J
  exact h _ J
abbrev supBody (p0 p1 apos pos pos' p2 : Pos) (m : Str) (j : Nat) (rest : List Stmt) : List Stmt := .Expr (.Call (.Attribute (.Call (.Name "super" p0) [] [] p1) "__init__" apos) [.Constant (.str m) j p2] [] pos) pos' :: rest
theorem inv_pin {X : Cx} {pins : List (Addr × Obj)} {σ : L2.St} {H : Hp} {s : Shared} {o : Obj} {t' : Nat} (I : Inv X pins σ H s) (hd : ∀ v, o.data ≠ .cell v) (hf : o.isFreed = false) :
    Inv X ((s.heap.objs.size, o) :: pins) σ H { s with heap := s.heap.push o, toks := t' } := by
  have J : Inv X pins σ H { s with heap := s.heap.push o, toks := t' } := I.kept fun b u e => Heap.get?_push_of_some _ e
  refine J.pins_of fun p hp => ?_
  rcases List.mem_cons.mp hp with rfl | hp
  · refine ⟨Heap.get?_push_size _ hf, I.hok.fresh (Nat.le_refl _), Nat.ne_of_gt I.lt, I.nofs (Nat.le_refl _), hd⟩
  · exact J.pin p (List.mem_append_right _ hp)
abbrev SupForm (p0 p1 apos pos p2 : Pos) (m : Str) (j : Nat) : Prop := ∀ env : Env, ∃ pl : Sem Bool, eval (.Call (.Attribute (.Call (.Name "super" p0) [] [] p1) "__init__" apos) [.Constant (.str m) j p2] [] pos) env = (do
      let ov ← attributeBase (.Call (.Name "super" p0) [] [] p1) "__init__" env (eval (.Call (.Name "super" p0) [] [] p1) env)
      standAt apos.atName
      let (f, first) ← holding [ov] (getMethod ov "__init__" pl)
      callWith pos f first (backTo pos (starEach [.Constant (.str m) j p2] env)) [])
theorem sup_stmt {E : XK} {A : Around} {outer : List Env} {s0 s : Shared} {H0 H : Hp} {σ : L2.St} {cda cc a : Addr} {ar : Arg} {D' : Ends} {t : TS}
    {oc : Value} {od : Option Addr} {kV doc pm ct : Value} {an : Option Addr} {osl : Array (Option Value)} {ccl : Value} {cdd : Option Addr} {vs : Array Value} {ccs : Array (Option Value)} {cl : Value} {cld : Option Addr} {csl : Array (Option Value)} {file : Str} {tf : Tok} {R : Flow → Shared → Prop} {body : List Stmt}
    (hform : SupForm p0 p1 apos pos p2 m j) (S : SupScope N ps scope) (Z : ExcK K D) (hfd : fd = PySem.W.ksFn name qual params body scope .none kV doc pm an (.ref cda) ct cc) (lf : K.lookup f = some ⟨oc, od, .func fd, osl⟩)
    (lc : K.lookup cda = some ⟨ccl, cdd, .fields vs, ccs⟩) (hvs : vs[2]? = some (.str file tf)) (hfile : ((P.main.file : Str) == file) = true) (lcc : K.lookup cc = some ⟨cl, cld, .cell (some (.ref D)), csl⟩)
    (hs : mg "super" = none) (htop : (P.main.scope.names.lookup ("super" : Str)).isSome = false) (har : (params.posonlyargs ++ params.args).head? = some ar) (hN0 : N[0]? = some ar.arg) (hself : scope.names.lookup ar.arg = some .local)
    (I : Inv (cxS CX P w K mg base N qual scope f cda cc A outer s0 H0 E) [] σ H s) (h0 : σ[0]? = some (some (.ref a))) (ea : H a = some (exo a D none))
    (hrest : PSs (cxS CX P w K mg base N qual scope f cda cc A outer s0 H0 E) rest t) (ht : t D' σ H) (hR : ∀ fl s', SP (cxS CX P w K mg base N qual scope f cda cc A outer s0 H0 E) [] D' fl s' → R fl s') :
    _root_.PySem.wpAt (model P w) (cxS CX P w K mg base N qual scope f cda cc A outer s0 H0 E).A (.func body (envS qual scope s0.heap.objs.size f cda cc)) (execs (supBody p0 p1 apos pos pos' p2 m j rest) (envS qual scope s0.heap.objs.size f cda cc)) R (cxS CX P w K mg base N qual scope f cda cc A outer s0 H0 E).xe s := by
  subst hfd
  have X := I.kIn
  obtain ⟨cdD, hcd⟩ : ∃ cd, PySem.W.clsIn K D = some cd := by
    have z := Z.own
    unfold PySem.W.mroIn at z
    cases q : PySem.W.clsIn K D with
    | none => rw [q] at z; cases z
    | some cd => exact ⟨cd, rfl⟩
  obtain ⟨oD, hD1, hD2⟩ : ∃ oD, s.heap.get? D = some oD ∧ oD.data = .cls cdD := by
    have z := hcd
    unfold PySem.W.clsIn at z
    split at z
    · rename_i c d cd' sl ho
      cases z
      exact ⟨_, X _ _ ho, rfl⟩
    · cases z
  obtain ⟨t1, he⟩ := exo_at I.hok ea
  obtain ⟨m0, hn, hl⟩ := id I.loc
  obtain ⟨u0, ru, look⟩ := hl 0 ar.arg (.ref a) hN0 h0 (.inl hself)
  have eu0 : u0 = Value.ref a := ru
  subst eu0
  have hv : m0 ar.arg = some (.ref a) := by
    rcases look with ⟨_, z⟩ | ⟨z, _⟩
    · exact z
    · have z' : scope.names.lookup ar.arg = some .cell ∨ scope.names.lookup ar.arg = some .free := z
      rw [hself] at z'
      rcases z' with z' | z' <;> cases z'
  have hint : interactive (envS qual scope s0.heap.objs.size f cda cc) = false := by
    unfold interactive
    simp [S.kind]
  obtain ⟨pl, hf⟩ := hform (envS qual scope s0.heap.objs.size f cda cc)
  refine ks_wpAt_execs_cons (ks_wpAt_Expr_any (ks_wpAt_MethodCall (pl := pl) ?_ hf) hint rfl)
  refine ks_wpAt_super_base (env := envS qual scope s0.heap.objs.size f cda cc) (attr := "__init__") S.sup S.cls (by decide +kernel) rfl (X _ _ lf) rfl har rfl (X _ _ lc) rfl hvs hfile htop ?_
  obtain ⟨mb, b1, b2⟩ := I.mod.blt
  refine PySem.W.ks_loadName_global S.kind S.sup (Calls.loadGlobal_builtin (env := envS qual scope s0.heap.objs.size f cda cc) (I.mod.glob.keeps I.bk) hs (b1.keeps I.bk) ((b2 _ (by decide +kernel)).trans PyProof.Rows.Boot.«super») ⟨rfl, ?_⟩)
  refine wpAny_loadName_free S.kind S.cls rfl ⟨_, X _ _ lcc, rfl⟩ ?_
  refine wpAny_loadName_local S.kind hself hn hv ?_
  refine ks_wpAny_isType_cls hD1 hD2 ⟨rfl, ?_⟩
  obtain ⟨hp, g, d, tk, os⟩ := s
  refine ks_wpAny_call_super hD1 hD2 he rfl (fun c z => by cases z) (PySem.W.looks_mroIn X Z.own) (fun h' hso hk => ?_)
  have I2 : Inv (cxS CX P w K mg base N qual scope f cda cc A outer s0 H0 E) [] σ H ⟨h', g, d, tk, os⟩ := I.kept (t' := tk) hk
  have he2 := hk _ _ he
  have InA : PySem.W.InstAt h' a ({ cls := .ref D, data := .fields #[.ref t1, .none, .none, .none, .bool false, .none] } : Obj) D none := ⟨he2, rfl, rfl, trivial⟩
  have hsup := Z.sup
  unfold PySem.W.ks_superIn at hsup
  rw [hcd] at hsup
  refine PySem.W.kxs_getMethod PySem.W.kxs_ValueError (D := D) (x := a) (C := D) hso (PySem.W.looks_opaque I2.kIn Z.opq) (l₀ := cdD.mro) ?_ rfl I2.kIn hsup (InA.type.andThen (PySem.W.looks_subIn I2.kIn Z.sub)) (PySem.W.ks_ne I2.kIn InA hcd) (by decide +kernel) ?_
  · exact fun A Q E s k q => wpAny_bind ((PySem.W.looks_clsIn I2.kIn hcd) A _ E s k (wpAny_pure q))
  have I3 := inv_pin (o := PySem.W.kxs_mw "ValueError.__init__" a) (t' := tk + 1) I2 (fun v z => by cases z) rfl
  have ha : PA (cxS CX P w K mg base N qual scope f cda cc A outer s0 H0 E) [.Constant (.str m) j p2] (tCons (tC (.str m)) tNil) := pa_cons pe_str pa_nil
  refine PySem.W.kxs_callWith (i := "ValueError.__init__") (x := a) rfl ?_
  refine Calls.evalArgs_plain (thn (ha.run pos _ _ σ H (fun vs H1 => H = H1 ∧ vs.length = 1) I3 ⟨rfl, rfl⟩) fun us s1 hh => ?_)
  obtain ⟨vs1, H1, I4, r1, eH, el⟩ := hh
  subst eH
  have hu := (I4.pin _ (List.mem_append_right _ List.mem_cons_self)).1
  refine ⟨hu, ?_⟩
  have hus : us.length ≤ sizeLine := by rw [← r1.length, el]; decide
  refine mw_call Z.T I4 ea hu hus fun s' J => ?_
  have J' : Inv (cxS CX P w K mg base N qual scope f cda cc A outer s0 H0 E) [] σ H s' := J.pins_of (pins' := []) fun p hp => absurd hp (by simp)
  exact wpAt_of_wpAny (thn (hrest.run [] s' σ H D' J' ht) hR)
theorem ok_super (F : SupFn K P name qual params (supBody p0 p1 apos pos pos' p2 m j rest) scope f D fd) (hform : SupForm p0 p1 apos pos p2 m j) (Z : ExcK K D) (S : SupScope N ps scope) (hs : mg "super" = none) (htop : (P.main.scope.names.lookup ("super" : Str)).isSome = false)
    {ar : Arg} (har : (params.posonlyargs ++ params.args).head? = some ar) (hN0 : N[0]? = some ar.arg) (hself : scope.names.lookup ar.arg = some .local) (len : ∀ vs H Q E, sp vs H Q E → vs.length = ps.length)
    (hbody : ∀ (cda cc : Addr) (A : Around) (outer : List Env) (s : Shared) (H : Hp) (vs : List V) (Q : VK) (E : XK), Room k (A.deeper (envS qual scope s.heap.objs.size f cda cc)) → sp vs H Q E →
      ∃ (a : Addr) (us : List V) (t : TS), vs = .ref a :: us ∧ H a = some (exo a D none) ∧ PSs (cxS CX P w K mg base N qual scope f cda cc A outer s H E) rest t ∧ t { nx := fun _ H' => Q .non H', rt := Q } (L2.start N vs) H) :
    FnOk P w K mg base CX (k + 1) f fd ps sp := by
  obtain ⟨oc, od, kV, doc, pm, ct, an, osl, cda, cc, ccl, cdd, vs0, ccs, cl, cld, csl, file, tf, hfd, lf, hcd, lc, hvs, hfile, lcc⟩ := F.ex
  refine ⟨len, fun A outer s H args us vs Q E hr e0 hb r hsp => ?_⟩
  have hl := len _ _ _ _ hsp
  have KX : K.In s.heap := e0.mod.kin.keeps fun b o e => (e0.bs b o e).1
  have lim : s.heap.NoLimit := e0.mod.nolimit.keeps fun b o e => (e0.bs b o e).1
  obtain ⟨a, us', t, ev, ea, ht, hq⟩ := hbody cda cc A outer s H vs Q E (hr.deeper _) hsp
  have hfd' := hfd
  subst hfd
  refine ks_codeAny_call_defAt (fd := PySem.W.ksFn name qual params (supBody p0 p1 apos pos pos' p2 m j rest) scope .none kV doc pm an (.ref cda) ct cc) (body := supBody p0 p1 apos pos pos' p2 m j rest) (binds := ps.zip us) hr.depth (KX _ _ lf) rfl lim (PySem.W.codeRec_of KX hcd) rfl hb S.nocell (fun y hy => S.par y.1 (List.of_mem_zip hy).1) (fun h0 hns hk => ?_) S.co S.gen S.kind
  have I0 : Inv (cxS CX P w K mg base N qual scope f cda cc A outer s H E) [] (L2.start N vs) H { s with heap := h0, toks := s.toks + (ps.zip us).length } := inv_startS S hr.hd e0 hl r lcc hns hk
  have h0' : (L2.start N vs)[0]? = some (some (.ref a)) := by
    rw [ev]
    rfl
  refine sup_stmt hform S Z rfl lf lc hvs hfile lcc hs htop har hN0 hself I0 h0' ea ht hq (fun fl s' hsq => ?_)
  have fin : ∀ {σ' : L2.St} {H' : Hp} {v : V} {u : Value}, Inv (cxS CX P w K mg base N qual scope f cda cc A outer s H E) [] σ' H' s' → RelV v u → Q v H' → CE outer P w H s Q u s' :=
    fun {σ' H' v u} J rv q => ⟨v, H', J.os, J.bare, J.base, J.hok, rv, q⟩
  cases fl with
  | ret u =>
    obtain ⟨v, σ', H', J, rv, q⟩ := hsq
    exact fin J rv q
  | next =>
    obtain ⟨σ', H', J, q⟩ := hsq
    exact fin (v := V.non) (u := Value.none) J rfl q
  | brk =>
    obtain ⟨_, _, _, q⟩ := hsq
    exact False.elim q
  | cont =>
    obtain ⟨_, _, _, q⟩ := hsq
    exact False.elim q
end
end HB

set_option Elab.async false
set_option linter.all false
set_option maxRecDepth 100000
set_option maxHeartbeats 4000000
namespace PySem
namespace HandSPX
open Builtin Builtin.ObjectAttr
section
variable {M : Model} {A : Around} {E : Value → Shared → Prop} {h : Heap} {g : Array GenState} {d : Drawn} {t : Nat} {os : OsState}
variable {nm q : Str} {C N : Addr} {bs bm bmB : List Value} {hdct : Bool} {sn : List Str} {sub : List Value} {ab : Bool} {col : Option Bool} {dd : Option Addr} {k0 k1 k2 k3 k5 : Option Value} {B newId initId : String}
theorem check_new_ownK (F : ExcBaseFacts B newId initId bmB) (hT : ∀ X : String, bm.contains (.type X) = bmB.contains (.type X)) {rest : List Value} {kw : List (Str × Value)} {Q : Unit → Shared → Prop}
    (hC : h.get? C = some (excClassObj nm q C N bs bm hdct sn sub ab col dd k0 k1 k2 k3 k5 newId)) (hq : Q () ⟨h, g, d, t, os⟩) : wpAny M A (checkBuiltinCall newId ⟨.ref C :: rest, kw⟩) Q E ⟨h, g, d, t, os⟩ := by
  have hcont : (Value.ref C :: bm).contains (.type B) = true := by rw [List.contains_cons, hT, F.hasB, Bool.or_true]
  have hstar := F.noStar
  simp only [checkBuiltinCall, F.newKind, F.newSplit, F.newRow]
  repeat (first | refine wpAny_loadPart_at hC ?_ | (refine wpAny_isSubtype_exc hC ?_; rw [hcont]) | refine wpAny_staticBase_exc hC ?_ | refine wpAny_madeBy_exc hC ?_ | simp only [bne_self_eq_false, Bool.false_eq_true, if_false] | wp_step)
  exact hq
end
section
variable {prog : Program} {w : World} {A : Around} {E : Value → Shared → Prop} {R : Result → Shared → Prop} {h : Heap} {g : Array GenState} {d : Drawn} {t : Nat} {os : OsState}
variable {nm q : Str} {C N : Addr} {bs bm bmB : List Value} {hdct : Bool} {sn : List Str} {sub : List Value} {ab : Bool} {col : Option Bool} {dd : Option Addr} {k0 k1 k2 k3 k5 : Option Value} {B newId initId : String}
theorem new_ownK (F : ExcBaseFacts B newId initId bmB) (hT : ∀ X : String, bm.contains (.type X) = bmB.contains (.type X)) {rest : List Value} {kw : List (Str × Value)}
    (hC : h.get? C = some (excClassObj nm q C N bs bm hdct sn sub ab col dd k0 k1 k2 k3 k5 newId))
    (hq : R (.ok (.ret (.ref (h.objs.size + 1)))) ⟨(h.push { cls := .type "tuple", data := .seq rest.toArray }).push
      { cls := .ref C, data := .fields #[.ref h.objs.size, .none, .none, .none, .bool false, .none] }, g, d, t, os⟩) (hrest : rest.length ≤ sizeLine) :
    codeAny (model prog w) A (.builtin newId ⟨.ref C :: rest, kw⟩) R ⟨h, g, d, t, os⟩ := by
  have hends := F.ends
  have hcB : (Value.ref C :: bm).contains (.type B) = true := by rw [List.contains_cons, hT, F.hasB, Bool.or_true]
  have hcA : (Value.ref C :: bm).contains (.type "AttributeError") = false := by rw [List.contains_cons, hT, F.noAttr]; rfl
  have hcN : (Value.ref C :: bm).contains (.type "NameError") = false := by rw [List.contains_cons, hT, F.noName]; rfl
  refine codeAny_builtinAt F.entry ?_
  unfold Builtin.«BaseException.__new__»
  refine wpAt_bind ?_
  show wpAt _ _ _ (stack >>= _) _ _ _
  refine wpAt_bind (wpAt_stack fun p below => wpAt_of_wpAny ?_)
  wp_walk
  refine wpAt_of_wpAny ?_
  rw [F.owner]
  repeat (first | with_reducible refine wpAny_madeHere_exc F.canon hC ?_ | with_reducible refine wpAny_loadPart_at hC ?_ | (with_reducible refine wpAny_isSubtype_exc hC ?_; first | rw [hcB] | rw [hcA] | rw [hcN]) | wp_step)
  show R _ _
  rw [Heap.size_push]
  exact hq

theorem type_call_ownK (F : ExcBaseFacts B newId initId bmB) (hT : ∀ X : String, bm.contains (.type X) = bmB.contains (.type X)) {rest : List Value} {kw : List (Str × Value)} {fI : Addr} {Q : Fin → Shared → Prop}
    (hC : h.get? C = some (excClassObj nm q C N bs bm hdct sn sub ab col dd k0 k1 k2 k3 k5 newId))
    (hi : W.Looks (model prog w) h (typeLookup (.ref C) "__init__") (some (.ref fI))) (hb : ∀ self, W.Looks (model prog w) h (bindSpecial (.ref fI) self) (.ref fI, [self])) (hrest : rest.length ≤ sizeLine)
    (hq : codeAny (model prog w) A (.call (.ref fI) ⟨.ref (h.objs.size + 1) :: rest, kw⟩)
      (fun r s' => match r with | .ok (.ret v) => v = .none ∧ Q (.done (.ret (.ref (h.objs.size + 1)))) s' | .ok _ => False | .error e => E e s')
      ⟨(h.push (W.kdv_tup rest)).push (excO C h.objs.size), g, d, t, os⟩) :
    wpAny (model prog w) A (Builtin.«type.__call__» ⟨.ref C :: rest, kw⟩) Q E ⟨h, g, d, t, os⟩ := by
  repeat (first | with_reducible refine wpAny_loadPart_at hC ?_ | with_reducible refine wpAny_madeBy_exc hC ?_ | wp_step)
  refine codeAny_call_builtin_code (Code.quiet_builtin _ F.quiet) (check_new_ownK F hT hC ?_)
  refine new_ownK F hT hC ?_ hrest
  show wpAny _ _ _ _ _ _
  have k : ∀ b o, h.get? b = some o → ((h.push (W.kdv_tup rest)).push (excO C h.objs.size)).get? b = some o := fun b o e => Heap.get?_push_of_some _ (Heap.get?_push_of_some _ e)
  have hC₁ := k _ _ hC
  have hget : ((h.push (W.kdv_tup rest)).push (excO C h.objs.size)).get? (h.objs.size + 1) = some (excO C h.objs.size) := by heap_get
  have hcC : (Value.ref C :: bm).contains (.ref C) = true := by simp
  have i1 := hi.keeps k
  have b1 := (hb (.ref (h.objs.size + 1))).keeps k
  unfold isInstance
  repeat (first | with_reducible refine wpAny_loadPart_at hget ?_ | (with_reducible refine wpAny_isSubtype_exc hC₁ ?_; rw [hcC]) | wp_step)
  show wpAny _ _ (typeLookup (.ref C) _) _ _ _
  refine i1.at ?_
  refine wpAny_holding (wpAny_bind (b1.at ?_))
  refine wpAny_bind (wpAny_call (codeAny_mono hq fun r s' z => ?_))
  rcases r with e | (v | _ | _ | _) <;> first | exact z | exact z.elim | skip
  obtain ⟨rfl, z⟩ := z
  first
    | exact wpAny_pure (wpAny_pure z)
    | (wp_walk; exact z)
theorem call_ownK (F : ExcBaseFacts B newId initId bmB) (hT : ∀ X : String, bm.contains (.type X) = bmB.contains (.type X)) {rest : List Value} {kw : List (Str × Value)} {fI : Addr}
    (hC : h.get? C = some (excClassObj nm q C N bs bm hdct sn sub ab col dd k0 k1 k2 k3 k5 newId))
    (hi : W.Looks (model prog w) h (typeLookup (.ref C) "__init__") (some (.ref fI))) (hb : ∀ self, W.Looks (model prog w) h (bindSpecial (.ref fI) self) (.ref fI, [self])) (hrest : rest.length ≤ sizeLine)
    (hq : codeAny (model prog w) (A.under (.builtin "type.__call__" ⟨.ref C :: rest, kw⟩)) (.call (.ref fI) ⟨.ref (h.objs.size + 1) :: rest, kw⟩) (W.InitBack (h.objs.size + 1) R)
      ⟨(h.push (W.kdv_tup rest)).push (excO C h.objs.size), g, d, t, os⟩) :
    codeAny (model prog w) A (.call (.ref C) ⟨rest, kw⟩) R ⟨h, g, d, t, os⟩ := by
  have f1 := tc_lookup
  have f2 := tc_bind (.ref C)
  have hTy : (⟨h, g, d, t, os⟩ : Shared).TypeIs (.ref C) "type" := ⟨_, hC, rfl⟩
  refine codeAny_of_tree ?_
  show wpAny _ _ (callAny (.ref C) _) _ _ _
  repeat (any_goals (first | assumption | with_reducible refine wpAny_loadPart_at hC ?_ | wp_step))
  refine ⟨rfl, ?_⟩
  refine codeAny_call_builtin_at (Code.quiet_builtin _ (by decide +kernel)) entry_typeCall (wpAny_check_type_call_sub hC (type_call_ownK F hT hC hi hb hrest ?_))
  refine codeAny_mono hq fun r s' z => ?_
  rcases r with e | (v | _ | _ | _) <;> exact z
end
end HandSPX
end PySem

set_option Elab.async false
set_option linter.all false
set_option maxRecDepth 100000
set_option maxHeartbeats 4000000
namespace HB
open PySem PySem.Spec PyProof.Rows L2
/-- an exception value: its object, and its own dict's fields (none: no dict as yet) -/
def ExAt (H : Hp) (a C : Addr) (fs : List (Str × V)) : Prop := (H a = some (exo a C none) ∧ fs = []) ∨ ∃ d, H a = some (exo a C (some d)) ∧ H d = some (exd d fs)
/-- the class's further facts -/
structure ExcF (K : PySem.W.Frag) (C : Addr) : Prop where
  ga : PySem.W.findIn K (.ref C) "__getattribute__" = some (some (.builtin "BaseException.__getattribute__"))
  gg : PySem.W.findIn K (.ref C) "__getattr__" = some none
  exC : PySem.W.subIn K (.ref C) (.type "BaseException") = some true
  hdC : PySem.W.hasDictIn K C = true
  ca : PySem.W.findIn K (.ref C) "__class__" = some (some (.builtin "object.__class__"))
  cn : PySem.W.specialIn K (.builtin "object.__class__") "__get__" = some (some (.builtin "getset_descriptor.__get__"))
  ct : PySem.W.takesIn K (.builtin "object.__class__") = some true
  cm : PySem.W.mroIn K C (.type "object") = some true
section
variable {X : Cx} {CX : CXT} {k : Nat} {fI C : Addr} {fd : FuncData} {ps ks : List Str} {sp : Sp} {E : XK} {x : Str} {p pos : Pos} {e : Expr} {es : List Expr} {kws : List Keyword} {t tk : TA}
theorem run_exc {pins : List (Addr × Obj)} {σ : L2.St} {H : Hp} {s : Shared} {Q : VK} {us full : List Value} {kw : List (Str × Value)} {vs : List V} (T : OexC X.K C) (iC : PySem.W.findIn X.K (.ref C) "__init__" = some (some (.ref fI))) (tI : PySem.W.typeIn X.K (.ref fI) = some (.type "function"))
    (F1 : FnOk X.prog X.w X.K X.mg X.base CX k fI fd ps sp) (hr : Room (k + 1) X.A) (hb : ∀ (s : Shared) (v : Value), X.K.In s.heap → (v :: full).length = ps.length → BindsTo s fd ⟨v :: us, kw⟩ (ps.zip (v :: full))) (hx : Passes CX X E)
    (I : Inv X pins σ H s) (r : Vals vs full) (hz : us.length ≤ sizeLine)
    (h : ∀ a, H a = none → sp (.ref a :: vs) (upd H a (exo a C none)) (fun v H2 => v = .non ∧ Q (.ref a) H2) E) :
    wpAny (model X.prog X.w) X.A (call (.ref C) us kw) (EP X pins σ Q) X.xe s := by
  obtain ⟨nm, q, N, bs, bm, sn, sub, ab, col, dd, k0, k1, k2, k3, k5, hC, hbm⟩ := T.cls
  obtain ⟨hp, g, dr, tk, os⟩ := s
  have hsz : hp.objs.size ≤ hp.objs.size + 1 := Nat.le_succ _
  have hn : H (hp.objs.size + 1) = none := I.hok.fresh hsz
  have hq := h (hp.objs.size + 1) hn
  have kk : ∀ b o, hp.get? b = some o → ((hp.push (PySem.W.kdv_tup us)).push (PySem.HandSPX.excO C hp.objs.size)).get? b = some o := fun b o e => Heap.get?_push_of_some _ (Heap.get?_push_of_some _ e)
  have hget : ((hp.push (PySem.W.kdv_tup us)).push (PySem.HandSPX.excO C hp.objs.size)).get? (hp.objs.size + 1) = some (PySem.HandSPX.excO C hp.objs.size) := by heap_get
  have I2 : Inv X pins σ (upd H (hp.objs.size + 1) (exo (hp.objs.size + 1) C none)) ⟨(hp.push (PySem.W.kdv_tup us)).push (PySem.HandSPX.excO C hp.objs.size), g, dr, tk, os⟩ :=
    I.laid (t' := tk) (a := hp.objs.size + 1) (o := exo (hp.objs.size + 1) C none) (h' := (hp.push (PySem.W.kdv_tup us)).push (PySem.HandSPX.excO C hp.objs.size)) kk hsz (exo_ok hget)
  have r2 : Vals (V.ref (hp.objs.size + 1) :: vs) (Value.ref (hp.objs.size + 1) :: full) := .cons rfl r
  have hl : (Value.ref (hp.objs.size + 1) :: full).length = ps.length := by
    have e := r2.length
    rw [F1.len _ _ _ _ hq] at e
    exact e.symm
  refine wpAny_call (PySem.HandSPX.call_ownK F.excBase_ValueError (fun Y => PySem.HandSPX.refsVE_contains Y bm hbm) (I.kIn _ _ hC) (PySem.W.looks_findIn I.kIn iC) (fun self => PySem.W.bind_fn I.kIn self tI) hz
    (codeAny_mono (F1.run _ X.stack _ _ ⟨Value.ref (hp.objs.size + 1) :: us, kw⟩ (Value.ref (hp.objs.size + 1) :: full) _ _ E (hr.make C us kw) (I2.env0.make C us kw) (hb _ _ I2.kIn hl) r2 hq) fun r s' hq' => ?_))
  cases r with
  | error er => exact hx pins σ _ _ er s' I2 hq'
  | ok fl =>
    cases fl with
    | ret u =>
      obtain ⟨v, H', I3, rv, ev, q3⟩ := I2.after hq'
      subst ev
      exact ⟨rv, ⟨V.ref (hp.objs.size + 1), H', I3, rfl, q3⟩⟩
    | next => exact False.elim hq'
    | brk => exact False.elim hq'
    | cont => exact False.elim hq'
/-- C(e, ..), as a value -/
def tMkV (C : Addr) (sp : Sp) (E : XK) (ta : TA) : TE := fun σ H Q => ta σ H fun vs H1 => vs.length ≤ 1000 ∧ ∀ a, H1 a = none → sp (.ref a :: vs) (upd H1 a (exo a C none)) (fun v H2 => v = .non ∧ Q (.ref a) H2) E
theorem pe_exc (T : OexC X.K C) (iC : PySem.W.findIn X.K (.ref C) "__init__" = some (some (.ref fI))) (tI : PySem.W.typeIn X.K (.ref fI) = some (.type "function")) (F1 : FnOk X.prog X.w X.K X.mg X.base CX k fI fd ps sp) (hr : Room (k + 1) X.A) (hb : Binds X.K fd ps []) (hx : Passes CX X E) (hg : Gl X x) (hm : X.mg x = some (.ref C)) (ha : PA X (e :: es) t)
    (hdb : (x == ("__debug__" : Str)) = false := by decide) (he : starEach (e :: es) X.env = (false, eval e X.env) :: starEach es X.env := by rfl) (hpl : (backTo pos (starEach es X.env)).any (·.1) = false := by rfl) :
    PE X (.Call (.Name x p) (e :: es) [] pos) (tMkV C sp E t) := by
  refine ⟨fun pins s σ H Q I h => ?_⟩
  refine wpAny_Call_Name_kw (ld_glob I hg hm ?_ hdb)
  refine PySem.W.callWith_K (h₀ := X.base) I.ok.mod.kin T.kC (thn (ha.run pos pins s σ H _ I h) fun us s1 ⟨vs, H1, I1, r1, hz, q1⟩ => ⟨I1.kIn, ?_⟩) he hpl
  show wpAny _ _ (call (.ref C) us) _ _ _
  refine run_exc T iC tI F1 hr (fun s v hK hl => ?_) hx I1 r1 (by rw [← Paired.length r1, sizeLine_eq]; omega) q1
  have z := hb s (v :: us) hK (by simpa using hl)
  simpa using z
theorem pe_exc0 (T : OexC X.K C) (iC : PySem.W.findIn X.K (.ref C) "__init__" = some (some (.ref fI))) (tI : PySem.W.typeIn X.K (.ref fI) = some (.type "function")) (F1 : FnOk X.prog X.w X.K X.mg X.base CX k fI fd ps sp) (hr : Room (k + 1) X.A) (hb : Binds X.K fd ps []) (hx : Passes CX X E) (hg : Gl X x) (hm : X.mg x = some (.ref C))
    (hdb : (x == ("__debug__" : Str)) = false := by decide) : PE X (.Call (.Name x p) [] [] pos) (tMkV C sp E tNil) := by
  refine ⟨fun pins s σ H Q I h => ?_⟩
  refine wpAny_Call_Name_kw (ld_glob I hg hm ?_ hdb)
  refine PySem.W.callWith_K0 I.kIn T.kC ?_
  refine run_exc (us := []) (full := []) (vs := []) T iC tI F1 hr (fun s v hK hl => ?_) hx I .nil (by decide) h.2
  have z := hb s [v] hK (by simpa using hl)
  simpa using z
/-- C(k = v, ..): gV puts the values in the parameters' order -/
def tMkK (C : Addr) (sp : Sp) (E : XK) (g : List V → List V) (tk : TA) : TE := fun σ H Q => tk σ H fun zs H1 => ∀ a, H1 a = none → sp (.ref a :: g zs) (upd H1 a (exo a C none)) (fun v H2 => v = .non ∧ Q (.ref a) H2) E
structure KwB (K : PySem.W.Frag) (fd : FuncData) (ps ks : List Str) (g : List Value → List Value) (gV : List V → List V) : Prop where
  to : ∀ (s : Shared) (v : Value) (ws : List Value), K.In s.heap → (v :: g ws).length = ps.length → BindsTo s fd ⟨[v], ks.zip ws⟩ (ps.zip (v :: g ws))
  rel : ∀ {zs : List V} {ws : List Value}, Vals zs ws → Vals (gV zs) (g ws)
theorem pe_excK {g : List Value → List Value} {gV : List V → List V} (T : OexC X.K C) (iC : PySem.W.findIn X.K (.ref C) "__init__" = some (some (.ref fI))) (tI : PySem.W.typeIn X.K (.ref fI) = some (.type "function")) (F1 : FnOk X.prog X.w X.K X.mg X.base CX k fI fd ps sp) (hr : Room (k + 1) X.A) (hb : KwB X.K fd ps ks g gV) (hx : Passes CX X E) (hg : Gl X x) (hm : X.mg x = some (.ref C)) (hkw : PK X kws tk)
    (hall : (backToKw pos (keywordEach kws X.env)).all (·.1.isSome) = true := by rfl) (hks : (backToKw pos (keywordEach kws X.env)).filterMap (·.1) = ks := by rfl) (hdb : (x == ("__debug__" : Str)) = false := by decide)
    (hpl : ((backTo pos (starEach [] X.env)).any (·.1) || (backToKw pos (keywordEach kws X.env)).any (·.1.isNone)) = false := by rfl) :
    PE X (.Call (.Name x p) [] kws pos) (tMkK C sp E gV tk) := by
  refine ⟨fun pins s σ H Q I h => ?_⟩
  refine wpAny_Call_Name_kw (ld_glob I hg hm ?_ hdb)
  refine PySem.W.callWith_KW0 (h₀ := X.base) I.ok.mod.kin T.kC hall ?_ hpl
  refine thn (hkw.run pos pins s σ H _ I h) fun ws s2 ⟨zs, H2, I2, rz, q2⟩ => ⟨I2.kIn, ?_⟩
  rw [hks]
  exact run_exc (us := []) T iC tI F1 hr (fun s v hK hl => hb.to s v ws hK hl) hx I2 (hb.rel rz) (by decide) q2
end
section
variable {X : Cx} {pins : List (Addr × Obj)} {σ : L2.St} {H : Hp} {s : Shared} {a C : Addr} {fs : List (Str × V)}
theorem ExAt.inst (h : ExAt H a C fs) (I : Inv X pins σ H s) : ∃ (ox : Obj) (od : Option Obj), PySem.W.InstAt s.heap a ox C od := by
  rcases h with ⟨e, _⟩ | ⟨d, e, ed⟩
  · obtain ⟨t1, ho⟩ := exo_at I.hok e
    exact ⟨_, none, ho, rfl, rfl, trivial⟩
  · obtain ⟨t1, ho⟩ := exo_at I.hok e
    obtain ⟨mA, hns, _⟩ := exd_at I.hok ed
    obtain ⟨o, es, ep, ho2, _⟩ := hns
    exact ⟨_, some o, ho, rfl, rfl, ho2⟩
/-- e.f -/
def tExF (K : PySem.W.Frag) (f : Str) (te : TE) : TE := fun σ H Q => te σ H fun x H1 => ∃ (a C : Addr) (fs : List (Str × V)) (v : V), x = .ref a ∧ ExAt H1 a C fs ∧ ExcF K C ∧ PySem.W.findIn K (.ref C) f = some none ∧ fs.lookup f = some v ∧ Q v H1
theorem pe_exf {e : Expr} {te : TE} {pos : Pos} {n : Str} (he : PE X e te) (hb : attributeBase e n X.env (eval e X.env) = eval e X.env := by rfl) : PE X (.Attribute e n pos) (tExF X.K n te) := by
  refine ⟨fun pins s σ H Q I h => ?_⟩
  refine attr_of hb (thn (he.run pins s σ H _ I h) fun u s1 hh => ?_)
  obtain ⟨x, H1, I1, rx, a, C, fs, v, ex, ea, T, hno, l, q⟩ := hh
  subst ex
  obtain rfl : u = Value.ref a := rx
  rcases ea with ⟨_, ef⟩ | ⟨d, ea, ed⟩
  · rw [ef] at l
    cases l
  obtain ⟨t1, ho⟩ := exo_at I1.hok ea
  obtain ⟨mA, hns, hr⟩ := exd_at I1.hok ed
  obtain ⟨od, ho2, hl⟩ := lookIn_ns hns
  obtain ⟨u, hu, ru⟩ := RelO.some_of (v := v) (o := mA n) (by rw [← l]; exact hr n)
  have J : PySem.W.InstAt s1.heap a _ C (some od) := ⟨ho, rfl, rfl, ho2⟩
  exact HandSPX.exc_get I1.kIn J T.ga T.gg T.exC (PySem.W.findObj_own T.hdC hno rfl (by rw [hl, hu])) (handed_of ru) ⟨v, H1, I1.tok _, ru, q⟩
/-- isinstance(e, c) -/
def rIsX (K : PySem.W.Frag) : List V → Hp → VK → Prop := fun xs H Q => ∃ (a C : Addr) (fs : List (Str × V)) (c : V) (u : Value) (b : Bool), xs = [.ref a, c] ∧ ExAt H a C fs ∧ ExcF K C ∧ ClsV c u ∧ PySem.W.kitOne K (.ref C) u = some b ∧ Q (.bl b) H
theorem call_isX : CallR X (.builtin "isinstance") (rIsX X.K) := by
  intro pins s σ H xs us Q I r h
  obtain ⟨a, C, fs, c, u, b, rfl, ea, T, kc, e, q⟩ := h
  obtain ⟨u1, u2, rfl, r1, r2⟩ := vals2 r
  have e2 := kc.eq r2
  subst e2
  cases (show u1 = Value.ref a from r1)
  obtain ⟨ox, od, J⟩ := ea.inst I
  have hcl : (PySem.W.clsIn X.K C).isSome = true := by
    obtain ⟨cd, hc, _⟩ := PySem.W.any_some T.hdC
    rw [hc]
    rfl
  exact PySem.W.kia_one (PySem.W.kitx_exc hcl T.ga T.gg T.exC T.ca T.cn T.ct T.cm) I.kIn J e (by intro z; cases z) fun tk => ⟨.bl b, H, I.tok tk, rfl, q⟩
end
end HB

set_option Elab.async false
set_option linter.all false
set_option maxRecDepth 100000
set_option maxHeartbeats 4000000
namespace PySem.SeqAt
open AutoSeq1 (wpAny_loadPart')
open MeetsSeq MeetsSeq2 MeetsSeq3 SeqRoads2
section
variable {prog : Program} {w : World}
theorem tuple_neIn (l b : Addr) (items items2 : Array Value) (n n2 : Nat) (dd dd2 : Option Addr) (sl sl2 : Array (Option Value)) (e : Nat → Bool) :
    MeetsIn prog w (Builtin.«tuple.__ne__» ⟨[.ref l, .ref b], []⟩)
      (fun A R s => s.heap.get? l = some { cls := .type "tuple", dict := dd, data := .seq items n, slots := sl } ∧ s.heap.get? b = some { cls := .type "tuple", dict := dd2, data := .seq items2 n2, slots := sl2 } ∧
        (∀ j (h1 : j < items.size) (h2 : j < items2.size), EqIn prog w A.in1 s items[j] items2[j] (e j)) ∧
        R (.ok (.ret (.bool (!((List.range (min items.size items2.size)).all e && items.size == items2.size))))) s) :=
  .of_wp fun A R s h => by
    obtain ⟨hp, g, d, tk, os⟩ := s; obtain ⟨hl, hb, he, h⟩ := h
    have f2 := AutoSeq1.sub_tuple_tuple
    have hZ : (items.toList.zip items2.toList).length = min items.size items2.size := by simp
    wp_walk using wpAny_loadPart' hl, wpAny_loadPart' hb, wpAny_forIn_list _ (fun rest b s' => b.1 = none ∧ s' = ⟨hp, g, d, tk, os⟩ ∧ ∃ i, rest = (items.toList.zip items2.toList).drop i ∧
      R (.ok (.ret (.bool (!(((List.range (min items.size items2.size)).drop i).all e && items.size == items2.size))))) ⟨hp, g, d, tk, os⟩) _
    case turn =>
      rintro ⟨y, x⟩ rest b s' ⟨hb', rfl, i, hz, hR⟩
      have hlt : i < (items.toList.zip items2.toList).length := by
        rcases Nat.lt_or_ge i (items.toList.zip items2.toList).length with h' | h'
        · exact h'
        · rw [List.drop_of_length_le h'] at hz; cases hz
      have hm : i < min items.size items2.size := hZ ▸ hlt
      have h1 : i < items.size := Nat.lt_of_lt_of_le hm (Nat.min_le_left _ _)
      have h2 : i < items2.size := Nat.lt_of_lt_of_le hm (Nat.min_le_right _ _)
      rw [List.drop_eq_getElem_cons hlt] at hz
      injection hz with hyx hrest
      have hy : y = items[i] := by have := congrArg Prod.fst hyx; simpa using this
      have hx : x = items2[i] := by have := congrArg Prod.snd hyx; simpa using this
      subst hy hx
      have hd : (List.range (min items.size items2.size)).drop i = i :: (List.range (min items.size items2.size)).drop (i + 1) := by simp [List.drop_eq_getElem_cons, hm]
      rw [hd, List.all_cons] at hR
      refine wpAny_bind (he i h1 h2 _ _ ?_)
      cases hy : e i with
      | true =>
        rw [hy] at hR
        wp_walk
        exact ⟨rfl, rfl, i + 1, hrest, by simpa using hR⟩
      | false =>
        rw [hy] at hR
        wp_walk
        exact ⟨_, rfl, by simpa using hR⟩
    case fin =>
      rintro ⟨b1, b2⟩ s' ⟨hb', rfl, i, hz, hR⟩
      simp only at hb'
      subst hb'
      have hge : min items.size items2.size ≤ i := by
        rcases Nat.lt_or_ge i (items.toList.zip items2.toList).length with h' | h'
        · rw [List.drop_eq_getElem_cons h'] at hz; cases hz
        · exact hZ ▸ h'
      rw [List.drop_of_length_le (by simpa using hge)] at hR
      wp_walk
      exact ⟨_, rfl, by simpa [Builtin.Tuple.tupleCompareSizes, bne] using hR⟩
    case h =>
      exact ⟨rfl, rfl, 0, rfl, by simpa using h⟩
theorem rcNe_tuples {A : Around} {s : Shared} {E : Value → Shared → Prop} {l b : Addr} {items items2 : Array Value} {e : Nat → Bool} {Q : Value → Shared → Prop} (hl : s.heap.IsTuple l items) (hb : s.heap.IsTuple b items2) (hu : A.units < cLine)
    (he : ∀ j (h1 : j < items.size) (h2 : j < items2.size), EqIn prog w A.in1 s items[j] items2[j] (e j)) (h : Q (.bool (!((List.range (min items.size items2.size)).all e && items.size == items2.size))) s) :
    wpAny (model prog w) A (richCompare .NotEq (.ref l) (.ref b)) Q E s := by
  obtain ⟨⟨cls, dd, data, sl⟩, ho, hc, n, hd⟩ := id hl
  obtain ⟨⟨cls2, dd2, data2, sl2⟩, ho2, hc2, n2, hd2⟩ := id hb
  simp only at hc hd hc2 hd2
  subst hc hd hc2 hd2
  exact wpAny_richCompare_same_room (T := "tuple") (op := .NotEq) ⟨_, ho, rfl⟩ ⟨_, ho2, rfl⟩ F.slot_tuple_ne (call_meetsIn F.slot_tuple_ne ⟨_, ho, rfl⟩ F.entry_tuple_ne (F.args_tuple_ne_2 _ _) (tuple_neIn l b items items2 n n2 dd dd2 sl sl2 e)
    ⟨ho, ho2, he, show Value.bool (!((List.range (min items.size items2.size)).all e && items.size == items2.size)) ≠ Value.notImplemented ∧ Q (.bool (!((List.range (min items.size items2.size)).all e && items.size == items2.size))) s from ⟨(fun x => nomatch x), h⟩⟩) hu
end
end PySem.SeqAt
namespace PySem.W
open PySem PySem.Calls PyProof.Rows PySem.Spec
open PySem.SeqAt (EqIn)
theorem rcNe_dicts {prog : Program} {w : World} {K : Type} [DecidableEq K] {knd : KeyKind prog w K} {A : Around} {E : Value → Shared → Prop} {s : Shared} {a b : Addr} {ka kb : List (K × Value)} {r : Bool} {Q : Value → Shared → Prop} (ha : (a == sysModules) = false) (hb : (b == sysModules) = false)
    (da : s.heap.DictOf knd a ka) (db : s.heap.DictOf knd b kb) (hu : A.units < cLine) (hits : ka.length = kb.length → KeqHitsIn prog w A.in1 s kb ka r) (h : Q (.bool (!(ka.length == kb.length && r))) s) :
    wpAny (model prog w) A (compareOp .NotEq (.ref a) (.ref b)) Q E s := by
  refine wpAny_richCompare_same_room (op := .NotEq) da.typeIs db.typeIs PySem.F.slot_dict_ne (wpAny_call_entry PySem.F.slot_dict_ne da.typeIs PySem.F.entry_dict_ne ?_ (PySem.F.args_dict_ne_2 _ _)) hu
  show wpAny _ _ (Builtin.Dict.dictSlotArgs "__ne__" ⟨[.ref a, .ref b], []⟩ >>= _) _ _ s
  refine wpAny_bind ?_
  unfold Builtin.Dict.dictSlotArgs
  refine wpAny_bind (wpAny_notOrdered_dict da.typeIs ?_)
  show wpAny _ _ (pure (Value.ref a, Value.ref b)) _ _ s
  refine wpAny_pure ?_
  refine wpAny_bind (wpAny_isInstance (T := "dict") db.typeIs PySem.F.sub_dict_dict ?_)
  simp only [Bool.not_true, Bool.false_eq_true, if_false]
  refine wpAny_bind (wpAny_pure (wpAny_bind (wpAny_pure ?_)))
  refine wpAny_bind (keq_samePairsIn ha hb da db hits ?_)
  refine wpAny_pure ⟨_, rfl, ?_, ?_⟩
  · exact fun x => nomatch x
  · simpa using h
end PySem.W

set_option Elab.async false
set_option linter.all false
set_option maxRecDepth 100000
set_option maxHeartbeats 4000000
namespace HB
open PySem PySem.Spec PyProof.Rows L2
/-- plain data: scalars, lists, tuples, a dict of one text key -/
inductive D where
  | non | bl (b : Bool) | int (i : Int) | str (s : Str) | lst (ds : List D) | tup (ds : List D) | dct (k : Str) (d : D)
/-- a scalar value -/
def scal1 : V → D → Prop := fun v d => (v = .non ∧ d = .non) ∨ (∃ b, v = .bl b ∧ d = .bl b) ∨ (∃ i, v = .int i ∧ d = .int i) ∨ (∃ s, v = .str s ∧ d = .str s)
/-- the places of P but a -/
abbrev But (P : Addr → Prop) (a : Addr) : Addr → Prop := fun b => P b ∧ b ≠ a
/-- v is the data d, nested at most n deep; all its objects stand at places of P, none within itself -/
def Rep (H : Hp) : Nat → (Addr → Prop) → V → D → Prop
  | 0, _ => scal1
  | n + 1, P => fun v d => scal1 v d ∨ (∃ a vs ds, v = .ref a ∧ d = .lst ds ∧ P a ∧ H a = some (.lst vs) ∧ vs.length ≤ 100 ∧ Paired (Rep H n (But P a)) vs ds) ∨
      (∃ a vs ds, v = .ref a ∧ d = .tup ds ∧ P a ∧ H a = some (.tup vs) ∧ vs.length ≤ 100 ∧ Paired (Rep H n (But P a)) vs ds) ∨ ∃ a k w e, v = .ref a ∧ d = .dct k e ∧ P a ∧ H a = some (.dK [(Sum.inr k, w)]) ∧ Rep H n (But P a) w e
theorem Rep.mono {H H' : Hp} : ∀ {n : Nat} {P P' : Addr → Prop} {v : V} {d : D}, (∀ a o, P a → H a = some o → P' a ∧ H' a = some o) → Rep H n P v d → Rep H' n P' v d
  | 0, _, _, _, _, _, h => h
  | n + 1, P, P', v, d, hh, h => by
    have hb : ∀ a b o, But P a b → H b = some o → But P' a b ∧ H' b = some o := fun a b o p e => ⟨⟨(hh b o p.1 e).1, p.2⟩, (hh b o p.1 e).2⟩
    rcases h with h | ⟨a, vs, ds, e1, e2, p, e3, lz, q⟩ | ⟨a, vs, ds, e1, e2, p, e3, lz, q⟩ | ⟨a, k, w, e, e1, e2, p, e3, q⟩
    · exact .inl h
    · exact .inr (.inl ⟨a, vs, ds, e1, e2, (hh a _ p e3).1, (hh a _ p e3).2, lz, Paired.mapP q fun x y z => Rep.mono (hb a) z⟩)
    · exact .inr (.inr (.inl ⟨a, vs, ds, e1, e2, (hh a _ p e3).1, (hh a _ p e3).2, lz, Paired.mapP q fun x y z => Rep.mono (hb a) z⟩))
    · exact .inr (.inr (.inr ⟨a, k, w, e, e1, e2, (hh a _ p e3).1, (hh a _ p e3).2, Rep.mono (hb a) q⟩))
theorem Rep.same {P : Addr → Prop} {H H' : Hp} {n : Nat} {v : V} {d : D} (s : Same H H') (h : Rep H n P v d) : Rep H' n P v d := Rep.mono (fun a o p e => ⟨p, s a o e⟩) h
theorem Rep.scal {P : Addr → Prop} {H : Hp} {v : V} {d : D} (h : scal1 v d) : ∀ {n : Nat}, Rep H n P v d
  | 0 => h
  | _ + 1 => .inl h
theorem Rep.up {H : Hp} : ∀ {n : Nat} {P : Addr → Prop} {v : V} {d : D}, Rep H n P v d → Rep H (n + 1) P v d
  | 0, _, _, _, h => .inl h
  | n + 1, P, v, d, h => by
    rcases h with h | ⟨a, vs, ds, e1, e2, p, e3, lz, q⟩ | ⟨a, vs, ds, e1, e2, p, e3, lz, q⟩ | ⟨a, k, w, e, e1, e2, p, e3, q⟩
    · exact .inl h
    · exact .inr (.inl ⟨a, vs, ds, e1, e2, p, e3, lz, Paired.mapP q fun x y z => Rep.up z⟩)
    · exact .inr (.inr (.inl ⟨a, vs, ds, e1, e2, p, e3, lz, Paired.mapP q fun x y z => Rep.up z⟩))
    · exact .inr (.inr (.inr ⟨a, k, w, e, e1, e2, p, e3, Rep.up q⟩))
/-- lists become tuples -/
def tupd : Nat → D → D
  | 0, d => d
  | n + 1, d => match d with
    | .lst ds => .tup (ds.map (tupd n))
    | .tup ds => .tup (ds.map (tupd n))
    | .dct k d => .dct k (tupd n d)
    | d => d
theorem scal1_tupd {v : V} {d : D} (h : scal1 v d) : ∀ n, tupd n d = d
  | 0 => rfl
  | n + 1 => by
    rcases h with ⟨_, rfl⟩ | ⟨b, _, rfl⟩ | ⟨i, _, rfl⟩ | ⟨s, _, rfl⟩ <;> rfl
theorem scal1_flat {v : V} {d : D} (h : scal1 v d) : flatB v = true := by
  rcases h with ⟨rfl, _⟩ | ⟨b, rfl, _⟩ | ⟨i, rfl, _⟩ | ⟨s, rfl, _⟩ <;> rfl
theorem scal1_scal {v w : V} {d : D} (h : scal1 v d) (h' : scal1 w d) : v = w ∧ L2.scal v w = true := by
  rcases h with ⟨rfl, rfl⟩ | ⟨b, rfl, rfl⟩ | ⟨i, rfl, rfl⟩ | ⟨s, rfl, rfl⟩ <;> rcases h' with ⟨rfl, e⟩ | ⟨b', rfl, e⟩ | ⟨i', rfl, e⟩ | ⟨s', rfl, e⟩ <;> cases e <;> exact ⟨rfl, rfl⟩
theorem paired_get {α β : Type} {F : α → β → Prop} : ∀ {xs : List α} {ys : List β}, Paired F xs ys → ∀ {i : Nat} {x : α} {y : β}, xs[i]? = some x → ys[i]? = some y → F x y
  | _, _, .nil, i, x, y, h, _ => by simp at h
  | _, _, .cons r t, 0, x, y, h1, h2 => by
    simp at h1 h2
    subst h1 h2
    exact r
  | _, _, .cons r t, i + 1, x, y, h1, h2 => paired_get t (by simpa using h1) (by simpa using h2)
section
variable {X : Cx} {pins : List (Addr × Obj)} {σ : L2.St} {H : Hp} {s : Shared}
theorem tup_at (I : Inv X pins σ H s) {a : Addr} {vs : List V} (h : H a = some (.tup vs)) : ∃ its : List Value, Vals vs its ∧ s.heap.IsTuple a its.toArray := by
  obtain ⟨_, its, r, o, e, c, n, d⟩ := (show ObjOk X.prog X.w H s.heap a (.tup vs) from I.hok a _ h)
  exact ⟨its, r, o, e, c, n, d⟩
theorem lst_at (I : Inv X pins σ H s) {a : Addr} {vs : List V} (h : H a = some (.lst vs)) : ∃ its : List Value, Vals vs its ∧ s.heap.IsList a its.toArray := by
  obtain ⟨_, its, n, r, e⟩ := (show ObjOk X.prog X.w H s.heap a (.lst vs) from I.hok a _ h)
  exact ⟨its, r, _, e, rfl, n, rfl⟩
theorem dct_at (I : Inv X pins σ H s) {a : Addr} {kvs : List (Key × V)} (h : H a = some (.dK kvs)) : ∃ vs, (a == sysModules) = false ∧ KV kvs vs ∧ s.heap.DictOf (mixKind X.prog X.w) a vs := by
  obtain ⟨_, y, va, ra, da⟩ := (show ObjOk X.prog X.w H s.heap a (.dK kvs) from I.hok a _ h)
  exact ⟨va, y, ra, da⟩
theorem items_tree {n : Nat} {P P' : Addr → Prop} (ih : ∀ {x y : V} {v u : Value} {d : D}, Rep H n P x d → Rep H n P' y d → RelV x v → RelV y u → PySem.W.EqTree X.prog X.w s n v u true)
    {vs ws : List V} {ds : List D} {its jts : List Value} (q : Paired (Rep H n P) vs ds) (q' : Paired (Rep H n P') ws ds) (r : Vals vs its) (r' : Vals ws jts) :
    its.toArray.size = jts.toArray.size ∧ ∀ j (h1 : j < its.toArray.size) (h2 : j < jts.toArray.size), PySem.W.EqTree X.prog X.w s n its.toArray[j] jts.toArray[j] true := by
  have l1 : its.length = ds.length := r.length.symm.trans (Paired.length q)
  have l2 : jts.length = ds.length := r'.length.symm.trans (Paired.length q')
  refine ⟨by rw [List.size_toArray, List.size_toArray, l1, l2], fun j h1 h2 => ?_⟩
  have j1 : j < its.length := by simpa using h1
  have j2 : j < jts.length := by simpa using h2
  have k1 : j < vs.length := by rw [r.length]; exact j1
  have k2 : j < ws.length := by rw [r'.length]; exact j2
  have k3 : j < ds.length := by omega
  have e1 := paired_get q (List.getElem?_eq_getElem k1) (List.getElem?_eq_getElem k3)
  have e2 := paired_get q' (List.getElem?_eq_getElem k2) (List.getElem?_eq_getElem k3)
  have e3 := paired_get r (List.getElem?_eq_getElem k1) (List.getElem?_eq_getElem j1)
  have e4 := paired_get r' (List.getElem?_eq_getElem k2) (List.getElem?_eq_getElem j2)
  simpa using ih e1 e2 e3 e4
theorem all_true {n : Nat} : ((List.range n).all fun _ => true) = true := List.all_eq_true.mpr fun _ _ => rfl
theorem eq_tree (I : Inv X pins σ H s) : ∀ {n : Nat} {P P' : Addr → Prop} {x y : V} {v u : Value} {d : D}, Rep H n P x d → Rep H n P' y d → RelV x v → RelV y u → PySem.W.EqTree X.prog X.w s n v u true
  | 0, P, P', x, y, v, u, d, h, h', r, r' => by
    obtain ⟨e, _⟩ := scal1_scal h h'
    subst e
    exact .leaf fun A _ => eqAt_same r r' (scal1_flat h)
  | n + 1, P, P', x, y, v, u, d, h, h', r, r' => by
    have nos : ∀ {w : V} {d : D}, scal1 w d → (∀ ds, d ≠ .lst ds) ∧ (∀ ds, d ≠ .tup ds) ∧ ∀ k e, d ≠ .dct k e := fun z => by
      rcases z with ⟨_, rfl⟩ | ⟨b, _, rfl⟩ | ⟨i, _, rfl⟩ | ⟨t, _, rfl⟩ <;> exact ⟨(fun _ e => nomatch e), (fun _ e => nomatch e), (fun _ _ e => nomatch e)⟩
    rcases h with h | ⟨a, vs, ds, rfl, rfl, p, e3, lz, q⟩ | ⟨a, vs, ds, rfl, rfl, p, e3, lz, q⟩ | ⟨a, k, w, e, rfl, rfl, p, e3, q⟩
    · rcases h' with h' | ⟨a', _, _, _, e2, _⟩ | ⟨a', _, _, _, e2, _⟩ | ⟨a', _, _, _, _, e2, _⟩
      · obtain ⟨e, _⟩ := scal1_scal h h'
        subst e
        exact .leaf fun A _ => eqAt_same r r' (scal1_flat h)
      · exact absurd e2 ((nos h).1 _)
      · exact absurd e2 ((nos h).2.1 _)
      · exact absurd e2 ((nos h).2.2 _ _)
    · rcases h' with h' | ⟨a', vs', ds', rfl, e2, p', e3', lz', q'⟩ | ⟨a', _, _, _, e2, _⟩ | ⟨a', _, _, _, _, e2, _⟩
      · exact absurd rfl ((nos h').1 _)
      · cases e2
        cases (show v = Value.ref a from r)
        cases (show u = Value.ref a' from r')
        by_cases ea : a = a'
        · subst ea
          exact .same
        · obtain ⟨its, rv, hl⟩ := lst_at I e3
          obtain ⟨jts, rv', hl'⟩ := lst_at I e3'
          obtain ⟨hs, ht⟩ := items_tree (fun {x y v u d} => eq_tree I) q q' rv rv'
          have z := PySem.W.EqTree.lists (e := fun _ => true) ea hl hl' hs ht
          rw [all_true] at z
          exact z
      · cases e2
      · cases e2
    · rcases h' with h' | ⟨a', _, _, _, e2, _⟩ | ⟨a', vs', ds', rfl, e2, p', e3', lz', q'⟩ | ⟨a', _, _, _, _, e2, _⟩
      · exact absurd rfl ((nos h').2.1 _)
      · cases e2
      · cases e2
        cases (show v = Value.ref a from r)
        cases (show u = Value.ref a' from r')
        by_cases ea : a = a'
        · subst ea
          exact .same
        · obtain ⟨its, rv, hl⟩ := tup_at I e3
          obtain ⟨jts, rv', hl'⟩ := tup_at I e3'
          obtain ⟨hs, ht⟩ := items_tree (fun {x y v u d} => eq_tree I) q q' rv rv'
          have z := PySem.W.EqTree.tuples (e := fun _ => true) ea hl hl' ht
          rw [all_true, hs] at z
          simpa using z
      · cases e2
    · rcases h' with h' | ⟨a', _, _, _, e2, _⟩ | ⟨a', _, _, _, e2, _⟩ | ⟨a', k', w', e', rfl, e2, p', e3', q'⟩
      · exact absurd rfl ((nos h').2.2 _ _)
      · cases e2
      · cases e2
      · cases e2
        cases (show v = Value.ref a from r)
        cases (show u = Value.ref a' from r')
        by_cases ea : a = a'
        · subst ea
          exact .same
        · obtain ⟨va, ya, ra, da⟩ := dct_at I e3
          obtain ⟨vb, yb, rb, db⟩ := dct_at I e3'
          cases ra with
          | @cons x1 y1 _ _ h1 t1 =>
            cases t1
            cases rb with
            | @cons x2 y2 _ _ h2 t2 =>
              cases t2
              obtain ⟨k1, w1⟩ := y1
              obtain ⟨k2, w2⟩ := y2
              obtain ⟨g1, g2⟩ := h1
              obtain ⟨g3, g4⟩ := h2
              have g1' : (Sum.inr k : Key) = k1 := g1
              have g3' : (Sum.inr k : Key) = k2 := g3
              subst g1' g3'
              have z := PySem.W.EqTree.dicts (n := n) (e := fun _ => true) ea ya yb da db (fun k0 v0 y0 hm hv => ?_)
              · simpa [valueAt] using z
              · obtain ⟨rfl, rfl⟩ : (Sum.inr k : Key) = k0 ∧ w1 = v0 := by
                  have := List.mem_singleton.mp hm
                  injection this with a1 a2
                  exact ⟨a1.symm, a2.symm⟩
                have ey : w2 = y0 := by
                  simp [valueAt] at hv
                  exact hv
                subst ey
                exact eq_tree I q q' g2 g4
end
end HB

set_option Elab.async false
set_option linter.all false
set_option maxRecDepth 100000
set_option maxHeartbeats 4000000
namespace HB
open PySem PySem.Spec PyProof.Rows L2
/-- a != b of equal data (no list at the top) -/
def rNeR : R2 := fun x y H Q => ∃ (n : Nat) (d : D) (P P' : Addr → Prop), n ≤ 60 ∧ Rep H n P x d ∧ Rep H n P' y d ∧ (∀ ds, d ≠ .lst ds) ∧ Q (.bl false) H
theorem op_neR {X : Cx} (hu : X.A.units + 64 < cLine) : OpR X (compareOp .NotEq) rNeR := by
  intro pins s σ H x y v u Q I rx ry h
  obtain ⟨n, d, P, P', hn, h, h', nl, q⟩ := h
  have scal : scal1 x d → scal1 y d → wpAny (model X.prog X.w) X.A (compareOp .NotEq v u) (EP X pins σ Q) X.xe s := fun a b => by
    obtain ⟨e, sc⟩ := scal1_scal a b
    subst e
    refine op_ne pins s σ H x x v u Q I rx ry ⟨sc, ?_⟩
    have z : (!decide (x = x)) = false := by simp
    rw [z]
    exact q
  have nos : ∀ {w : V} {d : D}, scal1 w d → (∀ ds, d ≠ .lst ds) ∧ (∀ ds, d ≠ .tup ds) ∧ ∀ k e, d ≠ .dct k e := fun z => by
    rcases z with ⟨_, rfl⟩ | ⟨b, _, rfl⟩ | ⟨i, _, rfl⟩ | ⟨t, _, rfl⟩ <;> exact ⟨(fun _ e => nomatch e), (fun _ e => nomatch e), (fun _ _ e => nomatch e)⟩
  cases n with
  | zero => exact scal h h'
  | succ n =>
    rcases h with h | ⟨a, vs, ds, rfl, rfl, p, e3, lz, q3⟩ | ⟨a, vs, ds, rfl, rfl, p, e3, lz, q3⟩ | ⟨a, k, w, e, rfl, rfl, p, e3, q3⟩
    · rcases h' with h' | ⟨a', _, _, _, e2, _⟩ | ⟨a', _, _, _, e2, _⟩ | ⟨a', _, _, _, _, e2, _⟩
      · exact scal h h'
      · exact absurd e2 ((nos h).1 _)
      · exact absurd e2 ((nos h).2.1 _)
      · exact absurd e2 ((nos h).2.2 _ _)
    · exact absurd rfl (nl _)
    · rcases h' with h' | ⟨a', _, _, _, e2, _⟩ | ⟨a', vs', ds', rfl, e2, p', e3', lz', q'⟩ | ⟨a', _, _, _, _, e2, _⟩
      · exact absurd rfl ((nos h').2.1 _)
      · cases e2
      · cases e2
        cases (show v = Value.ref a from rx)
        cases (show u = Value.ref a' from ry)
        obtain ⟨its, rv, hl⟩ := tup_at I e3
        obtain ⟨jts, rv', hl'⟩ := tup_at I e3'
        obtain ⟨hs, ht⟩ := items_tree (fun {x y v u d} => eq_tree I) q3 q' rv rv'
        refine PySem.SeqAt.rcNe_tuples (e := fun _ => true) hl hl' (by omega) (fun j h1 h2 => (ht j h1 h2).at _ (by show X.A.units + 1 + n < cLine; omega)) ?_
        rw [all_true, hs]
        simp only [BEq.rfl, Bool.and_self, Bool.not_true]
        exact ⟨.bl false, H, I, rfl, q⟩
      · cases e2
    · rcases h' with h' | ⟨a', _, _, _, e2, _⟩ | ⟨a', _, _, _, e2, _⟩ | ⟨a', k', w', e', rfl, e2, p', e3', q'⟩
      · exact absurd rfl ((nos h').2.2 _ _)
      · cases e2
      · cases e2
      · cases e2
        cases (show v = Value.ref a from rx)
        cases (show u = Value.ref a' from ry)
        obtain ⟨va, ya, ra, da⟩ := dct_at I e3
        obtain ⟨vb, yb, rb, db⟩ := dct_at I e3'
        cases ra with
        | @cons x1 y1 _ _ h1 t1 =>
          cases t1
          cases rb with
          | @cons x2 y2 _ _ h2 t2 =>
            cases t2
            obtain ⟨k1, w1⟩ := y1
            obtain ⟨k2, w2⟩ := y2
            obtain ⟨g1, g2⟩ := h1
            obtain ⟨g3, g4⟩ := h2
            have g1' : (Sum.inr k : Key) = k1 := g1
            have g3' : (Sum.inr k : Key) = k2 := g3
            subst g1' g3'
            have hin : PySem.W.KeqHitsIn X.prog X.w X.A.in1 s [((Sum.inr k : Key), w2)] [((Sum.inr k : Key), w1)] (true && true) :=
              .hit (y := w2) (by simp [valueAt]) ((eq_tree I q3 q' g2 g4).at _ (by show X.A.units + 1 + n < cLine; omega)) .nil
            refine PySem.W.rcNe_dicts ya yb da db (by omega) (fun _ => hin) ?_
            simp only [List.length_singleton, BEq.rfl, Bool.and_self, Bool.not_true]
            exact ⟨.bl false, H, I, rfl, q⟩
end HB

set_option Elab.async false
set_option linter.all false
set_option maxRecDepth 100000
set_option maxHeartbeats 4000000
namespace HB
open PySem PySem.Spec PyProof.Rows L2
def top (i : Nat) : Stmt := PySem.Challenge.pw_heldback_k61_errors_made.main.body.getD i (.Pass ⟨0, 0, 0, 0⟩)
abbrev FnP (K : PySem.W.Frag) (x : Str) (st : Stmt) (f : Addr) (fd : FuncData) : Prop := FunD K x x (defArgs st) (defBody st) (defScope st) [] [] f fd
abbrev s_draw : Stmt := top 23
/-! values of expressions that change nothing -/
theorem val_ixL {K : PySem.W.Frag} {σ : L2.St} {H : Hp} {te ti : TE} {p : Addr} {xs : List V} {i : Int} {v : V} (ha : Val te σ H (.ref p)) (hb : Val ti σ H (.int i)) (hx : SqL K H p xs) (hv : atI xs i = some v) : Val (tOp (rIxL K) te ti) σ H v :=
  val_op ha hb fun _ q => ⟨p, xs, i, v, rfl, rfl, hx, hv, q⟩
theorem val_ixT {K : PySem.W.Frag} {σ : L2.St} {H : Hp} {te ti : TE} {p : Addr} {xs : List V} {i : Int} {v : V} (ha : Val te σ H (.ref p)) (hb : Val ti σ H (.int i)) (hx : SqT K H p xs) (hv : atI xs i = some v) : Val (tOp (rIxT K) te ti) σ H v :=
  val_op ha hb fun _ q => ⟨p, xs, i, v, rfl, rfl, hx, hv, q⟩
theorem val_I0 {σ : L2.St} {H : Hp} {ta tb : TE} {g : Int → Int → V} {i j : Int} (ha : Val ta σ H (.int i)) (hb : Val tb σ H (.int j)) : Val (tOp (rI0 g) ta tb) σ H (g i j) := val_op ha hb fun _ q => ⟨i, j, rfl, rfl, q⟩
theorem val_I {σ : L2.St} {H : Hp} {ta tb : TE} {C : Int → Int → Prop} {g : Int → Int → V} {i j : Int} (ha : Val ta σ H (.int i)) (hb : Val tb σ H (.int j)) (hc : C i j) : Val (tOp (rI C g) ta tb) σ H (g i j) := val_op ha hb fun _ q => ⟨i, j, rfl, rfl, hc, q⟩
theorem val_int1 {σ : L2.St} {H : Hp} {ta : TE} {i : Int} (ha : Val ta σ H (.int i)) : Val (tCB (fun xs H Q => (∃ i, xs = [V.int i] ∧ Q (.int i) H) ∨ ∃ k, xs = [V.bl k] ∧ Q (.int (if k then 1 else 0)) H) (tCons ta tNil)) σ H (.int i) := fun Q q => ha _ (.inl ⟨i, rfl, q⟩)
theorem st_setL {D : Ends} {σ : L2.St} {H : Hp} {te to ti : TE} {p : Addr} {xs : List V} {i : Int} {j : Nat} {v : V} (he : Val te σ H v) (ho : Val to σ H (.ref p)) (hi : Val ti σ H (.int i)) (hp : H p = some (.lst xs)) (hj : ixN xs.length i = some j) (q : D.nx σ (upd H p (.lst (xs.set j v)))) :
    tAsg te (gSub to ti rSetL) D σ H := he _ (ho _ (hi _ ⟨p, xs, i, j, rfl, rfl, hp, hj, q⟩))
theorem ans_I0 {σ : L2.St} {H : Hp} {ta tb : TE} {c : Int → Int → Bool} {i j : Int} (ha : Val ta σ H (.int i)) (hb : Val tb σ H (.int j)) : Ans (tTest (tOp (rI0 fun i j => .bl (c i j)) ta tb)) σ H (c i j) :=
  ans_cmp ha hb fun _ q => ⟨i, j, rfl, rfl, q⟩
theorem eqI {i j : Int} : decide (V.int i = V.int j) = decide (i = j) := by
  by_cases e : i = j
  · rw [e]
    simp
  · have z : ¬ V.int i = V.int j := fun q => e (V.int.inj q)
    rw [decide_eq_false z, decide_eq_false e]
/-- a statement, what follows hidden behind a word of the heap -/
theorem st_hide {t : TS} {D : Ends} {σ : L2.St} {H : Hp} (R : Hp → Prop) (post : ∀ H2, R H2 → D.nx σ H2) (h : ∀ N : L2.St → Hp → Prop, (∀ H2, R H2 → N σ H2) → t { D with nx := N } σ H) : t D σ H := h D.nx post
theorem st_seqH {t1 t2 : TS} {D : Ends} {σ : L2.St} {H : Hp} (R : Hp → Prop) (post : ∀ H2, R H2 → t2 D σ H2) (h : ∀ N : L2.St → Hp → Prop, (∀ H2, R H2 → N σ H2) → t1 { D with nx := N } σ H) : tSeq t1 t2 D σ H := h (t2 D) post
theorem ixN_ok {n i : Nat} (h : i < n) : ixN n (i : Int) = some i := by
  unfold ixN
  rw [if_pos (by omega), if_pos (by omega)]
  simp
theorem lay_ints : ∀ ns : List Int, PyData.canLayAll0 (ns.map PyData.int) = true ∧ PyData.depthAll (ns.map PyData.int) ≤ 1
  | [] => ⟨rfl, by decide⟩
  | n :: r => by
    obtain ⟨h1, h2⟩ := lay_ints r
    refine ⟨?_, ?_⟩
    · show (PyData.canLay0 (.int n) && PyData.canLayAll0 (r.map PyData.int)) = true
      rw [h1]
      rfl
    · show max (PyData.depth (.int n)) (PyData.depthAll (r.map PyData.int)) ≤ 1
      have : PyData.depth (.int n) ≤ 1 := Nat.zero_le _
      omega
theorem shaped_ints (ns : List Int) : SeqAt.shaped (.list (ns.map PyData.int)) = true := by
  obtain ⟨h1, h2⟩ := lay_ints ns
  have e : PyData.depth (.list (ns.map PyData.int)) ≤ 64 := by
    show PyData.depthAll (ns.map PyData.int) + 1 ≤ 64
    omega
  unfold SeqAt.shaped
  rw [decide_eq_true e, Bool.and_true]
  exact h1
theorem dp_ints {K : PySem.W.Frag} {H : Hp} : ∀ ns : List Int, DpAll K H (ns.map V.int) (ns.map PyData.int)
  | [] => .nil
  | n :: r => .cons (.int n) (dp_ints r)
theorem ans_andH {t u : TT} {σ : L2.St} {H : Hp} {b : Bool} {R : Hp → Prop} (h1 : Ans t σ H true) (h2 : AnsH u σ H b R) : AnsH (tAnd t u) σ H b R := by
  intro Q q
  refine h1 _ ?_
  show (if true = true then u σ H Q else Q false H)
  rw [if_pos rfl]
  exact h2 Q q
/-- a spring of draws: its list at a, the script's rest at l, at most B draws so far -/
def StrAt (H : Hp) (a l : Addr) (B : Nat) : Prop := ∃ (ns : List Int) (c n m : Int), H a = some (.lst [.ref l, .int c, .int n, .int m]) ∧ H l = some (.lst (ns.map V.int)) ∧ a ≠ l ∧ ns.length ≤ 63 ∧ 0 ≤ c ∧ 0 ≤ n ∧ n ≤ B ∧ 0 ≤ m ∧ m < 2147483647
/-- all but what stands at a and l is as it was -/
def Kp (a l : Addr) (H H' : Hp) : Prop := ∀ b o, b ≠ a → b ≠ l → H b = some o → H' b = some o
def spDraw : Sp := fun vs H Q _ => ∃ (a l : Addr) (B : Nat) (k : Int), vs = [.ref a, .int k] ∧ StrAt H a l B ∧ B < 10000000 ∧ 0 < k ∧ k ≤ 1000000 ∧ ∀ (d : Int) (H' : Hp), 0 ≤ d → d < k → StrAt H' a l (B + 1) → Kp a l H H' → Q (.int d) H'
section
variable {P : Program} {w : World} {K : PySem.W.Frag} {mg : Str → Option Value} {base : Heap}
structure TDraw (mg : Str → Option Value) : Prop where
  f_int : mg "int" = none
theorem sc_draw : FnScope ["_law_stream", "_law_many", "_law_digit", "_law_mixed"] ["_law_stream", "_law_many"] (defScope s_draw) := ⟨rfl, rfl, rfl, by decide +kernel, rfl, by decide +kernel, by decide +kernel⟩
theorem ok_draw {f : Addr} {fd : FuncData} (F : FnP K "_law_draw" s_draw f fd) (T : TDraw mg) : FnOk P w K mg base CX0 1 f fd ["_law_stream", "_law_many"] spDraw := by
  have nd := sc_draw.nd
  refine F.ok sc_draw (fun vs H Q E h => ?_) (fun cdv A outer s H vs Q E hr h => ?_)
  · obtain ⟨a, l, B, k, rfl, _⟩ := h
    rfl
  · obtain ⟨a, l, B, k, rfl, hS, hB, hk0, hk, q⟩ := h
    obtain ⟨ns, c, n, m, ha, hl, hal, hns, hc, hn, hnB, hm, hm2⟩ := hS
    have hr0 : Room 0 _ := hr
    refine ⟨_, (pss_cons (ps_asg (pe_op op_add (pe_ix ix_list (pv 0) pe_int (fun _ _ => rfl)) pe_int) (pg_sub (pv 0) pe_int set_list))
      (pss_cons (ps_if (PW.pt (pw_and (pt_cmpR op_eq (pe_ix ix_list (pv 0) pe_int (fun _ _ => rfl)) pe_int (nomark _)) (pw_and1 (pt_cmpR (op_neD hr.units) (pe_ix ix_list (pv 0) pe_int (fun _ _ => rfl)) (pe_lst pa_nil) (nomark _)))))
        (pss_cons (ps_asg (pe_bm PySem.F.plainAttrs_list PySem.F.slot_list_pop PySem.F.type_list_pop mt_popAt (pe_ix ix_list (pv 0) pe_int (fun _ _ => rfl)) (pa_cons pe_int pa_nil)) (pg_sub (pv 0) pe_int set_list))
      (pss_one (ps_if (pt_cmpR op_lt (pe_ix ix_list (pv 0) pe_int (fun _ _ => rfl)) (pe_op op_pow pe_int pe_int) (nomark _))
        (pss_cons (ps_asg (pe_op op_modN (pe_callTy call_int1 rfl T.f_int (by decide +kernel) (pa_cons (pe_op op_add (pe_op op_add (pe_op op_mul (pe_ix ix_list (pv 0) pe_int (fun _ _ => rfl)) pe_int) (pe_ix ix_list (pv 0) pe_int (fun _ _ => rfl))) pe_int) pa_nil)) pe_int) (pg_sub (pv 0) pe_int set_list))
      (pss_one (ps_asg pe_int (pg_sub (pv 0) pe_int set_list))))
        pss_nil)))
        pss_nil)
      (pss_cons (ps_if (pt_cmpR op_gt (pe_ix ix_list (pv 0) pe_int (fun _ _ => rfl)) pe_int (nomark _))
        (pss_cons (ps_set (i := 2) nd rfl (Or.inl rfl) (pe_op op_modN (pe_callTy call_int1 rfl T.f_int (by decide +kernel) (pa_cons (pe_ix ix_list (pv 0) pe_int (fun _ _ => rfl)) pa_nil)) (pv 1)))
      (pss_cons (ps_asg (pe_op op_fdivN (pe_ix ix_list (pv 0) pe_int (fun _ _ => rfl)) (pv 1)) (pg_sub (pv 0) pe_int set_list))
      (pss_one (ps_ret (pv 2)))))
        pss_nil)
      (pss_cons (ps_set (i := 3) nd rfl (Or.inl rfl) (pe_op op_modN (pe_op op_pow (pe_op op_add (pe_op op_add (pe_ix ix_list (pv 0) pe_int (fun _ _ => rfl)) (pe_op op_mul pe_int (pe_ix ix_list (pv 0) pe_int (fun _ _ => rfl)))) pe_int) pe_int) pe_int))
      (pss_one (ps_ret (pe_op op_modN (pe_op op_modN (pe_op op_pow (pe_op op_add (pe_op op_add (pe_op op_mul (pv 3) pe_int) (pe_op op_mul (pe_op op_mul pe_int (pe_ix ix_list (pv 0) pe_int (fun _ _ => rfl))) (pe_ix ix_list (pv 0) pe_int (fun _ _ => rfl)))) pe_int) pe_int) pe_int) (pv 1)))))))), ?_⟩
    have A0 : ∀ (H : Hp) (x0 x1 x2 x3 : V) (i : Int) (v : V) (σ : L2.St), H a = some (.lst [x0, x1, x2, x3]) → σ[0]? = some (some (.ref a)) → atI [x0, x1, x2, x3] i = some v → Val (tOp (rIxL K) (tVar 0) (tC (.int i))) σ H v :=
      fun H x0 x1 x2 x3 i v σ h0 hs hv => val_ixL (val_var hs) val_c (SqL.of h0) hv
    -- stream[2] = stream[2] + 1
    refine st_setL (val_I0 (A0 _ _ _ _ _ 2 _ _ ha rfl rfl) val_c) (val_var rfl) val_c ha (j := 2) rfl ?_
    generalize hH1 : upd H a (.lst ([V.ref l, .int c, .int n, .int m].set 2 (.int (n + 1)))) = H1
    have ha1 : H1 a = some (.lst [.ref l, .int c, .int (n + 1), .int m]) := by rw [← hH1]; exact upd_same
    have hl1 : H1 l = some (.lst (ns.map V.int)) := by rw [← hH1, upd_ne hal.symm]; exact hl
    have kp1 : Kp a l H H1 := fun b o n1 n2 e => by rw [← hH1, upd_ne n1]; exact e
    dsimp only
    refine st_seqH (fun H2 => ∃ (ns2 : List Int) (c2 m2 : Int), H2 a = some (.lst [.ref l, .int c2, .int (n + 1), .int m2]) ∧ H2 l = some (.lst (ns2.map V.int)) ∧ ns2.length ≤ 63 ∧ 0 ≤ c2 ∧ 0 ≤ m2 ∧ m2 < 2147483647 ∧ Kp a l H H2) ?_ (fun N hN => ?_)
    · rintro H2 ⟨ns2, c2, m2, ha2, hl2, hns2, hc2, hm0, hm1, kp2⟩
      refine st_seq ?_
      by_cases hc3 : c2 > 0
      · refine st_yes ((ans_I0 (A0 _ _ _ _ _ 1 _ _ ha2 rfl rfl) val_c).to (decide_eq_true hc3)) ?_
        refine st_seq (st_set (val_I (val_int1 (A0 _ _ _ _ _ 1 _ _ ha2 rfl rfl)) (val_var rfl) (by omega)) ?_)
        refine st_seq (st_setL (val_I (A0 _ _ _ _ _ 1 _ _ ha2 rfl rfl) (val_var rfl) ⟨by omega, by omega⟩) (val_var rfl) val_c ha2 (j := 1) rfl ?_)
        refine st_ret (val_var rfl) ?_
        have fm : c2.fmod k = c2 % k := Int.fmod_eq_emod_of_nonneg c2 (by omega)
        have fd : c2.fdiv k = c2 / k := Int.fdiv_eq_ediv_of_nonneg c2 (by omega)
        refine q _ _ (by rw [fm]; exact Int.emod_nonneg c2 (by omega)) (by rw [fm]; exact Int.emod_lt_of_pos c2 hk0) ⟨ns2, c2 / k, n + 1, m2, ?_, ?_, hal, hns2, Int.ediv_nonneg hc2 (by omega), by omega, by omega, hm0, hm1⟩ ?_
        · rw [upd_same, fd]
          rfl
        · rw [upd_ne hal.symm]
          exact hl2
        · exact fun b o n1 n2 e => by rw [upd_ne n1]; exact kp2 b o n1 n2 e
      · refine st_no ((ans_I0 (A0 _ _ _ _ _ 1 _ _ ha2 rfl rfl) val_c).to (decide_eq_false hc3)) ?_
        have c0 : c2 = 0 := by omega
        refine st_next ?_
        dsimp only
        have b1 : 0 ≤ m2 + 104729 * (n + 1) + 17 := by omega
        refine st_seq (st_set (val_I (val_I (val_I0 (val_I0 (A0 _ _ _ _ _ 3 _ _ ha2 rfl rfl) (val_I val_c (A0 _ _ _ _ _ 2 _ _ ha2 rfl rfl) (.inl ⟨by decide, by decide⟩))) val_c) val_c ⟨by decide, by decide, by show (m2 + 104729 * (n + 1) + 17).natAbs < 2 ^ 64; omega⟩) val_c (by decide)) ?_)
        generalize hx : ((m2 + 104729 * (n + 1) + 17) ^ (5 : Int).toNat).fmod 2147483629 = x
        have x0 : 0 ≤ x := by rw [← hx]; exact Int.fmod_nonneg_of_pos _ (by decide)
        have x1 : x < 2147483629 := by rw [← hx]; exact Int.fmod_lt_of_pos _ (by decide)
        have y1 : n + 1 ≤ 10000000 := by omega
        have yy : (n + 1) * (n + 1) ≤ 10000000 * 10000000 := Int.mul_le_mul y1 y1 (by omega) (by decide)
        have yn : 0 ≤ (n + 1) * (n + 1) := Int.mul_nonneg (by omega) (by omega)
        have e3 : 40503 * (n + 1) * (n + 1) = 40503 * ((n + 1) * (n + 1)) := Int.mul_assoc _ _ _
        have b2 : (x * 48271 + 40503 * (n + 1) * (n + 1) + 13).natAbs < 2 ^ 64 := by
          rw [e3]
          generalize (n + 1) * (n + 1) = z at yy yn ⊢
          omega
        have A2 := A0 _ _ _ _ _ 2 _ ([some (.ref a), some (.int k), none, none].set 3 (some (.int x))) ha2 rfl rfl
        dsimp only
        refine st_ret (val_I (val_I (val_I (val_I0 (val_I0 (val_I (val_var rfl) val_c (.inr ⟨by decide, by decide⟩)) (val_I (val_I val_c A2 (.inl ⟨by decide, by decide⟩)) A2 (.inl ⟨by omega, by omega⟩))) val_c) val_c ⟨by decide, by decide, b2⟩) val_c (by decide)) (val_var rfl) (by omega)) ?_
        refine q _ _ (Int.fmod_nonneg_of_pos _ hk0) (Int.fmod_lt_of_pos _ hk0) ⟨ns2, c2, n + 1, m2, ha2, hl2, hal, hns2, hc2, by omega, by omega, hm0, hm1⟩ kp2
    · have q0 := hN _ ⟨ns, c, m, ha1, hl1, hns, hc, hm, hm2, kp1⟩
      by_cases hc1 : c = 0
      · have t1 : Ans (tTest (tOp rEq (tOp (rIxL K) (tVar 0) (tC (.int 1))) (tC (.int 0)))) (L2.start ["_law_stream", "_law_many", "_law_digit", "_law_mixed"] [.ref a, .int k]) H1 true := ans_eq (A0 _ _ _ _ _ 1 _ _ ha1 rfl rfl) val_c rfl (by rw [eqI]; exact decide_eq_true hc1)
        cases ns with
        | nil =>
          have t2 : AnsH (tTest (tOp (rNeD K) (tOp (rIxL K) (tVar 0) (tC (.int 0))) (tLst tNil))) (L2.start ["_law_stream", "_law_many", "_law_digit", "_law_mixed"] [.ref a, .int k]) H1 false (fun H' => ∃ p, H1 p = none ∧ H' = upd H1 p (.lst [])) := fun Q' q' =>
            A0 _ _ _ _ _ 0 _ _ ha1 rfl rfl _ ⟨Nat.zero_le _, fun p hp => ⟨.list [], .list [], .lst (SqL.of (by rw [upd_ne (ne_of_none hl1 hp)]; exact hl1)) .nil, .lst (SqL.of upd_same) .nil, by decide, by decide, false, rfl, q' _ ⟨p, hp, rfl⟩⟩⟩
          refine st_noH (ans_andH t1 t2) ?_
          rintro H' ⟨p, hp, rfl⟩
          refine st_next (hN _ ⟨[], c, m, by rw [upd_ne (ne_of_none ha1 hp)]; exact ha1, by rw [upd_ne (ne_of_none hl1 hp)]; exact hl1, hns, hc, hm, hm2, fun b o n1 n2 e => ?_⟩)
          have e1 := kp1 b o n1 n2 e
          rw [upd_ne (ne_of_none e1 hp)]
          exact e1
        | cons z zs =>
          have hz : ((z :: zs).map V.int).length = zs.length + 1 := by simp
          have t2 : AnsH (tTest (tOp (rNeD K) (tOp (rIxL K) (tVar 0) (tC (.int 0))) (tLst tNil))) (L2.start ["_law_stream", "_law_many", "_law_digit", "_law_mixed"] [.ref a, .int k]) H1 true (fun H' => ∃ p, H1 p = none ∧ H' = upd H1 p (.lst [])) := fun Q' q' =>
            A0 _ _ _ _ _ 0 _ _ ha1 rfl rfl _ ⟨Nat.zero_le _, fun p hp => ⟨.list ((z :: zs).map PyData.int), .list [], .lst (SqL.of (by rw [upd_ne (ne_of_none hl1 hp)]; exact hl1)) (dp_ints _), .lst (SqL.of upd_same) .nil, shaped_ints _, by decide, true, rfl, q' _ ⟨p, hp, rfl⟩⟩⟩
          refine st_yesH (ans_andH t1 t2) ?_
          rintro H' ⟨p, hp, rfl⟩
          generalize hH2 : upd H1 p (.lst []) = H2
          have ha2 : H2 a = some (HO.lst [V.ref l, V.int c, V.int (n + 1), V.int m]) := by rw [← hH2, upd_ne (ne_of_none ha1 hp)]; exact ha1
          have hl2 : H2 l = some (.lst ((z :: zs).map V.int)) := by rw [← hH2, upd_ne (ne_of_none hl1 hp)]; exact hl1
          have kp2 : Kp a l H H2 := fun b o n1 n2 e => by
            have e1 := kp1 b o n1 n2 e
            rw [← hH2, upd_ne (ne_of_none e1 hp)]
            exact e1
          have hns2 : zs.length ≤ 63 := by
            have : (z :: zs).length = zs.length + 1 := rfl
            omega
          refine st_seq ?_
          -- stream[1] = stream[0].pop(0)
          refine A0 _ _ _ _ _ 0 _ _ ha2 rfl rfl _ ⟨.inl ⟨rfl, _, SqL.of hl2⟩, l, _, 0, 0, .int z, rfl, rfl, hl2, by decide, by decide, by rw [hz]; unfold seqIndex?; simp, rfl, ?_⟩
          have hl3 : upd H2 l (.lst (((z :: zs).map V.int).eraseIdx 0)) l = some (.lst (zs.map V.int)) := upd_same
          have ha3 : upd H2 l (.lst (((z :: zs).map V.int).eraseIdx 0)) a = some (HO.lst [V.ref l, V.int c, V.int (n + 1), V.int m]) := by rw [upd_ne hal]; exact ha2
          have kp3 : Kp a l H (upd H2 l (.lst (((z :: zs).map V.int).eraseIdx 0))) := fun b o n1 n2 e => by rw [upd_ne n2]; exact kp2 b o n1 n2 e
          generalize upd H2 l (.lst (((z :: zs).map V.int).eraseIdx 0)) = H3 at hl3 ha3 kp3 ⊢
          refine ⟨_, rfl, a, _, 1, 1, rfl, rfl, ha3, rfl, ?_⟩
          have ha4 : upd H3 a (.lst ([V.ref l, V.int c, V.int (n + 1), V.int m].set 1 (.int z))) a = some (HO.lst [V.ref l, V.int z, V.int (n + 1), V.int m]) := upd_same
          have hl4 : upd H3 a (.lst ([V.ref l, V.int c, V.int (n + 1), V.int m].set 1 (.int z))) l = some (.lst (zs.map V.int)) := by rw [upd_ne hal.symm]; exact hl3
          have kp4 : Kp a l H (upd H3 a (.lst ([V.ref l, V.int c, V.int (n + 1), V.int m].set 1 (.int z)))) := fun b o n1 n2 e => by rw [upd_ne n1]; exact kp3 b o n1 n2 e
          generalize upd H3 a (.lst ([V.ref l, V.int c, V.int (n + 1), V.int m].set 1 (.int z))) = H4 at hl4 ha4 kp4 ⊢
          dsimp only
          have tp : Val (tOp (rI CPow fun i j => V.int (i ^ j.toNat)) (tC (V.int 10)) (tC (V.int 18))) (L2.start ["_law_stream", "_law_many", "_law_digit", "_law_mixed"] [.ref a, .int k]) H4 (.int 1000000000000000000) := val_I val_c val_c ⟨by decide, by decide, by decide⟩
          by_cases hz1 : z < 1000000000000000000
          · refine st_yes ((ans_I0 (A0 _ _ _ _ _ 1 _ _ ha4 rfl rfl) tp).to (decide_eq_true hz1)) ?_
            refine st_seq (st_setL (val_I (val_int1 (val_I0 (val_I0 (val_I (A0 _ _ _ _ _ 3 _ _ ha4 rfl rfl) val_c (.inr ⟨by decide, by decide⟩)) (A0 _ _ _ _ _ 1 _ _ ha4 rfl rfl)) val_c)) val_c (by decide)) (val_var rfl) val_c ha4 (j := 3) rfl ?_)
            have ha5 : upd H4 a (.lst ([V.ref l, V.int z, V.int (n + 1), V.int m].set 3 (.int ((m * 31 + z + 7).fmod 2147483647)))) a = some (HO.lst [V.ref l, V.int z, V.int (n + 1), V.int ((m * 31 + z + 7).fmod 2147483647)]) := upd_same
            have hl5 : upd H4 a (.lst ([V.ref l, V.int z, V.int (n + 1), V.int m].set 3 (.int ((m * 31 + z + 7).fmod 2147483647)))) l = some (.lst (zs.map V.int)) := by rw [upd_ne hal.symm]; exact hl4
            have kp5 : Kp a l H (upd H4 a (.lst ([V.ref l, V.int z, V.int (n + 1), V.int m].set 3 (.int ((m * 31 + z + 7).fmod 2147483647))))) := fun b o n1 n2 e => by rw [upd_ne n1]; exact kp4 b o n1 n2 e
            generalize upd H4 a (.lst ([V.ref l, V.int z, V.int (n + 1), V.int m].set 3 (.int ((m * 31 + z + 7).fmod 2147483647)))) = H5 at hl5 ha5 kp5 ⊢
            dsimp only
            refine st_setL val_c (val_var rfl) val_c ha5 (j := 1) rfl ?_
            refine hN _ ⟨zs, 0, _, upd_same, by rw [upd_ne hal.symm]; exact hl5, hns2, by decide, Int.fmod_nonneg_of_pos _ (by decide), Int.fmod_lt_of_pos _ (by decide), fun b o n1 n2 e => by rw [upd_ne n1]; exact kp5 b o n1 n2 e⟩
          · refine st_no ((ans_I0 (A0 _ _ _ _ _ 1 _ _ ha4 rfl rfl) tp).to (decide_eq_false hz1)) ?_
            exact st_next (hN _ ⟨zs, z, m, ha4, hl4, hns2, by omega, hm, hm2, kp4⟩)
      · have t1 : Ans (tTest (tOp rEq (tOp (rIxL K) (tVar 0) (tC (.int 1))) (tC (.int 0)))) (L2.start ["_law_stream", "_law_many", "_law_digit", "_law_mixed"] [.ref a, .int k]) H1 false := ans_eq (A0 _ _ _ _ _ 1 _ _ ha1 rfl rfl) val_c rfl (by rw [eqI]; exact decide_eq_false hc1)
        refine st_no (ans_and0 t1) (st_next q0)
end
end HB

set_option Elab.async false
set_option linter.all false
set_option maxRecDepth 100000
set_option maxHeartbeats 4000000
namespace HB
open PySem PySem.Spec PyProof.Rows L2
abbrev s_copied : Stmt := top 1
def tname : D → String
  | .non => "NoneType"
  | .bl _ => "bool"
  | .int _ => "int"
  | .str _ => "str"
  | .lst _ => "list"
  | .tup _ => "tuple"
  | .dct _ _ => "dict"
theorem scal_ty {K : PySem.W.Frag} {H : Hp} {v : V} {d : D} (h : scal1 v d) : TyX K H v (.type (tname d)) := by
  rcases h with ⟨rfl, rfl⟩ | ⟨b, rfl, rfl⟩ | ⟨i, rfl, rfl⟩ | ⟨s, rfl, rfl⟩
  · exact .base .non
  · exact .base (.bl b)
  · exact .base (.int i)
  · exact .base (.str s)
theorem rep_ty {K : PySem.W.Frag} {H : Hp} : ∀ {n : Nat} {P : Addr → Prop} {v : V} {d : D}, Rep H n P v d → TyX K H v (.type (tname d))
  | 0, _, _, _, h => scal_ty h
  | n + 1, P, v, d, h => by
    rcases h with h | ⟨a, vs, ds, rfl, rfl, p, e3, lz, q⟩ | ⟨a, vs, ds, rfl, rfl, p, e3, lz, q⟩ | ⟨a, k, w, e, rfl, rfl, p, e3, q⟩
    · exact scal_ty h
    · exact .base (.lst e3)
    · exact .base (.tup e3)
    · exact .base (.dK e3)
/-- isinstance upon plain data -/
abbrev tnames : List String := ["NoneType", "bool", "int", "str", "list", "tuple", "dict"]
theorem tname_mem (d : D) : tname d ∈ tnames := by cases d <;> simp [tname, tnames]
theorem kb_dict : ∀ s ∈ tnames, kitB s "dict" = some (s == "dict") := by decide +kernel
theorem kb_list : ∀ s ∈ tnames, kitB s "list" = some (s == "list") := by decide +kernel
theorem kb_tuple : ∀ s ∈ tnames, kitB s "tuple" = some (s == "tuple") := by decide +kernel
theorem kit_dict (K : PySem.W.Frag) (d : D) : PySem.W.kitOne K (.type (tname d)) (.type "dict") = some (tname d == "dict") := kit_ty (kb_dict _ (tname_mem d))
theorem kit_list (K : PySem.W.Frag) (d : D) : PySem.W.kitOne K (.type (tname d)) (.type "list") = some (tname d == "list") := kit_ty (kb_list _ (tname_mem d))
theorem kit_tuple (K : PySem.W.Frag) (d : D) : PySem.W.kitOne K (.type (tname d)) (.type "tuple") = some (tname d == "tuple") := kit_ty (kb_tuple _ (tname_mem d))
theorem ans_isi {K : PySem.W.Frag} {σ : L2.St} {H : Hp} {n : Nat} {P : Addr → Prop} {v : V} {d : D} {T : String} {te : TE} {b : Bool} (hr : Rep H n P v d) (hv : Val te σ H v) (hk : PySem.W.kitOne K (.type (tname d)) (.type T) = some b) :
    Ans (tB (tCB (rIsi K) (tCons te (tCons (tC (.ty T)) tNil)))) σ H b := fun Q q => hv _ ⟨v, .ty T, _, _, b, rfl, .ty T, rep_ty hr, hk, b, rfl, q⟩
/-- what is fresh -/
abbrev New (H : Hp) : Addr → Prop := fun b => H b = none
theorem same_upd {H H' : Hp} {p : Addr} {o : HO} (s : Same H H') (hp : H p = none) : Same H (upd H' p o) := fun b u e => by
  rw [upd_ne (ne_of_none e hp)]
  exact s b u e
theorem rep_new {H H' : Hp} {p : Addr} {o : HO} {n : Nat} {P : Addr → Prop} {v : V} {d : D} (h : Rep H n P v d) (hp : H p = none) : Rep (upd H p o) n (But P p) v d :=
  Rep.mono (fun a u pa e => ⟨⟨pa, ne_of_none e hp⟩, by rw [upd_ne (ne_of_none e hp)]; exact e⟩) h
theorem paired_imp {α β : Type} {F G : α → β → Prop} {xs : List α} {ys : List β} (h : Paired F xs ys) (k : ∀ a b, F a b → G a b) : Paired G xs ys := Paired.mapP h k
theorem paired_take {α β : Type} {F : α → β → Prop} {xs : List α} {ys : List β} {i : Nat} {x : α} {y : β} (h : Paired F xs (ys.take i)) (hy : ys[i]? = some y) (k : F x y) : Paired F (xs ++ [x]) (ys.take (i + 1)) := by
  rw [List.take_add_one, hy]
  exact h.snoc k
/-- [f(x) for x in xs], each answer new data -/
theorem lc_reps {xs : List V} {ds : List D} {i0 n : Nat} {te : TE} {vs : List Nat} {σ : L2.St} {H0 : Hp} {D : Addr} {Qd : Hp → Prop} {J : It}
    (rule : ∀ (Pv : Nat → Hp → Prop), Pv 0 (upd H0 D (.lst [])) → (∀ i H, i ≤ xs.length → Pv i H → Same H0 H) → (∀ i x H, xs[i]? = some x → Pv i H → gName i0 x (wipe σ vs) H fun σ2 H2 => wipe σ2 vs = wipe σ vs ∧ tYes σ2 H2 fun b H3 =>
      if b = true then te σ2 H3 fun y H4 => ∃ acc, H4 D = some (.lst acc) ∧ acc.length < sizeLine ∧ Pv (i + 1) (upd H4 D (.lst (acc ++ [y]))) else Pv (i + 1) H3) → (∀ H, Pv xs.length H → Qd H) →
      ∃ W : Nat → Nat → Hp → Prop, (∃ m, W 0 m (upd H0 D (.lst []))) ∧ ∀ i m H, W i m H → (J.stop i H ∧ Qd H) ∨ (J.go i H ∧ ∃ Nx : Hp → Prop, (∀ H', Nx H' → ∃ m', m' < m ∧ W (i + 1) m' H') ∧ ∀ x H', J.yld i H x H' → gName i0 x (wipe σ vs) H' fun σ2 H2 => wipe σ2 vs = wipe σ vs ∧ tYes σ2 H2 fun b H3 =>
        if b = true then te σ2 H3 fun y H4 => ∃ acc, H4 D = some (.lst acc) ∧ acc.length < sizeLine ∧ Nx (upd H4 D (.lst (acc ++ [y]))) else Nx H3))
    (hD : H0 D = none) (hlen : xs.length ≤ 100) (hds : ds.length = xs.length) (hw : ∀ x, wipe ((wipe σ vs).set i0 (some x)) vs = wipe σ vs)
    (step : ∀ (i : Nat) (x : V) (d : HB.D) (H : Hp), xs[i]? = some x → ds[i]? = some d → Same H0 H → ∀ Q : VK, (∀ y H', Same H H' → Rep H' n (New H) y d → Q y H') → te ((wipe σ vs).set i0 (some x)) H Q)
    (done : ∀ (H : Hp) (acc : List V), Same H0 H → H D = some (.lst acc) → acc.length = xs.length → Paired (Rep H n (But (New H0) D)) acc ds → Qd H) :
    ∃ W : Nat → Nat → Hp → Prop, (∃ m, W 0 m (upd H0 D (.lst []))) ∧ ∀ i m H, W i m H → (J.stop i H ∧ Qd H) ∨ (J.go i H ∧ ∃ Nx : Hp → Prop, (∀ H', Nx H' → ∃ m', m' < m ∧ W (i + 1) m' H') ∧ ∀ x H', J.yld i H x H' → gName i0 x (wipe σ vs) H' fun σ2 H2 => wipe σ2 vs = wipe σ vs ∧ tYes σ2 H2 fun b H3 =>
        if b = true then te σ2 H3 fun y H4 => ∃ acc, H4 D = some (.lst acc) ∧ acc.length < sizeLine ∧ Nx (upd H4 D (.lst (acc ++ [y]))) else Nx H3) := by
  refine rule (fun i H => Same H0 H ∧ ∃ acc, H D = some (.lst acc) ∧ acc.length = i ∧ Paired (Rep H n (But (New H0) D)) acc (ds.take i)) ⟨same_upd (Same.refl _) hD, [], upd_same, rfl, .nil⟩ (fun i H _ h => h.1) ?_ ?_
  · rintro i x H hx ⟨s, acc, hacc, hl, hp⟩
    have hi : i < xs.length := (List.getElem?_eq_some_iff.mp hx).1
    obtain ⟨d, hd⟩ : ∃ d, ds[i]? = some d := ⟨ds[i]'(by omega), List.getElem?_eq_getElem (by omega)⟩
    refine ⟨hw x, ?_⟩
    unfold tYes
    refine iteT ?_
    refine step i x d H hx hd s _ fun y H' s' r => ⟨acc, s' _ _ hacc, by rw [hl, sizeLine_eq]; omega, ?_⟩
    have keep : ∀ {v : V} {d : HB.D} {P : Addr → Prop}, (∀ b, P b → b ≠ D) → Rep H' n P v d → Rep (upd H' D (.lst (acc ++ [y]))) n P v d := fun hP h => Rep.mono (fun b o p e => ⟨p, by rw [upd_ne (hP b p)]; exact e⟩) h
    refine ⟨fun b o e => ?_, acc ++ [y], upd_same, by rw [List.length_append, hl]; rfl, paired_take (paired_imp hp fun v d z => keep (fun b p => p.2) (z.same s')) hd (keep (fun b p => p.2) ?_)⟩
    · rw [upd_ne (ne_of_none e hD)]
      exact s' _ _ (s _ _ e)
    · refine Rep.mono (fun b o p e => ⟨⟨?_, fun z => ?_⟩, e⟩) r
      · exact s.free p
      · have p' : H b = none := p
        rw [z, hacc] at p'
        cases p'
  · rintro H ⟨s, acc, hacc, hl, hp⟩
    rw [List.take_of_length_le (by omega)] at hp
    exact done H acc s hacc hl hp

/-- copied: n calls deep -/
def spC : Nat → Sp
  | 0 => fun _ _ _ _ => False
  | n + 1 => fun vs H Q _ => ∃ (v : V) (d : D) (P : Addr → Prop), vs = [v] ∧ Rep H n P v d ∧ ∀ v' H', Same H H' → Rep H' n (New H) v' d → Q v' H'
section
variable {P : Program} {w : World} {K : PySem.W.Frag} {mg : Str → Option Value} {base : Heap}
structure TC (K : PySem.W.Frag) (mg : Str → Option Value) (f : Addr) : Prop where
  f_isinstance : mg "isinstance" = none
  f_dict : mg "dict" = none
  f_list : mg "list" = none
  f_tuple : mg "tuple" = none
  m_copied : mg "copied" = some (.ref f)
  k_copied : PySem.W.keepIn K (.ref f) = true
theorem sc_copied : FnScope ["thing", "key", "one"] ["thing"] (defScope s_copied) := ⟨rfl, rfl, rfl, by decide +kernel, rfl, by decide +kernel, by decide +kernel⟩
theorem Rep.cases {H : Hp} {n : Nat} {P : Addr → Prop} {v : V} {d : D} (h : Rep H n P v d) : scal1 v d ∨ ∃ m, n = m + 1 ∧ ((∃ a vs ds, v = .ref a ∧ d = .lst ds ∧ P a ∧ H a = some (.lst vs) ∧ vs.length ≤ 100 ∧ Paired (Rep H m (But P a)) vs ds) ∨
      (∃ a vs ds, v = .ref a ∧ d = .tup ds ∧ P a ∧ H a = some (.tup vs) ∧ vs.length ≤ 100 ∧ Paired (Rep H m (But P a)) vs ds) ∨ ∃ a k w e, v = .ref a ∧ d = .dct k e ∧ P a ∧ H a = some (.dK [(Sum.inr k, w)]) ∧ Rep H m (But P a) w e) := by
  cases n with
  | zero => exact .inl h
  | succ m =>
    rcases h with h | h
    · exact .inl h
    · exact .inr ⟨m, rfl, h⟩
theorem scal_no {v : V} {d : D} (h : scal1 v d) : (tname d == "dict") = false ∧ (tname d == "list") = false ∧ (tname d == "tuple") = false := by
  rcases h with ⟨_, rfl⟩ | ⟨b, _, rfl⟩ | ⟨i, _, rfl⟩ | ⟨s, _, rfl⟩ <;> exact ⟨rfl, rfl, rfl⟩
theorem fn_never {f : Addr} {fd : FuncData} {ps : List Str} {sp : Sp} (h : ∀ vs H Q E, ¬ sp vs H Q E) {n : Nat} : FnOk P w K mg base CX0 n f fd ps sp :=
  ⟨fun vs H Q E z => absurd z (h vs H Q E), fun A outer s H args us vs Q E _ _ _ _ z => absurd z (h vs H Q E)⟩
theorem ok_copied {f : Addr} {fd : FuncData} (F : FnP K "copied" s_copied f fd) (T : TC K mg f) (b_copied : Binds K fd ["thing"] []) {n : Nat} (G_copied : FnOk P w K mg base CX0 n f fd ["thing"] (spC n)) : FnOk P w K mg base CX0 (n + 1) f fd ["thing"] (spC (n + 1)) := by
  have nd := sc_copied.nd
  refine F.ok sc_copied (fun vs H Q E h => ?_) (fun cdv A outer s H vs Q E hr h => ?_)
  · obtain ⟨v, d, P, rfl, _⟩ := h
    rfl
  · obtain ⟨v, d, P', rfl, hR, q⟩ := h
    have hu := hu_of hr
    refine ⟨_, (pss_cons (ps_if (pt_val (pe_callB call_isi rfl T.f_isinstance (by decide +kernel) (pa_cons (pv 0) (pa_cons (pe_bltn (v := .ty "dict") (u := .type "dict") rfl T.f_dict (by decide +kernel) rfl) pa_nil))))
        (pss_one (ps_ret (pe_lock (pe_dc (own := [("key", 1)]) rfl nd (pi_keys (pv 0)) (blkOk_by (N := ["thing", "key", "one"]) (sc := defScope s_copied) (by decide +kernel)) (fun _ _ _ _ _ => (pg_name (i := 1) nd rfl (Or.inl rfl))) (fun _ _ _ _ _ => pts_nil) (fun _ _ _ _ _ => (pv 1)) (fun _ _ _ _ _ => (pe_call G_copied hr rfl T.m_copied T.k_copied b_copied .nil pass0 (pa_cons (pe_dget hu (pv 0) (pv 1) (fun _ _ => rfl)) pa_nil)))))))
        pss_nil)
      (pss_cons (ps_if (pt_val (pe_callB call_isi rfl T.f_isinstance (by decide +kernel) (pa_cons (pv 0) (pa_cons (pe_bltn (v := .ty "list") (u := .type "list") rfl T.f_list (by decide +kernel) rfl) pa_nil))))
        (pss_one (ps_ret (pe_lc (own := [("one", 2)]) rfl nd (pi_list (pv 0)) (blkOk_by (N := ["thing", "key", "one"]) (sc := defScope s_copied) (by decide +kernel)) (fun _ _ _ _ _ => (pg_name (i := 2) nd rfl (Or.inl rfl))) (fun _ _ _ _ _ => pts_nil) (fun _ _ _ _ _ => (pe_call G_copied hr rfl T.m_copied T.k_copied b_copied .nil pass0 (pa_cons (pv 2) pa_nil))))))
        pss_nil)
      (pss_cons (ps_if (pt_val (pe_callB call_isi rfl T.f_isinstance (by decide +kernel) (pa_cons (pv 0) (pa_cons (pe_bltn (v := .ty "tuple") (u := .type "tuple") rfl T.f_tuple (by decide +kernel) rfl) pa_nil))))
        (pss_one (ps_ret (pe_callTy call_tuple_of rfl T.f_tuple (by decide +kernel) (pa_cons (pe_lc (own := [("one", 2)]) rfl nd (pi_tup (pv 0)) (blkOk_by (N := ["thing", "key", "one"]) (sc := defScope s_copied) (by decide +kernel)) (fun _ _ _ _ _ => (pg_name (i := 2) nd rfl (Or.inl rfl))) (fun _ _ _ _ _ => pts_nil) (fun _ _ _ _ _ => (pe_call G_copied hr rfl T.m_copied T.k_copied b_copied .nil pass0 (pa_cons (pv 2) pa_nil)))) pa_nil))))
        pss_nil)
      (pss_one (ps_ret (pv 0)))))), ?_⟩
    dsimp only [cxOf]
    have a1 := ans_isi (K := K) (σ := L2.start ["thing", "key", "one"] [v]) hR (val_var (i := 0) rfl) (kit_dict K d)
    have a2 := ans_isi (K := K) (σ := L2.start ["thing", "key", "one"] [v]) hR (val_var (i := 0) rfl) (kit_list K d)
    have a3 := ans_isi (K := K) (σ := L2.start ["thing", "key", "one"] [v]) hR (val_var (i := 0) rfl) (kit_tuple K d)
    rcases hR.cases with hs | ⟨m, rfl, ⟨a, vs, ds, rfl, rfl, p, e3, lz, hp⟩ | ⟨a, vs, ds, rfl, rfl, p, e3, lz, hp⟩ | ⟨a, k, w, e, rfl, rfl, p, e3, hp⟩⟩
    · obtain ⟨n1, n2, n3⟩ := scal_no hs
      exact st_seq (st_no (a1.to n1) (st_next (st_seq (st_no (a2.to n2) (st_next (st_seq (st_no (a3.to n3) (st_next (st_ret (val_var rfl) (q v H (Same.refl H) (Rep.scal hs))))))))))) 
    · refine st_seq (st_no a1 (st_next (st_seq (st_yes a2 ?_))))
      refine ⟨_, rfl, a, rfl, ⟨vs, SqL.of e3⟩, fun D hD => ?_⟩
      refine lc_reps (ds := ds) (n := m) (fun Pv h0 hl hs hd => lc_list (K := K) (a := a) (xs := vs) Pv h0 (fun i H hi p => (hl i H hi p).seq (SqL.of e3)) hs hd) hD lz (Paired.length hp).symm (fun x => rfl) (fun i x d H1 hx hd hs Q' q' => ?_) (fun H1 acc s1 hacc hl hp' => ?_)
      · exact ⟨x, rfl, x, d, _, rfl, (paired_get hp hx hd).same hs, q'⟩
      · exact q _ _ s1 (.inr (.inl ⟨D, acc, ds, rfl, rfl, hD, hacc, by omega, hp'⟩))
    · refine st_seq (st_no a1 (st_next (st_seq (st_no a2 (st_next (st_seq (st_yes a3 ?_)))))))
      refine ⟨_, rfl, a, rfl, ⟨vs, SqT.of e3⟩, fun D hD => ?_⟩
      refine lc_reps (ds := ds) (n := m) (fun Pv h0 hl hs hd => lc_tup (K := K) (a := a) (xs := vs) Pv h0 (fun i H hi p => SqT.of ((hl i H hi p) _ _ e3)) hs hd) hD lz (Paired.length hp).symm (fun x => rfl) (fun i x d H1 hx hd hs Q' q' => ?_) (fun H1 acc s1 hacc hl hp' => ?_)
      · exact ⟨x, rfl, x, d, _, rfl, (paired_get hp hx hd).same hs, q'⟩
      · refine ⟨D, acc, rfl, .inl ⟨SqL.of hacc, fun l hl2 => ?_⟩⟩
        refine q _ _ (same_upd s1 (s1.free hl2)) (.inr (.inr (.inl ⟨l, acc, ds, rfl, rfl, s1.free hl2, upd_same, by omega, paired_imp hp' fun y z r => ?_⟩)))
        exact Rep.mono (fun b o pb eb => ⟨⟨pb.1, ne_of_none eb hl2⟩, by rw [upd_ne (ne_of_none eb hl2)]; exact eb⟩) r
    · refine st_seq (st_yes a1 ?_)
      refine ⟨a, _, e3, True.intro, fun od => ?_⟩
      refine ⟨_, rfl, a, od, rfl, .inl ⟨_, upd_same, fun D hD => ?_⟩⟩
      have hDa : D ≠ a := fun z => by
        rw [z, upd_same] at hD
        cases hD
      have hD0 : H D = none := by rw [upd_ne hDa] at hD; exact hD
      have hRw : Rep (upd H a (.frz od (.dK [(Sum.inr k, w)]))) m (But P' a) w e := Rep.mono (fun b o pb eb => ⟨pb, by rw [upd_ne pb.2]; exact eb⟩) hp
      refine ⟨fun i mm H' => Same (upd H a (.frz od (.dK [(Sum.inr k, w)]))) H' ∧ ((i = 0 ∧ mm = 1 ∧ H' D = some (.dK [])) ∨ (i = 1 ∧ mm = 0 ∧ ∃ y, H' D = some (.dK [(Sum.inr k, y)]) ∧ Rep H' m (But (New H) D) y e)), ⟨1, same_upd (Same.refl _) hD, .inl ⟨rfl, rfl, upd_same⟩⟩, ?_⟩
      rintro i mm H1 ⟨s1, hw⟩
      have f1 : H1 a = some (.frz od (.dK [(Sum.inr k, w)])) := s1 _ _ upd_same
      rcases hw with ⟨rfl, rfl, hDd⟩ | ⟨rfl, rfl, y, hDd, ry⟩
      · refine .inr ⟨⟨f1, Nat.one_pos⟩, fun H' => Same (upd H a (.frz od (.dK [(Sum.inr k, w)]))) H' ∧ ∃ y, H' D = some (.dK [(Sum.inr k, y)]) ∧ Rep H' m (But (New H) D) y e, fun H' hh => ⟨0, by decide, hh.1, .inr ⟨rfl, rfl, hh.2⟩⟩, ?_⟩
        rintro x H2 ⟨rfl, k', v', hk', rfl⟩
        have ek : k' = Sum.inr k := by
          simp at hk'
          exact hk'.1.symm
        subst ek
        refine ⟨rfl, ?_⟩
        unfold tYes
        refine iteT ?_
        refine ⟨_, rfl, _, rfl, _, rfl, a, w, rfl, .inl ⟨_, Sum.inr k, .inr ⟨od, f1⟩, rfl, ?_⟩, ?_⟩
        · simp [valV]
        refine ⟨w, e, _, rfl, hRw.same s1, fun y H3 s3 r3 => ?_⟩
        have hD3 := s3 _ _ hDd
        refine ⟨[], Sum.inr k, rfl, hD3, by decide, ?_, y, ?_, ?_⟩
        · intro b o eb
          rw [upd_ne (ne_of_none eb hD)]
          exact s3 _ _ (s1 _ _ eb)
        · rw [upd_same]
          simp [putK]
        · refine Rep.mono (fun b o pb eb => ?_) r3
          have nb : b ≠ D := fun z => by
            have pb' : H2 b = none := pb
            rw [z, hDd] at pb'
            cases pb'
          have nba : b ≠ a := fun z => by
            have pb' : H2 b = none := pb
            rw [z, f1] at pb'
            cases pb'
          have fb : (upd H a (.frz od (.dK [(Sum.inr k, w)]))) b = none := s1.free pb
          rw [upd_ne nba] at fb
          exact ⟨⟨fb, nb⟩, by rw [upd_ne nb]; exact eb⟩
      · refine .inl ⟨⟨f1, Nat.le_refl _⟩, f1, ?_⟩
        refine q _ _ (fun b o eb => ?_) (.inr (.inr (.inr ⟨D, k, y, e, rfl, rfl, hD0, by rw [upd_ne hDa]; exact hDd, Rep.mono (fun b o pb eb => ⟨pb, ?_⟩) ry⟩)))
        · by_cases hb : b = a
          · subst hb
            rw [e3] at eb
            cases eb
            exact upd_same
          · rw [upd_ne hb]
            exact s1 _ _ (by rw [upd_ne hb]; exact eb)
        · have nba : b ≠ a := fun z => by
            have pb' : H b = none := pb.1
            rw [z, e3] at pb'
            cases pb'
          rw [upd_ne nba]
          exact eb
end
end HB

set_option Elab.async false
set_option linter.all false
set_option maxRecDepth 100000
set_option maxHeartbeats 4000000
namespace HB
open PySem PySem.Spec PyProof.Rows L2
/-- the promise of an __init__ with one field -/
def spI1 (C : Addr) (f : Str) (n : Nat) : Sp := fun vs H Q _ => ∃ (a : Addr) (v : V) (d : D) (P : Addr → Prop), vs = [.ref a, v] ∧ H a = some (exo a C none) ∧ Rep H n P v d ∧
  ∀ (v' : V) (H' : Hp), (∀ b o, b ≠ a → H b = some o → H' b = some o) → ExAt H' a C [(f, v')] → Rep H' n (New H) v' d → Q .non H'
def spI0 (C : Addr) : Sp := fun vs H Q _ => ∃ (a : Addr), vs = [.ref a] ∧ H a = some (exo a C none) ∧ ∀ (H' : Hp), (∀ b o, b ≠ a → H b = some o → H' b = some o) → ExAt H' a C [] → Q .non H'
def spI2 (C : Addr) (f g : Str) (n : Nat) : Sp := fun vs H Q _ => ∃ (a : Addr) (v w : V) (d e : D) (P P' : Addr → Prop), vs = [.ref a, v, w] ∧ H a = some (exo a C none) ∧ Rep H n P v d ∧ Rep H n P' w e ∧ (∀ b, P' b → b ≠ a) ∧
  ∀ (v' w' : V) (H' : Hp), (∀ b o, b ≠ a → H b = some o → H' b = some o) → ExAt H' a C [(g, w'), (f, v')] → Rep H' n (New H) v' d → Rep H' n (New H) w' e → Q .non H'
section
variable {P : Program} {w : World} {K : PySem.W.Frag} {mg : Str → Option Value} {base : Heap} {fC : Addr} {fdC : FuncData} {f C : Addr} {fd : FuncData} {name qual : Str} {params : Arguments} {scope : Scope} {p0 p1 apos pos pos' p2 q1 q2 q3 q4 q5 q6 r1 r2 r3 r4 r5 r6 : Pos} {m : Str} {j : Nat} {x y fn gn : Str} {ar : Arg}
/-- what the names of such a body must be -/
structure InitS (scope : Scope) (x : Str) : Prop where
  S : SupScope ["self", x] ["self", x] scope
  cop : scope.names.lookup ("copied" : Str) = some .globalImplicit
  slf : scope.names.lookup ("self" : Str) = some .local
  dx : (x == ("__debug__" : Str)) = false
  cx : (x == ("__classdict__" : Str)) = false
theorem ost_keep {H H2 : Hp} {a dx C : Addr} {o1 o2 : HO} {n : Nat} {v : V} {d : D} (s : Same H H2) (ha : H a = some (exo a C none)) (hd : H2 dx = none) (r : Rep H2 n (New H) v d) : Rep (upd (upd H2 dx o1) a o2) n (New H) v d := by
  refine Rep.mono (fun b o pb eb => ⟨pb, ?_⟩) r
  have nba : b ≠ a := fun z => by
    have pb' : H b = none := pb
    rw [z, ha] at pb'
    cases pb'
  rw [upd_ne nba, upd_ne (ne_of_none eb hd)]
  exact eb
theorem ok_init1 (F : SupFn K P name qual params (supBody p0 p1 apos pos pos' p2 m j [.Assign [.Attribute (.Name "self" q1) fn q2] (.Call (.Name "copied" q3) [.Name x q4] [] q5) q6]) scope f C fd) (hform : SupForm p0 p1 apos pos p2 m j) (Z : ExcK K C) (I : InitS scope x) (hs : mg "super" = none) (htop : (P.main.scope.names.lookup ("super" : Str)).isSome = false)
    (har : (params.posonlyargs ++ params.args).head? = some ar) (hself : ar.arg = "self") (hno : PySem.W.findIn K (.ref C) fn = some none) (T : TC K mg fC) (b_copied : Binds K fdC ["thing"] []) {n k : Nat} (hk : n + 1 ≤ k) (G : FnOk P w K mg base CX0 (n + 1) fC fdC ["thing"] (spC (n + 1))) :
    FnOk P w K mg base CX0 (k + 1) f fd ["self", x] (spI1 C fn n) := by
  refine ok_super F hform Z I.S hs htop har (by rw [hself]; rfl) (by rw [hself]; exact I.slf) (fun vs H Q E h => ?_) (fun cda cc A outer s H vs Q E hr h => ?_)
  · obtain ⟨a, v, d, P', rfl, _⟩ := h
    rfl
  · obtain ⟨a, v, d, P', rfl, ha, hR, q⟩ := h
    have pself : ∀ {pos : Pos}, PE (cxS CX0 P w K mg base ["self", x] qual scope f cda cc A outer s H E) (.Name "self" pos) (tVar 0) := pe_var rfl (.inl I.slf)
    have px : ∀ {pos : Pos}, PE (cxS CX0 P w K mg base ["self", x] qual scope f cda cc A outer s H E) (.Name x pos) (tVar 1) := pe_var rfl (.inl (I.S.par x (by simp))) I.dx I.cx
    refine ⟨a, _, _, rfl, ha, pss_one (ps_ost pself (pe_call G (hr.mono hk) I.cop T.m_copied T.k_copied b_copied .nil pass0 (pa_cons px pa_nil))), ?_⟩
    refine ⟨v, rfl, v, d, P', rfl, hR, fun v' H' s' r' => ?_⟩
    refine ⟨.ref a, rfl, a, C, rfl, Z.T, hno, .inl ⟨s' _ _ ha, fun dx hdx hda => ?_⟩⟩
    refine q v' _ (fun b o nb eb => ?_) (.inr ⟨dx, upd_same, by rw [upd_ne hda]; exact upd_same⟩) (ost_keep s' ha hdx r')
    rw [upd_ne nb, upd_ne (ne_of_none (s' _ _ eb) hdx)]
    exact s' _ _ eb
theorem ok_init0 (F : SupFn K P name qual params (supBody p0 p1 apos pos pos' p2 m j []) scope f C fd) (hform : SupForm p0 p1 apos pos p2 m j) (Z : ExcK K C) (S : SupScope ["self"] ["self"] scope) (hsl : scope.names.lookup ("self" : Str) = some .local) (hs : mg "super" = none) (htop : (P.main.scope.names.lookup ("super" : Str)).isSome = false)
    (har : (params.posonlyargs ++ params.args).head? = some ar) (hself : ar.arg = "self") {k : Nat} : FnOk P w K mg base CX0 (k + 1) f fd ["self"] (spI0 C) := by
  refine ok_super F hform Z S hs htop har (by rw [hself]; rfl) (by rw [hself]; exact hsl) (fun vs H Q E h => ?_) (fun cda cc A outer s H vs Q E hr h => ?_)
  · obtain ⟨a, rfl, _⟩ := h
    rfl
  · obtain ⟨a, rfl, ha, q⟩ := h
    exact ⟨a, _, _, rfl, ha, pss_nil, q H (fun b o _ eb => eb) (.inl ⟨ha, rfl⟩)⟩
theorem ok_init2 (F : SupFn K P name qual params (supBody p0 p1 apos pos pos' p2 m j [.Assign [.Attribute (.Name "self" q1) fn q2] (.Call (.Name "copied" q3) [.Name x q4] [] q5) q6, .Assign [.Attribute (.Name "self" r1) gn r2] (.Call (.Name "copied" r3) [.Name y r4] [] r5) r6]) scope f C fd)
    (hform : SupForm p0 p1 apos pos p2 m j) (Z : ExcK K C) (S : SupScope ["self", x, y] ["self", x, y] scope) (cop : scope.names.lookup ("copied" : Str) = some .globalImplicit) (slf : scope.names.lookup ("self" : Str) = some .local) (dx : (x == ("__debug__" : Str)) = false) (cx : (x == ("__classdict__" : Str)) = false) (dy : (y == ("__debug__" : Str)) = false) (cy : (y == ("__classdict__" : Str)) = false)
    (hs : mg "super" = none) (htop : (P.main.scope.names.lookup ("super" : Str)).isSome = false) (har : (params.posonlyargs ++ params.args).head? = some ar) (hself : ar.arg = "self") (hno : PySem.W.findIn K (.ref C) fn = some none) (hno2 : PySem.W.findIn K (.ref C) gn = some none) (T : TC K mg fC) (b_copied : Binds K fdC ["thing"] []) {n k : Nat} (hk : n + 1 ≤ k) (G : FnOk P w K mg base CX0 (n + 1) fC fdC ["thing"] (spC (n + 1))) :
    FnOk P w K mg base CX0 (k + 1) f fd ["self", x, y] (spI2 C fn gn n) := by
  refine ok_super F hform Z S hs htop har (by rw [hself]; rfl) (by rw [hself]; exact slf) (fun vs H Q E h => ?_) (fun cda cc A outer s H vs Q E hr h => ?_)
  · obtain ⟨a, v, w, d, e, P', P'', rfl, _⟩ := h
    rfl
  · obtain ⟨a, v, w', d, e, P', P'', rfl, ha, hR, hR2, hPa, q⟩ := h
    have pself : ∀ {pos : Pos}, PE (cxS CX0 P w K mg base ["self", x, y] qual scope f cda cc A outer s H E) (.Name "self" pos) (tVar 0) := pe_var rfl (.inl slf)
    have px : ∀ {pos : Pos}, PE (cxS CX0 P w K mg base ["self", x, y] qual scope f cda cc A outer s H E) (.Name x pos) (tVar 1) := pe_var rfl (.inl (S.par x (by simp))) dx cx
    have py : ∀ {pos : Pos}, PE (cxS CX0 P w K mg base ["self", x, y] qual scope f cda cc A outer s H E) (.Name y pos) (tVar 2) := pe_var rfl (.inl (S.par y (by simp))) dy cy
    refine ⟨a, _, _, rfl, ha, pss_cons (ps_ost pself (pe_call G (hr.mono hk) cop T.m_copied T.k_copied b_copied .nil pass0 (pa_cons px pa_nil))) (pss_one (ps_ost pself (pe_call G (hr.mono hk) cop T.m_copied T.k_copied b_copied .nil pass0 (pa_cons py pa_nil)))), ?_⟩
    refine ⟨v, rfl, v, d, P', rfl, hR, fun v' H' s' r' => ?_⟩
    refine ⟨.ref a, rfl, a, C, rfl, Z.T, hno, .inl ⟨s' _ _ ha, fun dx hdx hda => ?_⟩⟩
    have k1 : Rep (upd (upd H' dx (exd dx [(fn, v')])) a (exo a C (some dx))) n (But (New H) dx) v' d := Rep.mono (fun b o pb eb => ⟨⟨pb, ne_of_none eb hdx⟩, by
      have nba : b ≠ a := fun z => by
        have pb' : H b = none := pb
        rw [z, ha] at pb'
        cases pb'
      rw [upd_ne nba, upd_ne (ne_of_none eb hdx)]
      exact eb⟩) r'
    have e1 : (upd (upd H' dx (exd dx [(fn, v')])) a (exo a C (some dx))) a = some (exo a C (some dx)) := upd_same
    have e2 : (upd (upd H' dx (exd dx [(fn, v')])) a (exo a C (some dx))) dx = some (exd dx [(fn, v')]) := by rw [upd_ne hda]; exact upd_same
    have k2 : ∀ b o, b ≠ a → H b = some o → (upd (upd H' dx (exd dx [(fn, v')])) a (exo a C (some dx))) b = some o := fun b o nb eb => by
      rw [upd_ne nb, upd_ne (ne_of_none (s' _ _ eb) hdx)]
      exact s' _ _ eb
    have k3 : ∀ b, (upd (upd H' dx (exd dx [(fn, v')])) a (exo a C (some dx))) b = none → H b = none := fun b z => by
      have na : b ≠ a := fun q => by rw [q, e1] at z; cases z
      have nd : b ≠ dx := fun q => by rw [q, e2] at z; cases z
      rw [upd_ne na, upd_ne nd] at z
      exact s'.free z
    have hdx0 : H dx = none := s'.free hdx
    generalize upd (upd H' dx (exd dx [(fn, v')])) a (exo a C (some dx)) = H2 at k1 k2 k3 e1 e2 ⊢
    have hR3 : Rep H2 n P'' w' e := Rep.mono (fun b o pb eb => ⟨pb, k2 b o (hPa b pb) eb⟩) hR2
    refine ⟨w', rfl, w', e, P'', rfl, hR3, fun u' H3 s3 r3 => ?_⟩
    have z1 := s3 _ _ e1
    have z2 := s3 _ _ e2
    refine ⟨.ref a, rfl, a, C, rfl, Z.T, hno2, .inr ⟨dx, _, z1, z2, by show 1 ≤ 900; decide, ?_⟩⟩
    refine q v' u' _ (fun b o nb eb => ?_) (.inr ⟨dx, ?_, upd_same⟩) ?_ ?_
    · rw [upd_ne (ne_of_none eb hdx0)]
      exact s3 _ _ (k2 b o nb eb)
    · rw [upd_ne (fun z => hda z.symm)]
      exact z1
    · exact Rep.mono (fun b o pb eb => ⟨pb.1, by rw [upd_ne pb.2]; exact s3 _ _ eb⟩) k1
    · refine Rep.mono (fun b o pb eb => ⟨k3 b pb, ?_⟩) r3
      have nb : b ≠ dx := fun z => by
        have pb' : H2 b = none := pb
        rw [z, e2] at pb'
        cases pb'
      rw [upd_ne nb]
      exact eb
end
end HB

set_option Elab.async false
set_option linter.all false
set_option maxRecDepth 100000
set_option maxHeartbeats 4000000
namespace HB
open PySem PySem.Spec PyProof.Rows L2
abbrev s_thing : Stmt := top 27
abbrev s_start : Stmt := top 24
/-- how many draws a thing may take -/
def cD : Nat → Nat
  | 0 => 1
  | n + 1 => 2 + 2 * cD n
/-- no list or tuple holds more than two -/
def Sm : Nat → D → Prop
  | 0 => fun d => match d with
    | .lst _ => False
    | .tup _ => False
    | _ => True
  | n + 1 => fun d => match d with
    | .lst ds => ds.length ≤ 2 ∧ ∀ x ∈ ds, Sm n x
    | .tup ds => ds.length ≤ 2 ∧ ∀ x ∈ ds, Sm n x
    | _ => True
def spT : Nat → Sp
  | 0 => fun _ _ _ _ => False
  | n + 1 => fun vs H Q _ => ∃ (a l : Addr) (B : Nat), vs = [.ref a, .int n] ∧ StrAt H a l B ∧ B + cD n < 10000000 ∧ ∀ (v : V) (d : D) (H' : Hp) (B' : Nat), B' ≤ B + cD n → StrAt H' a l B' → Kp a l H H' → Rep H' (2 * n) (New H) v d → Sm n d → Q v H'
theorem StrAt.same {H H' : Hp} {a l : Addr} {B : Nat} (s : Same H H') (h : StrAt H a l B) : StrAt H' a l B := by
  obtain ⟨ns, c, n, m, ha, hl, r⟩ := h
  exact ⟨ns, c, n, m, s _ _ ha, s _ _ hl, r⟩
theorem Kp.same {H H1 H2 : Hp} {a l : Addr} (k : Kp a l H H1) (s : Same H1 H2) : Kp a l H H2 := fun b o n1 n2 e => s _ _ (k b o n1 n2 e)
theorem Kp.trans {H H1 H2 : Hp} {a l : Addr} (k : Kp a l H H1) (s : Kp a l H1 H2) : Kp a l H H2 := fun b o n1 n2 e => s _ _ n1 n2 (k b o n1 n2 e)
theorem StrAt.ne {H : Hp} {a l b : Addr} {B : Nat} (h : StrAt H a l B) (e : H b = none) : b ≠ a ∧ b ≠ l := by
  obtain ⟨ns, c, n, m, ha, hl, r⟩ := h
  exact ⟨fun z => (by rw [z, ha] at e; cases e), fun z => (by rw [z, hl] at e; cases e)⟩
theorem Kp.free {H H' : Hp} {a l b : Addr} {B : Nat} (k : Kp a l H H') (h : StrAt H' a l B) (e : H' b = none) : H b = none := by
  obtain ⟨n1, n2⟩ := h.ne e
  cases q : H b with
  | none => rfl
  | some o => rw [k b o n1 n2 q] at e; cases e
theorem same_fresh {H : Hp} {p : Addr} {o : HO} (hp : H p = none) : Same H (upd H p o) := same_upd (Same.refl _) hp
theorem val_if {t : TT} {ta tb : TE} {σ : L2.St} {H : Hp} {b : Bool} {x y z : V} (h : Ans t σ H b) (ha : Val ta σ H x) (hb : Val tb σ H y) (e : z = if b = true then x else y) : Val (tIf t ta tb) σ H z := by
  intro Q q
  subst e
  refine h _ ?_
  cases b with
  | true => exact ha _ q
  | false => exact hb _ q
theorem if_yes {t : TT} {ta tb : TE} {σ : L2.St} {H : Hp} {Q : VK} (h : Ans t σ H true) (q : ta σ H Q) : tIf t ta tb σ H Q := h _ q
theorem if_no {t : TT} {ta tb : TE} {σ : L2.St} {H : Hp} {Q : VK} (h : Ans t σ H false) (q : tb σ H Q) : tIf t ta tb σ H Q := h _ q
theorem draw_at {σ : L2.St} {H : Hp} {a l : Addr} {B : Nat} {k : Int} {te tk : TE} {E : XK} {Q : VK} (ht : Val te σ H (.ref a)) (hk : Val tk σ H (.int k)) (S : StrAt H a l B) (hB : B < 10000000) (h0 : 0 < k) (h1 : k ≤ 1000000)
    (q : ∀ (d : Int) (H' : Hp), 0 ≤ d → d < k → StrAt H' a l (B + 1) → Kp a l H H' → Q (.int d) H') : tCall spDraw [] E (tCons te (tCons tk tNil)) σ H Q :=
  ht _ (hk _ ⟨a, l, B, k, rfl, S, hB, h0, h1, q⟩)
def six : List V := [.int 0, .bl true, .non, .str "", .int (-10 ^ 29), .str "a b"]
theorem six_at {i : Int} (h0 : 0 ≤ i) (h1 : i < 6) : ∃ v d, atI six i = some v ∧ scal1 v d ∧ ∀ n, Sm n d := by
  have h : i = 0 ∨ i = 1 ∨ i = 2 ∨ i = 3 ∨ i = 4 ∨ i = 5 := by omega
  have sm : ∀ d : D, (∀ ds, d ≠ .lst ds) → (∀ ds, d ≠ .tup ds) → ∀ n, Sm n d := fun d h1 h2 n => by
    cases n <;> cases d <;> first | exact absurd rfl (h1 _) | exact absurd rfl (h2 _) | exact True.intro
  rcases h with rfl | rfl | rfl | rfl | rfl | rfl
  · exact ⟨_, .int 0, rfl, .inr (.inr (.inl ⟨_, rfl, rfl⟩)), sm _ (fun _ e => nomatch e) (fun _ e => nomatch e)⟩
  · exact ⟨_, .bl true, rfl, .inr (.inl ⟨_, rfl, rfl⟩), sm _ (fun _ e => nomatch e) (fun _ e => nomatch e)⟩
  · exact ⟨_, .non, rfl, .inl ⟨rfl, rfl⟩, sm _ (fun _ e => nomatch e) (fun _ e => nomatch e)⟩
  · exact ⟨_, .str _, rfl, .inr (.inr (.inr ⟨_, rfl, rfl⟩)), sm _ (fun _ e => nomatch e) (fun _ e => nomatch e)⟩
  · exact ⟨_, .int _, rfl, .inr (.inr (.inl ⟨_, rfl, rfl⟩)), sm _ (fun _ e => nomatch e) (fun _ e => nomatch e)⟩
  · exact ⟨_, .str _, rfl, .inr (.inr (.inr ⟨_, rfl, rfl⟩)), sm _ (fun _ e => nomatch e) (fun _ e => nomatch e)⟩
section
variable {P : Program} {w : World} {K : PySem.W.Frag} {mg : Str → Option Value} {base : Heap}
structure TT1 (K : PySem.W.Frag) (mg : Str → Option Value) (fd ft : Addr) : Prop where
  f_range : mg "range" = none
  f_tuple : mg "tuple" = none
  m__law_draw : mg "_law_draw" = some (.ref fd)
  k__law_draw : PySem.W.keepIn K (.ref fd) = true
  m__law_thing : mg "_law_thing" = some (.ref ft)
  k__law_thing : PySem.W.keepIn K (.ref ft) = true
theorem sc_thing : FnScope ["_law_stream", "_law_deep", "_law_kind", "_law_k", "_law_some"] ["_law_stream", "_law_deep"] (defScope s_thing) := ⟨rfl, rfl, rfl, by decide +kernel, rfl, by decide +kernel, by decide +kernel⟩
theorem ok_thing {f g : Addr} {fd gd : FuncData} (F : FnP K "_law_thing" s_thing f fd) (T : TT1 K mg g f) (b__law_thing : Binds K fd ["_law_stream", "_law_deep"] []) (b__law_draw : Binds K gd ["_law_stream", "_law_many"] []) (G__law_draw : FnOk P w K mg base CX0 1 g gd ["_law_stream", "_law_many"] spDraw)
    {n : Nat} (G__law_thing : FnOk P w K mg base CX0 (n + 1) f fd ["_law_stream", "_law_deep"] (spT n)) : FnOk P w K mg base CX0 (n + 2) f fd ["_law_stream", "_law_deep"] (spT (n + 1)) := by
  have nd := sc_thing.nd
  refine F.ok sc_thing (fun vs H Q E h => ?_) (fun cdv A outer s H vs Q E hr h => ?_)
  · obtain ⟨a, l, B, rfl, _⟩ := h
    rfl
  · obtain ⟨a, l, B, rfl, hS, hB, q⟩ := h
    have hu := hu_of hr
    have hr1 := hr.mono (show 1 ≤ n + 1 by omega)
    refine ⟨_, (pss_cons (ps_set (i := 2) nd rfl (Or.inl rfl) (pe_call G__law_draw hr1 rfl T.m__law_draw T.k__law_draw b__law_draw .nil pass0 (pa_cons (pv 0) (pa_cons (pe_ifExp (pt_cmpR op_gt (pv 1) pe_int (nomark _)) pe_int pe_int) pa_nil))))
      (pss_cons (ps_if (pt_cmpR op_lt (pv 2) pe_int (nomark _))
        (pss_one (ps_ret (pe_ix ix_list (pe_lst (pa_cons pe_int (pa_cons pe_bl (pa_cons pe_non (pa_cons pe_str (pa_cons (pe_un un_neg (pe_op op_pow pe_int pe_int)) (pa_cons pe_str pa_nil))))))) (pv 2) (fun _ _ => rfl))))
        pss_nil)
      (pss_cons (ps_setLc (i := 4) (own := [("_law_k", 3)]) rfl nd rfl rfl (sw_true rfl rfl rfl (by decide +kernel)) (pi_range1 rfl T.f_range (pa_cons (pe_call G__law_draw hr1 rfl T.m__law_draw T.k__law_draw b__law_draw .nil pass0 (pa_cons (pv 0) (pa_cons pe_int pa_nil))) pa_nil)) (blkOk_by (N := ["_law_stream", "_law_deep", "_law_kind", "_law_k", "_law_some"]) (sc := defScope s_thing) (by decide +kernel)) (fun _ _ _ _ _ => (pg_name (i := 3) nd rfl (Or.inl rfl))) (fun _ _ _ _ _ => pts_nil) (fun _ _ _ _ _ => (pe_call G__law_thing hr rfl T.m__law_thing T.k__law_thing b__law_thing .nil pass0 (pa_cons (pv 0) (pa_cons (pe_op op_sub (pv 1) pe_int) pa_nil)))))
      (pss_cons (ps_if (pt_cmpR op_eq (pv 2) pe_int (nomark _))
        (pss_one (ps_ret (pe_disp (pps_cons pe_str (pv 4) pps_nil) rfl rfl (by simp) (by decide))))
        pss_nil)
      (pss_one (ps_ret (pe_ifExp (pt_cmpR op_eq (pv 2) pe_int (nomark _)) (pv 4) (pe_callTy call_tuple_of rfl T.f_tuple (by decide +kernel) (pa_cons (pv 4) pa_nil))))))))), ?_⟩
    dsimp only [cxOf]
    have cDp : 0 < cD n := by cases n <;> simp [cD] <;> omega
    refine st_seq ?_
    refine draw_at (k := if 0 < n then 9 else 6) (val_var rfl) (val_if (ans_I0 (val_var rfl) val_c) val_c val_c (by cases n <;> simp <;> rfl)) hS (by omega) ?_ ?_ (fun kd H1 k0 k1 S1 kp1 => ?_)
    · cases n <;> simp
    · cases n <;> simp
    dsimp only [gName]
    refine st_seq ?_
    by_cases hk6 : kd < 6
    · refine st_yes ((ans_I0 (val_var rfl) val_c).to (decide_eq_true hk6)) ?_
      obtain ⟨v, d, hv, hsc, hsm⟩ := six_at k0 hk6
      refine ⟨10, 29, rfl, rfl, ⟨by decide, by decide, by decide⟩, _, rfl, ?_⟩
      refine ⟨by decide, fun p hp => ⟨_, rfl, p, _, kd, v, rfl, rfl, SqL.of upd_same, hv, ?_⟩⟩
      have sf := same_fresh (o := HO.lst six) hp
      exact q v d _ (B + 1) (by omega) (S1.same sf) (kp1.same sf) (Rep.scal hsc) (hsm n)
    · refine st_no ((ans_I0 (val_var rfl) val_c).to (decide_eq_false hk6)) (st_next ?_)
      dsimp only
      obtain ⟨n', rfl⟩ : ∃ n', n = n' + 1 := by
        cases n with
        | zero => exact absurd k1 (by simpa using hk6)
        | succ n' => exact ⟨n', rfl⟩
      have k9 : kd < 9 := by simpa using k1
      have hB2 : B + (2 + 2 * cD n') < 10000000 := hB
      refine st_seq ?_
      refine draw_at (val_var rfl) val_c S1 (by omega) (by decide) (by decide) (fun m H2 m0 m1 S2 kp2 => ?_)
      refine ⟨m, rfl, by omega, by omega, fun D hD => ?_⟩
      obtain ⟨D1, D2⟩ := S2.ne hD
      refine lc_range (fun i H' => ∃ (acc : List V) (ds : List HB.D) (B' : Nat), H' D = some (.lst acc) ∧ acc.length = i ∧ Paired (Rep H' (2 * n') (But (New H) D)) acc ds ∧ (∀ x ∈ ds, Sm n' x) ∧ StrAt H' a l B' ∧ B' ≤ B + 2 + i * cD n' ∧ Kp a l H H') ?_ ?_ ?_
      · exact ⟨[], [], B + 2, upd_same, rfl, .nil, (fun _ h => nomatch h), S2.same (same_fresh hD), by omega, (kp1.trans kp2).same (same_fresh hD)⟩
      · rintro i H3 hi ⟨acc, ds, B', hacc, hal, hp, hsm, S3, hB3, kp3⟩
        refine ⟨rfl, ?_⟩
        unfold tYes
        refine iteT ?_
        refine ⟨_, rfl, _, rfl, _, _, rfl, rfl, ?_⟩
        have hi2 : i * cD n' ≤ cD n' := by
          have : i ≤ 1 := by omega
          calc i * cD n' ≤ 1 * cD n' := Nat.mul_le_mul_right _ this
            _ = cD n' := Nat.one_mul _
        refine ⟨a, l, B', by show [V.ref a, V.int (((n' + 1 : Nat) : Int) - 1)] = _; rw [show ((n' + 1 : Nat) : Int) - 1 = (n' : Int) by omega], S3, by omega, fun v d H4 B4 hB4 S4 kp4 r4 sm4 => ?_⟩
        have hacc4 := kp4 _ _ D1 D2 hacc
        refine ⟨acc, hacc4, by rw [hal, sizeLine_eq]; omega, acc ++ [v], ds ++ [d], B4, upd_same, by rw [List.length_append, hal]; rfl, ?_, ?_, ?_, ?_, ?_⟩
        · have keep : ∀ {x : V} {y : HB.D}, Rep H4 (2 * n') (But (New H) D) x y → Rep (upd H4 D (.lst (acc ++ [v]))) (2 * n') (But (New H) D) x y := fun r => Rep.mono (fun b o p e => ⟨p, by rw [upd_ne p.2]; exact e⟩) r
          refine Paired.snoc (Paired.mapP hp fun x y z => keep (Rep.mono (fun b o p e => ⟨p, kp4 b o (hS.ne p.1).1 (hS.ne p.1).2 e⟩) z)) (keep (Rep.mono (fun b o p e => ⟨⟨kp3.free S3 p, fun z => ?_⟩, e⟩) r4))
          have p' : H3 b = none := p
          rw [z, hacc] at p'
          cases p'
        · intro x hx
          rcases List.mem_append.mp hx with h | h
          · exact hsm x h
          · rw [List.mem_singleton.mp h]
            exact sm4
        · obtain ⟨ns, c, n1, m1', ha, hl, r⟩ := S4
          exact ⟨ns, c, n1, m1', by rw [upd_ne D1.symm]; exact ha, by rw [upd_ne D2.symm]; exact hl, r⟩
        · have : (i + 1) * cD n' = i * cD n' + cD n' := Nat.succ_mul _ _
          omega
        · have k5 := kp3.trans kp4
          intro b o n1 n2 e
          have nb : b ≠ D := fun z => by
            have := kp1.trans kp2 b o n1 n2 e
            rw [z, hD] at this
            cases this
          rw [upd_ne nb]
          exact k5 b o n1 n2 e
      · rintro H3 ⟨acc, ds, B', hacc, hal, hp, hsm, S3, hB3, kp3⟩
        dsimp only [gName]
        have hD0 : H D = none := (kp1.trans kp2).free S2 hD
        have hlen : acc.length ≤ 2 := by omega
        have hlen2 : ds.length ≤ 2 := by rw [← Paired.length hp]; omega
        have hmm : m.toNat * cD n' ≤ 2 * cD n' := Nat.mul_le_mul_right _ (by omega)
        have hBf : B' ≤ B + cD (n' + 1) := by
          show B' ≤ B + (2 + 2 * cD n')
          omega
        have h100 : acc.length ≤ 100 := by omega
        have up1 : ∀ {H' : Hp} {x : V} {y : HB.D}, Rep H' (2 * n') (But (New H) D) x y → Rep H' (2 * n' + 1) (But (New H) D) x y := fun r => Rep.up r
        refine st_seq ?_
        by_cases h8 : kd = 8
        · refine st_yes (ans_eq (val_var rfl) val_c rfl (by rw [eqI]; exact decide_eq_true h8)) ?_
          refine fun p hp2 => ⟨_, rfl, upd_same, [(Sum.inr "a", .ref D)], rfl, by show 1 ≤ 15; decide, ?_⟩
          have e2 : upd (upd H3 p (.dK [])) p (.dK (mergeK [] [((Sum.inr "a" : Key), V.ref D)])) = upd H3 p (.dK [((Sum.inr "a" : Key), V.ref D)]) := by
            funext b
            by_cases hb : b = p
            · rw [hb, upd_same, upd_same]
              rfl
            · rw [upd_ne hb, upd_ne hb, upd_ne hb]
          rw [e2]
          have sf := same_fresh (o := HO.dK [((Sum.inr "a" : Key), V.ref D)]) hp2
          have hpn : H p = none := kp3.free S3 hp2
          refine q (.ref p) (.dct "a" (.lst ds)) _ B' hBf (S3.same sf) (kp3.same sf) ?_ True.intro
          refine .inr (.inr (.inr ⟨p, "a", .ref D, .lst ds, rfl, rfl, hpn, upd_same, ?_⟩))
          refine .inr (.inl ⟨D, acc, ds, rfl, rfl, ⟨hD0, ne_of_none hacc hp2⟩, sf _ _ hacc, h100, Paired.mapP hp fun x y z => ?_⟩)
          exact Rep.mono (fun b o pb e => ⟨⟨⟨pb.1, ne_of_none e hp2⟩, pb.2⟩, sf _ _ e⟩) z
        · refine st_no (ans_eq (val_var rfl) val_c rfl (by rw [eqI]; exact decide_eq_false h8)) (st_next ?_)
          dsimp only
          by_cases h6 : kd = 6
          · refine if_yes (ans_eq (val_var rfl) val_c rfl (by rw [eqI]; exact decide_eq_true h6)) ⟨_, rfl, ?_⟩
            exact q (.ref D) (.lst ds) _ B' hBf S3 kp3 (.inr (.inl ⟨D, acc, ds, rfl, rfl, hD0, hacc, h100, Paired.mapP hp fun x y z => up1 z⟩)) ⟨hlen2, hsm⟩
          · refine if_no (ans_eq (val_var rfl) val_c rfl (by rw [eqI]; exact decide_eq_false h6)) ?_
            refine ⟨_, rfl, D, acc, rfl, .inl ⟨SqL.of hacc, fun p hp2 => ?_⟩⟩
            have sf := same_fresh (o := HO.tup acc) hp2
            have hpn : H p = none := kp3.free S3 hp2
            refine q (.ref p) (.tup ds) _ B' hBf (S3.same sf) (kp3.same sf) (.inr (.inr (.inl ⟨p, acc, ds, rfl, rfl, hpn, upd_same, h100, Paired.mapP hp fun x y z => Rep.up (Rep.mono (P := But (New H) D) (fun b o pb e => ⟨⟨pb.1, ne_of_none e hp2⟩, sf _ _ e⟩) z)⟩))) ⟨hlen2, hsm⟩
end
end HB

set_option Elab.async false
set_option linter.all false
set_option maxRecDepth 100000
set_option maxHeartbeats 4000000
namespace HB
open PySem PySem.Spec PyProof.Rows L2
abbrev s_tupled_all : Stmt := top 28
theorem kb_both : ∀ s ∈ tnames, kitB s "list" = some (s == "list") ∧ kitB s "tuple" = some (s == "tuple") := by decide +kernel
theorem kit_both (K : PySem.W.Frag) (d : D) : PySem.W.kitAny K (.type (tname d)) [.type "list", .type "tuple"] = some (tname d == "list" || tname d == "tuple") := by
  unfold PySem.W.kitAny
  rw [kit_list K d]
  cases h : tname d == "list" with
  | true => rfl
  | false =>
    simp only [PySem.W.kitAny, kit_tuple K d, Bool.false_or]
    cases h2 : tname d == "tuple" <;> rfl
theorem ans_isi2 {K : PySem.W.Frag} {σ : L2.St} {H : Hp} {n : Nat} {P : Addr → Prop} {v : V} {d : D} {te : TE} {b : Bool} (hr : Rep H n P v d) (hv : Val te σ H v) (hk : (tname d == "list" || tname d == "tuple") = b) :
    AnsH (tB (tCB (rIsiT K) (tCons te (tCons (tTup (tCons (tC (.ty "list")) (tCons (tC (.ty "tuple")) tNil))) tNil)))) σ H b (Same H) := fun Q q => by
  refine hv _ ⟨by decide, fun p hp => ?_⟩
  have sf := same_fresh (o := HO.tup [.ty "list", .ty "tuple"]) hp
  exact ⟨v, p, _, _, _, b, rfl, upd_same, .cons (.ty "list") (.cons (.ty "tuple") .nil), rep_ty (hr.same sf), by rw [kit_both, hk], b, rfl, q _ sf⟩
theorem ansH_not {t : TT} {σ : L2.St} {H : Hp} {b : Bool} {R : Hp → Prop} (h : AnsH t σ H b R) : AnsH (tNot t) σ H (!b) R := fun Q q => h _ fun H' r => q H' r
/-- made tuples, n calls deep -/
def spU : Nat → Sp
  | 0 => fun _ _ _ _ => False
  | n + 1 => fun vs H Q _ => ∃ (v : V) (d : D) (P : Addr → Prop), vs = [v] ∧ Rep H n P v d ∧ ∀ v' H', Same H H' → Rep H' n (New H) v' (tupd n d) → Q v' H'
theorem map_get {α β : Type} {f : α → β} {xs : List α} {i : Nat} {y : β} (h : (xs.map f)[i]? = some y) : ∃ x, xs[i]? = some x ∧ y = f x := by
  rw [List.getElem?_map] at h
  cases e : xs[i]? with
  | none => rw [e] at h; cases h
  | some x => rw [e] at h; cases h; exact ⟨x, rfl, rfl⟩
section
variable {P : Program} {w : World} {K : PySem.W.Frag} {mg : Str → Option Value} {base : Heap}
structure TU (K : PySem.W.Frag) (mg : Str → Option Value) (f : Addr) : Prop where
  f_isinstance : mg "isinstance" = none
  f_dict : mg "dict" = none
  f_list : mg "list" = none
  f_tuple : mg "tuple" = none
  m__law_tupled_all : mg "_law_tupled_all" = some (.ref f)
  k__law_tupled_all : PySem.W.keepIn K (.ref f) = true
theorem sc_tupled_all : FnScope ["_law_thing_here", "_law_name", "_law_one"] ["_law_thing_here"] (defScope s_tupled_all) := ⟨rfl, rfl, rfl, by decide +kernel, rfl, by decide +kernel, by decide +kernel⟩
theorem ok_tupled_all {f : Addr} {fd : FuncData} (F : FnP K "_law_tupled_all" s_tupled_all f fd) (T : TU K mg f) (b__law_tupled_all : Binds K fd ["_law_thing_here"] []) {n : Nat} (G__law_tupled_all : FnOk P w K mg base CX0 n f fd ["_law_thing_here"] (spU n)) : FnOk P w K mg base CX0 (n + 1) f fd ["_law_thing_here"] (spU (n + 1)) := by
  have nd := sc_tupled_all.nd
  refine F.ok sc_tupled_all (fun vs H Q E h => ?_) (fun cdv A outer s H vs Q E hr h => ?_)
  · obtain ⟨v, d, P, rfl, _⟩ := h
    rfl
  · obtain ⟨v, d, P', rfl, hR, q⟩ := h
    have hu := hu_of hr
    have a1 := ans_isi (K := K) (σ := L2.start ["_law_thing_here", "_law_name", "_law_one"] [v]) hR (val_var (i := 0) rfl) (kit_dict K d)
    rcases hR.cases with hs | ⟨m, rfl, ⟨a, vs, ds, rfl, rfl, p, e3, lz, hp⟩ | ⟨a, vs, ds, rfl, rfl, p, e3, lz, hp⟩ | ⟨a, k, w, e, rfl, rfl, p, e3, hp⟩⟩
    · refine ⟨_, (pss_cons (ps_if (pt_val (pe_callB call_isi rfl T.f_isinstance (by decide +kernel) (pa_cons (pv 0) (pa_cons (pe_bltn (v := .ty "dict") (u := .type "dict") rfl T.f_dict (by decide +kernel) rfl) pa_nil))))
        (pss_one (ps_ret (pe_callTy (call_dictP rfl) rfl T.f_dict (by decide +kernel) (pa_cons (pe_lock (pe_lc (own := [("_law_name", 1)]) rfl nd (pi_keys (pv 0)) (blkOk_by (N := ["_law_thing_here", "_law_name", "_law_one"]) (sc := defScope s_tupled_all) (by decide +kernel)) (fun _ _ _ _ _ => (pg_name (i := 1) nd rfl (Or.inl rfl))) (fun _ _ _ _ _ => pts_nil) (fun _ _ _ _ _ => (pe_tup (pa_cons (pv 1) (pa_cons (pe_call G__law_tupled_all hr rfl T.m__law_tupled_all T.k__law_tupled_all b__law_tupled_all .nil pass0 (pa_cons (pe_dget hu (pv 0) (pv 1) (fun _ _ => rfl)) pa_nil)) pa_nil)))))) pa_nil))))
        pss_nil)
      (pss_cons (ps_if (pt_not (pt_val (pe_callB call_isiT rfl T.f_isinstance (by decide +kernel) (pa_cons (pv 0) (pa_cons (pe_tup (pa_cons (pe_bltn (v := .ty "list") (u := .type "list") rfl T.f_list (by decide +kernel) rfl) (pa_cons (pe_bltn (v := .ty "tuple") (u := .type "tuple") rfl T.f_tuple (by decide +kernel) rfl) pa_nil))) pa_nil)))))
        (pss_one (ps_ret (pv 0)))
        pss_nil)
      (pss_one (ps_ret (pe_callTy call_tuple_of rfl T.f_tuple (by decide +kernel) (pa_cons (pe_lc (own := [("_law_one", 2)]) rfl nd (pi_list (pv 0)) (blkOk_by (N := ["_law_thing_here", "_law_name", "_law_one"]) (sc := defScope s_tupled_all) (by decide +kernel)) (fun _ _ _ _ _ => (pg_name (i := 2) nd rfl (Or.inl rfl))) (fun _ _ _ _ _ => pts_nil) (fun _ _ _ _ _ => (pe_call G__law_tupled_all hr rfl T.m__law_tupled_all T.k__law_tupled_all b__law_tupled_all .nil pass0 (pa_cons (pv 2) pa_nil)))) pa_nil)))))), ?_⟩
      dsimp only [cxOf]
      obtain ⟨n1, n2, n3⟩ := scal_no hs
      refine st_seq (st_no (a1.to n1) (st_next ?_))
      dsimp only
      refine st_seq (st_yesH (ansH_not (ans_isi2 (b := false) hR (val_var rfl) (by rw [n2, n3]; rfl))) fun H' s' => ?_)
      exact st_ret (val_var rfl) (q v H' s' (Rep.scal (by rw [scal1_tupd hs]; exact hs)))
    · refine ⟨_, (pss_cons (ps_if (pt_val (pe_callB call_isi rfl T.f_isinstance (by decide +kernel) (pa_cons (pv 0) (pa_cons (pe_bltn (v := .ty "dict") (u := .type "dict") rfl T.f_dict (by decide +kernel) rfl) pa_nil))))
        (pss_one (ps_ret (pe_callTy (call_dictP rfl) rfl T.f_dict (by decide +kernel) (pa_cons (pe_lock (pe_lc (own := [("_law_name", 1)]) rfl nd (pi_keys (pv 0)) (blkOk_by (N := ["_law_thing_here", "_law_name", "_law_one"]) (sc := defScope s_tupled_all) (by decide +kernel)) (fun _ _ _ _ _ => (pg_name (i := 1) nd rfl (Or.inl rfl))) (fun _ _ _ _ _ => pts_nil) (fun _ _ _ _ _ => (pe_tup (pa_cons (pv 1) (pa_cons (pe_call G__law_tupled_all hr rfl T.m__law_tupled_all T.k__law_tupled_all b__law_tupled_all .nil pass0 (pa_cons (pe_dget hu (pv 0) (pv 1) (fun _ _ => rfl)) pa_nil)) pa_nil)))))) pa_nil))))
        pss_nil)
      (pss_cons (ps_if (pt_not (pt_val (pe_callB call_isiT rfl T.f_isinstance (by decide +kernel) (pa_cons (pv 0) (pa_cons (pe_tup (pa_cons (pe_bltn (v := .ty "list") (u := .type "list") rfl T.f_list (by decide +kernel) rfl) (pa_cons (pe_bltn (v := .ty "tuple") (u := .type "tuple") rfl T.f_tuple (by decide +kernel) rfl) pa_nil))) pa_nil)))))
        (pss_one (ps_ret (pv 0)))
        pss_nil)
      (pss_one (ps_ret (pe_callTy call_tuple_of rfl T.f_tuple (by decide +kernel) (pa_cons (pe_lc (own := [("_law_one", 2)]) rfl nd (pi_list (pv 0)) (blkOk_by (N := ["_law_thing_here", "_law_name", "_law_one"]) (sc := defScope s_tupled_all) (by decide +kernel)) (fun _ _ _ _ _ => (pg_name (i := 2) nd rfl (Or.inl rfl))) (fun _ _ _ _ _ => pts_nil) (fun _ _ _ _ _ => (pe_call G__law_tupled_all hr rfl T.m__law_tupled_all T.k__law_tupled_all b__law_tupled_all .nil pass0 (pa_cons (pv 2) pa_nil)))) pa_nil)))))), ?_⟩
      dsimp only [cxOf]
      refine st_seq (st_no a1 (st_next ?_))
      dsimp only
      refine st_seq (st_noH (ansH_not (ans_isi2 hR (val_var rfl) rfl)) fun H' s' => st_next ?_)
      dsimp only
      refine ⟨_, rfl, a, rfl, ⟨vs, SqL.of (s' _ _ e3)⟩, fun D hD => ?_⟩
      refine lc_reps (ds := ds.map (tupd m)) (n := m) (fun Pv h0 hl hs hd => lc_list (K := K) (a := a) (xs := vs) Pv h0 (fun i H hi p => (hl i H hi p).seq (SqL.of (s' _ _ e3))) hs hd) hD lz (by rw [List.length_map]; exact (Paired.length hp).symm) (fun x => rfl) (fun i x d H1 hx hd hs Q' q' => ?_) (fun H1 acc s1 hacc hl hp' => ?_)
      · obtain ⟨d0, hd0, rfl⟩ := map_get hd
        exact ⟨x, rfl, x, d0, _, rfl, ((paired_get hp hx hd0).same s').same hs, q'⟩
      · refine ⟨D, acc, rfl, .inl ⟨SqL.of hacc, fun l hl2 => ?_⟩⟩
        refine q _ _ (same_upd (s'.trans s1) ((s'.trans s1).free hl2)) (.inr (.inr (.inl ⟨l, acc, _, rfl, rfl, (s'.trans s1).free hl2, upd_same, by omega, paired_imp hp' fun y z r => ?_⟩)))
        exact Rep.mono (fun b o pb eb => ⟨⟨s'.free pb.1, ne_of_none eb hl2⟩, by rw [upd_ne (ne_of_none eb hl2)]; exact eb⟩) r
    · refine ⟨_, (pss_cons (ps_if (pt_val (pe_callB call_isi rfl T.f_isinstance (by decide +kernel) (pa_cons (pv 0) (pa_cons (pe_bltn (v := .ty "dict") (u := .type "dict") rfl T.f_dict (by decide +kernel) rfl) pa_nil))))
        (pss_one (ps_ret (pe_callTy (call_dictP rfl) rfl T.f_dict (by decide +kernel) (pa_cons (pe_lock (pe_lc (own := [("_law_name", 1)]) rfl nd (pi_keys (pv 0)) (blkOk_by (N := ["_law_thing_here", "_law_name", "_law_one"]) (sc := defScope s_tupled_all) (by decide +kernel)) (fun _ _ _ _ _ => (pg_name (i := 1) nd rfl (Or.inl rfl))) (fun _ _ _ _ _ => pts_nil) (fun _ _ _ _ _ => (pe_tup (pa_cons (pv 1) (pa_cons (pe_call G__law_tupled_all hr rfl T.m__law_tupled_all T.k__law_tupled_all b__law_tupled_all .nil pass0 (pa_cons (pe_dget hu (pv 0) (pv 1) (fun _ _ => rfl)) pa_nil)) pa_nil)))))) pa_nil))))
        pss_nil)
      (pss_cons (ps_if (pt_not (pt_val (pe_callB call_isiT rfl T.f_isinstance (by decide +kernel) (pa_cons (pv 0) (pa_cons (pe_tup (pa_cons (pe_bltn (v := .ty "list") (u := .type "list") rfl T.f_list (by decide +kernel) rfl) (pa_cons (pe_bltn (v := .ty "tuple") (u := .type "tuple") rfl T.f_tuple (by decide +kernel) rfl) pa_nil))) pa_nil)))))
        (pss_one (ps_ret (pv 0)))
        pss_nil)
      (pss_one (ps_ret (pe_callTy call_tuple_of rfl T.f_tuple (by decide +kernel) (pa_cons (pe_lc (own := [("_law_one", 2)]) rfl nd (pi_tup (pv 0)) (blkOk_by (N := ["_law_thing_here", "_law_name", "_law_one"]) (sc := defScope s_tupled_all) (by decide +kernel)) (fun _ _ _ _ _ => (pg_name (i := 2) nd rfl (Or.inl rfl))) (fun _ _ _ _ _ => pts_nil) (fun _ _ _ _ _ => (pe_call G__law_tupled_all hr rfl T.m__law_tupled_all T.k__law_tupled_all b__law_tupled_all .nil pass0 (pa_cons (pv 2) pa_nil)))) pa_nil)))))), ?_⟩
      dsimp only [cxOf]
      refine st_seq (st_no a1 (st_next ?_))
      dsimp only
      refine st_seq (st_noH (ansH_not (ans_isi2 hR (val_var rfl) rfl)) fun H' s' => st_next ?_)
      dsimp only
      refine ⟨_, rfl, a, rfl, ⟨vs, SqT.of (s' _ _ e3)⟩, fun D hD => ?_⟩
      refine lc_reps (ds := ds.map (tupd m)) (n := m) (fun Pv h0 hl hs hd => lc_tup (K := K) (a := a) (xs := vs) Pv h0 (fun i H hi p => SqT.of ((hl i H hi p) _ _ (s' _ _ e3))) hs hd) hD lz (by rw [List.length_map]; exact (Paired.length hp).symm) (fun x => rfl) (fun i x d H1 hx hd hs Q' q' => ?_) (fun H1 acc s1 hacc hl hp' => ?_)
      · obtain ⟨d0, hd0, rfl⟩ := map_get hd
        exact ⟨x, rfl, x, d0, _, rfl, ((paired_get hp hx hd0).same s').same hs, q'⟩
      · refine ⟨D, acc, rfl, .inl ⟨SqL.of hacc, fun l hl2 => ?_⟩⟩
        refine q _ _ (same_upd (s'.trans s1) ((s'.trans s1).free hl2)) (.inr (.inr (.inl ⟨l, acc, _, rfl, rfl, (s'.trans s1).free hl2, upd_same, by omega, paired_imp hp' fun y z r => ?_⟩)))
        exact Rep.mono (fun b o pb eb => ⟨⟨s'.free pb.1, ne_of_none eb hl2⟩, by rw [upd_ne (ne_of_none eb hl2)]; exact eb⟩) r
    · refine ⟨_, (pss_cons (ps_if (pt_val (pe_callB call_isi rfl T.f_isinstance (by decide +kernel) (pa_cons (pv 0) (pa_cons (pe_bltn (v := .ty "dict") (u := .type "dict") rfl T.f_dict (by decide +kernel) rfl) pa_nil))))
        (pss_one (ps_ret (pe_callTy (call_dictP rfl) rfl T.f_dict (by decide +kernel) (pa_cons (pe_lock (pe_lc (own := [("_law_name", 1)]) rfl nd (pi_keys (pv 0)) (blkOk_by (N := ["_law_thing_here", "_law_name", "_law_one"]) (sc := defScope s_tupled_all) (by decide +kernel)) (fun _ _ _ _ _ => (pg_name (i := 1) nd rfl (Or.inl rfl))) (fun _ _ _ _ _ => pts_nil) (fun _ _ _ _ _ => (pe_tup (pa_cons (pv 1) (pa_cons (pe_call G__law_tupled_all hr rfl T.m__law_tupled_all T.k__law_tupled_all b__law_tupled_all .nil pass0 (pa_cons (pe_dget hu (pv 0) (pv 1) (fun _ _ => rfl)) pa_nil)) pa_nil)))))) pa_nil))))
        pss_nil)
      (pss_cons (ps_if (pt_not (pt_val (pe_callB call_isiT rfl T.f_isinstance (by decide +kernel) (pa_cons (pv 0) (pa_cons (pe_tup (pa_cons (pe_bltn (v := .ty "list") (u := .type "list") rfl T.f_list (by decide +kernel) rfl) (pa_cons (pe_bltn (v := .ty "tuple") (u := .type "tuple") rfl T.f_tuple (by decide +kernel) rfl) pa_nil))) pa_nil)))))
        (pss_one (ps_ret (pv 0)))
        pss_nil)
      (pss_one (ps_ret (pe_callTy call_tuple_of rfl T.f_tuple (by decide +kernel) (pa_cons (pe_lc (own := [("_law_one", 2)]) rfl nd (pi_list (pv 0)) (blkOk_by (N := ["_law_thing_here", "_law_name", "_law_one"]) (sc := defScope s_tupled_all) (by decide +kernel)) (fun _ _ _ _ _ => (pg_name (i := 2) nd rfl (Or.inl rfl))) (fun _ _ _ _ _ => pts_nil) (fun _ _ _ _ _ => (pe_call G__law_tupled_all hr rfl T.m__law_tupled_all T.k__law_tupled_all b__law_tupled_all .nil pass0 (pa_cons (pv 2) pa_nil)))) pa_nil)))))), ?_⟩
      dsimp only [cxOf]
      refine st_seq (st_yes a1 ?_)
      refine ⟨a, _, e3, True.intro, fun od => ?_⟩
      refine ⟨_, rfl, a, od, rfl, .inl ⟨_, upd_same, fun D hD => ?_⟩⟩
      have hDa : D ≠ a := fun z => by
        rw [z, upd_same] at hD
        cases hD
      have hD0 : H D = none := by rw [upd_ne hDa] at hD; exact hD
      have hRw : Rep (upd H a (.frz od (.dK [(Sum.inr k, w)]))) m (But P' a) w e := Rep.mono (fun b o pb eb => ⟨pb, by rw [upd_ne pb.2]; exact eb⟩) hp
      generalize hHa : upd H a (.frz od (.dK [(Sum.inr k, w)])) = Ha at hD hRw ⊢
      have ea : Ha a = some (.frz od (.dK [(Sum.inr k, w)])) := by rw [← hHa]; exact upd_same
      refine ⟨fun i mm H' => Same Ha H' ∧ ((i = 0 ∧ mm = 1 ∧ H' D = some (.lst [])) ∨ (i = 1 ∧ mm = 0 ∧ ∃ (t : Addr) (y : V), t ≠ D ∧ H' D = some (.lst [.ref t]) ∧ H' t = some (.tup [.str k, y]) ∧ Rep H' m (But (New H) D) y (tupd m e))), ⟨1, same_upd (Same.refl _) hD, .inl ⟨rfl, rfl, upd_same⟩⟩, ?_⟩
      rintro i mm H1 ⟨s1, hw⟩
      have f1 : H1 a = some (.frz od (.dK [(Sum.inr k, w)])) := s1 _ _ ea
      rcases hw with ⟨rfl, rfl, hDd⟩ | ⟨rfl, rfl, t, y, htD, hDd, ht, ry⟩
      · refine .inr ⟨⟨f1, Nat.one_pos⟩, fun H' => Same Ha H' ∧ ∃ (t : Addr) (y : V), t ≠ D ∧ H' D = some (.lst [.ref t]) ∧ H' t = some (.tup [.str k, y]) ∧ Rep H' m (But (New H) D) y (tupd m e), fun H' hh => ⟨0, by decide, hh.1, .inr ⟨rfl, rfl, hh.2⟩⟩, ?_⟩
        rintro x H2 ⟨rfl, k', v', hk', rfl⟩
        have ek : k' = Sum.inr k := by
          simp at hk'
          exact hk'.1.symm
        subst ek
        refine ⟨rfl, ?_⟩
        unfold tYes
        refine iteT ?_
        refine ⟨_, rfl, _, rfl, _, rfl, a, w, rfl, .inl ⟨_, Sum.inr k, .inr ⟨od, f1⟩, rfl, ?_⟩, ?_⟩
        · simp [valV]
        refine ⟨w, e, _, rfl, hRw.same s1, fun y H3 s3 r3 => ?_⟩
        have hD3 := s3 _ _ hDd
        refine ⟨by show 2 ≤ sizeLine; rw [sizeLine_eq]; decide, fun t ht => ⟨[], by rw [upd_ne (ne_of_none hD3 ht)]; exact hD3, by show 0 < sizeLine; rw [sizeLine_eq]; decide, ?_, t, y, fun z => by (rw [z, hD3] at ht; cases ht), upd_same, ?_, ?_⟩⟩
        · intro b o eb
          have h3 := s3 _ _ (s1 _ _ eb)
          rw [upd_ne (ne_of_none eb hD), upd_ne (ne_of_none h3 ht)]
          exact h3
        · rw [upd_ne (fun z => by rw [z, hD3] at ht; cases ht), upd_same]
          rfl
        · refine Rep.mono (fun b o pb eb => ?_) r3
          have nb : b ≠ D := fun z => by
            have pb' : H2 b = none := pb
            rw [z, hDd] at pb'
            cases pb'
          have nba : b ≠ a := fun z => by
            have pb' : H2 b = none := pb
            rw [z, f1] at pb'
            cases pb'
          have fb : Ha b = none := s1.free pb
          rw [← hHa, upd_ne nba] at fb
          exact ⟨⟨fb, nb⟩, by rw [upd_ne nb, upd_ne (ne_of_none eb ht)]; exact eb⟩
      · refine .inl ⟨⟨f1, Nat.le_refl _⟩, f1, ?_⟩
        have hta : t ≠ a := fun z => by rw [z, f1] at ht; cases ht
        refine ⟨D, [t], [(Sum.inr k, y)], rfl, SqL.of (by rw [upd_ne hDa]; exact hDd), .cons (SqT.of (by rw [upd_ne hta]; exact ht)) .nil, fun p hp2 => ?_⟩
        have hpa : p ≠ a := fun z => by rw [z, upd_same] at hp2; cases hp2
        have hp1 : H1 p = none := by rw [upd_ne hpa] at hp2; exact hp2
        have hpn : H p = none := by
          have z : Ha p = none := s1.free hp1
          rw [← hHa, upd_ne hpa] at z
          exact z
        refine q _ _ (fun b o eb => ?_) (.inr (.inr (.inr ⟨p, k, y, tupd m e, rfl, rfl, hpn, upd_same, Rep.mono (fun b o pb eb => ?_) ry⟩)))
        · by_cases hb : b = a
          · subst hb
            rw [e3] at eb
            cases eb
            rw [upd_ne hpa.symm]
            exact upd_same
          · have z : Ha b = some o := by rw [← hHa, upd_ne hb]; exact eb
            have z1 := s1 _ _ z
            rw [upd_ne (ne_of_none z1 hp1), upd_ne hb]
            exact z1
        · have nba : b ≠ a := fun z => by
            have pb' : H b = none := pb.1
            rw [z, e3] at pb'
            cases pb'
          exact ⟨⟨pb.1, ne_of_none eb hp1⟩, by rw [upd_ne (ne_of_none eb hp1), upd_ne nba]; exact eb⟩
end
end HB

set_option Elab.async false
set_option linter.all false
set_option maxRecDepth 100000
set_option maxHeartbeats 4000000
namespace HB
open PySem PySem.Spec PyProof.Rows L2
abbrev s_spoil : Stmt := top 25
/-- neither list nor tuple -/
def Leaf (H : Hp) (v : V) : Prop := (∃ d, scal1 v d) ∨ ∃ a kvs, v = .ref a ∧ H a = some (.dK kvs)
def Th (H : Hp) (B : Nat) : Nat → (Addr → Prop) → V → Prop
  | 0, _ => Leaf H
  | n + 1, P => fun v => Leaf H v ∨ ∃ a vs, v = .ref a ∧ P a ∧ (H a = some (.lst vs) ∨ H a = some (.tup vs)) ∧ vs.length ≤ B ∧ ∀ x ∈ vs, Th H B n (But P a) x
/-- lists at P may have grown by noughts, to B at most -/
def Grow (H H' : Hp) (P : Addr → Prop) (B : Nat) : Prop := ∀ b o, H b = some o → H' b = some o ∨ (P b ∧ ∃ vs k, o = .lst vs ∧ H' b = some (.lst (vs ++ List.replicate k (.int 0))) ∧ vs.length + k ≤ B)
theorem Grow.refl {H : Hp} {P : Addr → Prop} {B : Nat} : Grow H H P B := fun b o e => .inl e
theorem Grow.same {H H' : Hp} {P : Addr → Prop} {B : Nat} (s : Same H H') : Grow H H' P B := fun b o e => .inl (s b o e)
theorem Grow.trans {H H1 H2 : Hp} {P P' : Addr → Prop} {B1 B2 : Nat} (g : Grow H H1 P B1) (h : Grow H1 H2 P' B2) (hb : B1 ≤ B2) (hp : ∀ b o, P' b → H b = some o → P b) : Grow H H2 P B2 := by
  intro b o e
  rcases g b o e with e1 | ⟨p, vs, k, rfl, e1, l⟩
  · rcases h b o e1 with e2 | ⟨p, vs, k, rfl, e2, l⟩
    · exact .inl e2
    · exact .inr ⟨hp b _ p e, vs, k, rfl, e2, l⟩
  · rcases h b _ e1 with e2 | ⟨p', vs', k', eq, e2, l'⟩
    · exact .inr ⟨p, vs, k, rfl, e2, by omega⟩
    · cases eq
      refine .inr ⟨p, vs, k + k', rfl, ?_, ?_⟩
      · rw [e2, List.append_assoc, List.replicate_append_replicate]
      · rw [List.length_append, List.length_replicate] at l'
        omega
theorem leaf0 {H : Hp} : Leaf H (.int 0) := .inl ⟨.int 0, .inr (.inr (.inl ⟨0, rfl, rfl⟩))⟩
theorem th_leaf {H : Hp} {B : Nat} {P : Addr → Prop} {v : V} (h : Leaf H v) : ∀ {n : Nat}, Th H B n P v
  | 0 => h
  | _ + 1 => .inl h
theorem Leaf.grow {H H' : Hp} {P : Addr → Prop} {B : Nat} {v : V} (g : Grow H H' P B) (h : Leaf H v) : Leaf H' v := by
  rcases h with h | ⟨a, kvs, e, e1⟩
  · exact .inl h
  · rcases g a _ e1 with e2 | ⟨_, vs, k, eq, _⟩
    · exact .inr ⟨a, kvs, e, e2⟩
    · cases eq
theorem Th.grow {H H' : Hp} {Pg : Addr → Prop} {B B' : Nat} (g : Grow H H' Pg B') (hb : B ≤ B') : ∀ {n : Nat} {P P2 : Addr → Prop} {v : V}, (∀ b o, P b → H b = some o → P2 b) → Th H B n P v → Th H' B' n P2 v
  | 0, _, _, _, _, h => Leaf.grow g h
  | n + 1, P, P2, v, hp, h => by
    rcases h with h | ⟨a, vs, e, p, e1, l, q⟩
    · exact .inl (h.grow g)
    · have hp' : ∀ b o, But P a b → H b = some o → But P2 a b := fun b o pb e => ⟨hp b o pb.1 e, pb.2⟩
      rcases e1 with e1 | e1
      · rcases g a _ e1 with e2 | ⟨_, vs', k, eq, e2, l'⟩
        · exact .inr ⟨a, vs, e, hp a _ p e1, .inl e2, by omega, fun x hx => Th.grow g hb hp' (q x hx)⟩
        · cases eq
          refine .inr ⟨a, _, e, hp a _ p e1, .inl e2, by rw [List.length_append, List.length_replicate]; exact l', fun x hx => ?_⟩
          rcases List.mem_append.mp hx with h1 | h1
          · exact Th.grow g hb hp' (q x h1)
          · rw [List.eq_of_mem_replicate h1]
            exact th_leaf leaf0
      · rcases g a _ e1 with e2 | ⟨_, vs', k, eq, _⟩
        · exact .inr ⟨a, vs, e, hp a _ p e1, .inr e2, by omega, fun x hx => Th.grow g hb hp' (q x hx)⟩
        · cases eq
def itr (f : Nat → Nat) : Nat → Nat → Nat
  | 0, B => B
  | i + 1, B => f (itr f i B)
def gS : Nat → Nat → Nat
  | 0, B => B
  | n + 1, B => itr (gS n) B B + 1
theorem itr_le {f : Nat → Nat} (h : ∀ x, x ≤ f x) (B : Nat) : ∀ {i j : Nat}, i ≤ j → itr f i B ≤ itr f j B
  | i, 0, hh => by cases Nat.le_zero.mp hh; exact Nat.le_refl _
  | i, j + 1, hh => by
    by_cases e : i = j + 1
    · rw [e]
      exact Nat.le_refl _
    · exact Nat.le_trans (itr_le h B (show i ≤ j by omega)) (h _)
theorem gS_ge : ∀ n x, x ≤ gS n x
  | 0, x => Nat.le_refl x
  | n + 1, x => Nat.le_succ_of_le (itr_le (gS_ge n) x (Nat.zero_le x))
def spS : Nat → Sp
  | 0 => fun _ _ _ _ => False
  | n + 1 => fun vs H Q _ => ∃ (v : V) (B : Nat) (P : Addr → Prop), vs = [v] ∧ Th H B n P v ∧ gS n B < 1000000 ∧ ∀ H', Grow H H' P (gS n B) → Q .non H'
theorem leaf_ty {K : PySem.W.Frag} {H : Hp} {v : V} (h : Leaf H v) : ∃ d, (∀ H2, Same H H2 → TyX K H2 v (.type (tname d))) ∧ (tname d == "list") = false ∧ (tname d == "tuple") = false := by
  rcases h with ⟨d, h⟩ | ⟨a, kvs, rfl, e⟩
  · exact ⟨d, fun H2 s2 => scal_ty h, (scal_no h).2⟩
  · exact ⟨.dct "" .non, fun H2 s2 => .base (.dK (s2 _ _ e)), rfl, rfl⟩
theorem ans_isiX {K : PySem.W.Frag} {σ : L2.St} {H : Hp} {v : V} {d : D} {T : String} {te : TE} {b : Bool} (hr : TyX K H v (.type (tname d))) (hv : Val te σ H v) (hk : PySem.W.kitOne K (.type (tname d)) (.type T) = some b) :
    Ans (tB (tCB (rIsi K) (tCons te (tCons (tC (.ty T)) tNil)))) σ H b := fun Q q => hv _ ⟨v, .ty T, _, _, b, rfl, .ty T, hr, hk, b, rfl, q⟩
theorem ans_isi2X {K : PySem.W.Frag} {σ : L2.St} {H : Hp} {v : V} {d : D} {te : TE} {b : Bool} (hr : ∀ p : Addr, H p = none → TyX K (upd H p (.tup [.ty "list", .ty "tuple"])) v (.type (tname d))) (hv : Val te σ H v) (hk : (tname d == "list" || tname d == "tuple") = b) :
    AnsH (tB (tCB (rIsiT K) (tCons te (tCons (tTup (tCons (tC (.ty "list")) (tCons (tC (.ty "tuple")) tNil))) tNil)))) σ H b (Same H) := fun Q q => by
  refine hv _ ⟨by decide, fun p hp => ?_⟩
  have sf := same_fresh (o := HO.tup [.ty "list", .ty "tuple"]) hp
  exact ⟨v, p, _, _, _, b, rfl, upd_same, .cons (.ty "list") (.cons (.ty "tuple") .nil), hr p hp, by rw [kit_both, hk], b, rfl, q _ sf⟩
section
variable {P : Program} {w : World} {K : PySem.W.Frag} {mg : Str → Option Value} {base : Heap}
structure TS1 (K : PySem.W.Frag) (mg : Str → Option Value) (f : Addr) : Prop where
  f_isinstance : mg "isinstance" = none
  f_list : mg "list" = none
  f_tuple : mg "tuple" = none
  m__law_spoil : mg "_law_spoil" = some (.ref f)
  k__law_spoil : PySem.W.keepIn K (.ref f) = true
theorem sc_spoil : FnScope ["_law_thing_here", "_law_one"] ["_law_thing_here"] (defScope s_spoil) := ⟨rfl, rfl, rfl, by decide +kernel, rfl, by decide +kernel, by decide +kernel⟩
theorem ok_spoil {f : Addr} {fd : FuncData} (F : FnP K "_law_spoil" s_spoil f fd) (T : TS1 K mg f) (b__law_spoil : Binds K fd ["_law_thing_here"] []) {n : Nat} (G__law_spoil : FnOk P w K mg base CX0 n f fd ["_law_thing_here"] (spS n)) : FnOk P w K mg base CX0 (n + 1) f fd ["_law_thing_here"] (spS (n + 1)) := by
  have nd := sc_spoil.nd
  refine F.ok sc_spoil (fun vs H Q E h => ?_) (fun cdv A outer s H vs Q E hr h => ?_)
  · obtain ⟨v, B, P, rfl, _⟩ := h
    rfl
  · obtain ⟨v, B, P', rfl, hT, hB, q⟩ := h
    have hu := hu_of hr
    refine ⟨_, (pss_cons (ps_if (pt_val (pe_callB call_isiT rfl T.f_isinstance (by decide +kernel) (pa_cons (pv 0) (pa_cons (pe_tup (pa_cons (pe_bltn (v := .ty "list") (u := .type "list") rfl T.f_list (by decide +kernel) rfl) (pa_cons (pe_bltn (v := .ty "tuple") (u := .type "tuple") rfl T.f_tuple (by decide +kernel) rfl) pa_nil))) pa_nil))))
        (pss_one (ps_for (passes_of rfl) rfl (pi_list (pe_callTy call_list_of rfl T.f_list (by decide +kernel) (pa_cons (pv 0) pa_nil))) (pg_name (i := 1) nd rfl (Or.inl rfl))
        (pss_one (ps_expr (pe_call G__law_spoil hr rfl T.m__law_spoil T.k__law_spoil b__law_spoil .nil pass0 (pa_cons (pv 1) pa_nil))))))
        pss_nil)
      (pss_one (ps_if (pt_val (pe_callB call_isi rfl T.f_isinstance (by decide +kernel) (pa_cons (pv 0) (pa_cons (pe_bltn (v := .ty "list") (u := .type "list") rfl T.f_list (by decide +kernel) rfl) pa_nil))))
        (pss_one (ps_expr (pe_bm PySem.F.plainAttrs_list PySem.F.slot_list_append PySem.F.type_list_append mt_append (pv 0) (pa_cons pe_int pa_nil))))
        pss_nil))), ?_⟩
    dsimp only [cxOf]
    by_cases hl : Leaf H v
    · obtain ⟨d, ty, n1, n2⟩ := leaf_ty (K := K) hl
      refine st_seq (st_noH (ans_isi2X (b := false) (d := d) (fun p hp => ty _ (same_fresh hp)) (val_var rfl) (by rw [n1, n2]; rfl)) fun H' s' => st_next ?_)
      dsimp only
      exact st_no ((ans_isiX (d := d) (ty _ s') (val_var rfl) (kit_list K _)).to n1) (st_next (q _ (Grow.same s')))
    · cases n with
      | zero => exact absurd hT hl
      | succ n =>
        rcases hT with hT | ⟨a, vs, rfl, p, e1, lz, hc⟩
        · exact absurd hT hl
        have hgB : itr (gS n) vs.length B ≤ itr (gS n) B B := itr_le (gS_ge n) B lz
        have hB' : itr (gS n) B B + 1 < 1000000 := hB
        have hBB : B ≤ itr (gS n) B B := itr_le (gS_ge n) B (Nat.zero_le B)
        obtain ⟨d, hd1, hd2⟩ : ∃ d : D, (∀ H2 : Hp, Same H H2 → TyX K H2 (.ref a) (.type (tname d))) ∧ (tname d == "list" || tname d == "tuple") = true := by
          rcases e1 with e1 | e1
          · exact ⟨.lst [], fun H2 s2 => .base (.lst (s2 _ _ e1)), rfl⟩
          · exact ⟨.tup [], fun H2 s2 => .base (.tup (s2 _ _ e1)), rfl⟩
        refine st_seq (st_yesH (ans_isi2X (b := true) (d := d) (fun p hp => hd1 _ (same_fresh hp)) (val_var rfl) hd2) fun H1 s1 => ?_)
        refine ⟨_, rfl, a, vs, rfl, ?_, fun L hL => ⟨L, rfl, ⟨vs, SqL.of upd_same⟩, ?_⟩⟩
        · rcases e1 with e1 | e1
          · exact .inl (SqL.of (s1 _ _ e1))
          · exact .inr (SqT.of (s1 _ _ e1))
        have hLn : H L = none := s1.free hL
        refine for_list (K := K) (a := L) (xs := vs) (fun i σ' H' => (σ'[0]? = some (some (.ref a)) ∧ σ'.length = 2) ∧ Grow H H' (But P' a) (itr (gS n) i B) ∧ H' L = some (.lst vs)) ⟨⟨rfl, rfl⟩, Grow.same (s1.trans (same_fresh hL)), upd_same⟩ (fun i σ' H' hi h => SqL.of h.2.2) ?_ ?_
        · rintro i x σ' H' hx ⟨⟨h0, hln⟩, g0, hLv⟩
          have hi : i < vs.length := (List.getElem?_eq_some_iff.mp hx).1
          have hii : gS n (itr (gS n) i B) ≤ itr (gS n) B B := itr_le (gS_ge n) B (i := i + 1) (by omega)
          refine ⟨x, List.getElem?_set_self (by omega), x, itr (gS n) i B, (fun b => But P' a b ∧ b ≠ L), rfl, Th.grow g0 (itr_le (gS_ge n) B (Nat.zero_le i)) (fun b o pb e => ⟨pb, ne_of_none e hLn⟩) (hc x (List.mem_of_getElem? hx)), by omega, fun H2 g2 => ?_⟩
          refine ⟨?_, g0.trans g2 (gS_ge n _) (fun b o pb _ => pb.1), ?_⟩
          · exact ⟨by rw [List.getElem?_set_ne (by decide)]; exact h0, by rw [List.length_set]; exact hln⟩
          · rcases g2 L _ hLv with z | ⟨z, _⟩
            · exact z
            · exact absurd rfl z.2
        · rintro σ' H' ⟨⟨h0, hln⟩, g0, hLv⟩
          have ea : ∀ o, H a = some o → H' a = some o := fun o e => by
            rcases g0 a o e with z | ⟨z, _⟩
            · exact z
            · exact absurd rfl z.2
          dsimp only
          rcases e1 with e1 | e1
          · refine st_yes (ans_isiX (d := .lst []) (.base (.lst (ea _ e1))) (val_var h0) (kit_list K _)) ?_
            refine ⟨_, h0, .inl ⟨rfl, _, SqL.of (ea _ e1)⟩, a, vs, .int 0, rfl, rfl, ea _ e1, by rw [sizeLine_eq]; omega, ?_⟩
            refine q _ fun b o e => ?_
            by_cases hb : b = a
            · subst hb
              rw [e1] at e
              cases e
              refine .inr ⟨p, vs, 1, rfl, upd_same, ?_⟩
              show vs.length + 1 ≤ itr (gS n) B B + 1
              omega
            · rw [upd_ne hb]
              rcases g0 b o e with z | ⟨z, ws, k, e2, e3, l⟩
              · exact .inl z
              · refine .inr ⟨z.1, ws, k, e2, e3, ?_⟩
                show ws.length + k ≤ itr (gS n) B B + 1
                omega
          · refine st_no (ans_isiX (d := .tup []) (.base (.tup (ea _ e1))) (val_var h0) (kit_list K _)) (st_next ?_)
            refine q _ fun b o e => ?_
            rcases g0 b o e with z | ⟨z, ws, k, e2, e3, l⟩
            · exact .inl z
            · refine .inr ⟨z.1, ws, k, e2, e3, ?_⟩
              show ws.length + k ≤ itr (gS n) B B + 1
              omega
end
end HB

set_option Elab.async false
set_option linter.all false
set_option maxRecDepth 100000
set_option maxHeartbeats 4000000
namespace HB
open PySem PySem.Spec PyProof.Rows L2
abbrev s_kinds : Stmt := top 26
/-! lists of values that change nothing -/
def ValA (ta : TA) (σ : L2.St) (H : Hp) (vs : List V) : Prop := ∀ Q : List V → Hp → Prop, Q vs H → ta σ H Q
theorem vala_nil {σ : L2.St} {H : Hp} : ValA tNil σ H [] := fun _ q => q
theorem vala_cons {σ : L2.St} {H : Hp} {te : TE} {ta : TA} {v : V} {vs : List V} (h : Val te σ H v) (t : ValA ta σ H vs) : ValA (tCons te ta) σ H (v :: vs) := fun _ q => h _ (t _ q)
theorem lst_at1 {σ : L2.St} {H : Hp} {ta : TA} {vs : List V} {Q : VK} (t : ValA ta σ H vs) (hl : vs.length ≤ 1000) (q : ∀ p H', Same H H' → H' p = some (.lst vs) → Q (.ref p) H') : tLst ta σ H Q :=
  t _ ⟨by rw [sizeLine_eq]; omega, fun p hp => q p _ (same_fresh hp) upd_same⟩
theorem cat_at {σ : L2.St} {H : Hp} {te : TE} {ta : TA} {l : Addr} {xs vs : List V} {Q : VK} (h : Val te σ H (.ref l)) (hl : H l = some (.lst xs)) (t : ValA ta σ H vs) (hx : xs.length ≤ 1000) (hv : vs.length ≤ 1000) (q : ∀ p H', Same H H' → H' p = some (.lst (xs ++ vs)) → Q (.ref p) H') :
    tOp rCat te (tLst ta) σ H Q :=
  h _ (t _ ⟨by rw [sizeLine_eq]; omega, fun b hb => ⟨l, b, xs, vs, rfl, rfl, by rw [upd_ne (ne_of_none hl hb)]; exact hl, upd_same, by rw [sizeLine_eq]; omega, fun p hp => q p _ ((same_fresh hb).trans (same_fresh hp)) upd_same⟩⟩)
theorem val_isX {K : PySem.W.Frag} {σ : L2.St} {H : Hp} {te : TE} {a C D : Addr} {fs : List (Str × V)} {b : Bool} (hv : Val te σ H (.ref a)) (ea : ExAt H a C fs) (F : ExcF K C) (hk : PySem.W.kitOne K (.ref C) (.ref D) = some b) :
    Val (tCB (rIsX K) (tCons te (tCons (tC (.ref D)) tNil))) σ H (.bl b) := fun Q q => hv _ ⟨a, C, fs, .ref D, .ref D, b, rfl, ea, F, .own D, hk, q⟩
theorem ExAt.same {H H' : Hp} {a C : Addr} {fs : List (Str × V)} (s : Same H H') (h : ExAt H a C fs) : ExAt H' a C fs := by
  rcases h with ⟨e, r⟩ | ⟨d, e, r⟩
  · exact .inl ⟨s _ _ e, r⟩
  · exact .inr ⟨d, s _ _ e, s _ _ r⟩
def spStart (K : PySem.W.Frag) : Sp := fun vs H Q _ => ∃ (x : Addr) (ns : List Int), vs = [.ref x] ∧ SqL K H x (ns.map V.int) ∧ ns.length ≤ 63 ∧ ∀ p l H', Same H H' → StrAt H' p l 0 → Q (.ref p) H'
/-- an own exception class by name -/
structure XA (K : PySem.W.Frag) (mg : Str → Option Value) (x : Str) (C fI : Addr) : Prop where
  Z : ExcK K C
  F : ExcF K C
  iC : PySem.W.findIn K (.ref C) "__init__" = some (some (.ref fI))
  tI : PySem.W.typeIn K (.ref fI) = some (.type "function")
  m : mg x = some (.ref C)
structure TXs (K : PySem.W.Frag) (mg : Str → Option Value) (cA fA : Nat → Addr) (cH : Addr) : Prop where
  x_BadPart : XA K mg "BadPart" (cA 0) (fA 0)
  x_BadPile : XA K mg "BadPile" (cA 1) (fA 1)
  x_BadText : XA K mg "BadText" (cA 2) (fA 2)
  x_BadUse : XA K mg "BadUse" (cA 3) (fA 3)
  x_BadWish : XA K mg "BadWish" (cA 4) (fA 4)
  x_NoAnswer : XA K mg "NoAnswer" (cA 5) (fA 5)
  x_NoFit : XA K mg "NoFit" (cA 6) (fA 6)
  x_NoPath : XA K mg "NoPath" (cA 7) (fA 7)
  x_NoRule : XA K mg "NoRule" (cA 8) (fA 8)
  x_NoSave : XA K mg "NoSave" (cA 9) (fA 9)
  x_NoSquare : XA K mg "NoSquare" (cA 10) (fA 10)
  x_NotName : XA K mg "NotName" (cA 11) (fA 11)
  x_NotNumber : XA K mg "NotNumber" (cA 12) (fA 12)
  x_NotTruth : XA K mg "NotTruth" (cA 13) (fA 13)
  x_NoWay : XA K mg "NoWay" (cA 14) (fA 14)
  x_Over : XA K mg "Over" (cA 15) (fA 15)
  x_Uncaught : XA K mg "Uncaught" (cA 16) (fA 16)
  x_Uneven : XA K mg "Uneven" (cA 17) (fA 17)
  x_UnlikeTables : XA K mg "UnlikeTables" (cA 18) (fA 18)
  m_HeldError : mg "HeldError" = some (.ref cH)
  f_isinstance : mg "isinstance" = none
  f_ValueError : mg "ValueError" = none
  F : ∀ i, i < 19 → ExcF K (cA i)
  kit : ∀ i j, i < 19 → j < 19 → PySem.W.kitOne K (.ref (cA i)) (.ref (cA j)) = some (decide (j = i))
  kitH : ∀ i, i < 19 → PySem.W.kitOne K (.ref (cA i)) (.ref cH) = some true
  kitV : ∀ i, i < 19 → PySem.W.kitOne K (.ref (cA i)) (.type "ValueError") = some true
def bits (j : Nat) : List V := (List.range 19).map fun i => V.bl (decide (i = j))
def spK (cA : Nat → Addr) : Sp := fun vs H Q _ => ∃ (a : Addr) (j : Nat) (fs : List (Str × V)), vs = [.ref a] ∧ j < 19 ∧ ExAt H a (cA j) fs ∧ ∀ p H', Same H H' → H' p = some (.lst (bits j)) → Q (.ref p) H'
section
variable {P : Program} {w : World} {K : PySem.W.Frag} {mg : Str → Option Value} {base : Heap}
structure TSt (mg : Str → Option Value) : Prop where
  f_list : mg "list" = none
theorem sc_start : FnScope ["_law_script"] ["_law_script"] (defScope s_start) := ⟨rfl, rfl, rfl, by decide +kernel, rfl, by decide +kernel, by decide +kernel⟩
theorem ok_start {f : Addr} {fd : FuncData} (F : FnP K "_law_start" s_start f fd) (T : TSt mg) : FnOk P w K mg base CX0 1 f fd ["_law_script"] (spStart K) := by
  have nd := sc_start.nd
  refine F.ok sc_start (fun vs H Q E h => ?_) (fun cdv A outer s H vs Q E hr h => ?_)
  · obtain ⟨x, ns, rfl, _⟩ := h
    rfl
  · obtain ⟨x, ns, rfl, hx, hns, q⟩ := h
    refine ⟨_, (pss_one (ps_ret (pe_lst (pa_cons (pe_callTy call_list_of rfl T.f_list (by decide +kernel) (pa_cons (pv 0) pa_nil)) (pa_cons pe_int (pa_cons pe_int (pa_cons pe_int pa_nil))))))), ?_⟩
    dsimp only [cxOf]
    refine ⟨_, rfl, x, _, rfl, .inl hx, fun l hl => ⟨by show 4 ≤ sizeLine; rw [sizeLine_eq]; decide, fun p hp => ?_⟩⟩
    have hlp : upd H l (.lst (ns.map V.int)) l = some (.lst (ns.map V.int)) := upd_same
    exact q p l _ ((same_fresh hl).trans (same_fresh hp)) ⟨ns, 0, 0, 0, upd_same, by rw [upd_ne (ne_of_none hlp hp)]; exact hlp, fun z => ne_of_none hlp hp z.symm, hns, by decide, by decide, by decide, by decide, by decide⟩
theorem sc_kinds : FnScope ["_law_e", "_law_found"] ["_law_e"] (defScope s_kinds) := ⟨rfl, rfl, rfl, by decide +kernel, rfl, by decide +kernel, by decide +kernel⟩
theorem ok_kinds {cA fA : Nat → Addr} {cH : Addr} {f : Addr} {fd : FuncData} (F : FnP K "_law_kinds" s_kinds f fd) (T : TXs K mg cA fA cH) : FnOk P w K mg base CX0 1 f fd ["_law_e"] (spK cA) := by
  have nd := sc_kinds.nd
  refine F.ok sc_kinds (fun vs H Q E h => ?_) (fun cdv A outer s H vs Q E hr h => ?_)
  · obtain ⟨a, j, fs, rfl, _⟩ := h
    rfl
  · obtain ⟨a, j, fs, rfl, hj, ea, q⟩ := h
    refine ⟨_, (pss_cons (ps_set (i := 1) nd rfl (Or.inl rfl) (pe_lst (pa_cons (pe_callB call_isX rfl T.f_isinstance (by decide +kernel) (pa_cons (pv 0) (pa_cons (pe_glob (v := .ref _) rfl (T.x_BadPart).m rfl) pa_nil))) (pa_cons (pe_callB call_isX rfl T.f_isinstance (by decide +kernel) (pa_cons (pv 0) (pa_cons (pe_glob (v := .ref _) rfl (T.x_BadPile).m rfl) pa_nil))) (pa_cons (pe_callB call_isX rfl T.f_isinstance (by decide +kernel) (pa_cons (pv 0) (pa_cons (pe_glob (v := .ref _) rfl (T.x_BadText).m rfl) pa_nil))) pa_nil)))))
      (pss_cons (ps_set (i := 1) nd rfl (Or.inl rfl) (pe_op op_cat (pv 1) (pe_lst (pa_cons (pe_callB call_isX rfl T.f_isinstance (by decide +kernel) (pa_cons (pv 0) (pa_cons (pe_glob (v := .ref _) rfl (T.x_BadUse).m rfl) pa_nil))) (pa_cons (pe_callB call_isX rfl T.f_isinstance (by decide +kernel) (pa_cons (pv 0) (pa_cons (pe_glob (v := .ref _) rfl (T.x_BadWish).m rfl) pa_nil))) (pa_cons (pe_callB call_isX rfl T.f_isinstance (by decide +kernel) (pa_cons (pv 0) (pa_cons (pe_glob (v := .ref _) rfl (T.x_NoAnswer).m rfl) pa_nil))) pa_nil))))))
      (pss_cons (ps_set (i := 1) nd rfl (Or.inl rfl) (pe_op op_cat (pv 1) (pe_lst (pa_cons (pe_callB call_isX rfl T.f_isinstance (by decide +kernel) (pa_cons (pv 0) (pa_cons (pe_glob (v := .ref _) rfl (T.x_NoFit).m rfl) pa_nil))) (pa_cons (pe_callB call_isX rfl T.f_isinstance (by decide +kernel) (pa_cons (pv 0) (pa_cons (pe_glob (v := .ref _) rfl (T.x_NoPath).m rfl) pa_nil))) (pa_cons (pe_callB call_isX rfl T.f_isinstance (by decide +kernel) (pa_cons (pv 0) (pa_cons (pe_glob (v := .ref _) rfl (T.x_NoRule).m rfl) pa_nil))) pa_nil))))))
      (pss_cons (ps_set (i := 1) nd rfl (Or.inl rfl) (pe_op op_cat (pv 1) (pe_lst (pa_cons (pe_callB call_isX rfl T.f_isinstance (by decide +kernel) (pa_cons (pv 0) (pa_cons (pe_glob (v := .ref _) rfl (T.x_NoSave).m rfl) pa_nil))) (pa_cons (pe_callB call_isX rfl T.f_isinstance (by decide +kernel) (pa_cons (pv 0) (pa_cons (pe_glob (v := .ref _) rfl (T.x_NoSquare).m rfl) pa_nil))) (pa_cons (pe_callB call_isX rfl T.f_isinstance (by decide +kernel) (pa_cons (pv 0) (pa_cons (pe_glob (v := .ref _) rfl (T.x_NotName).m rfl) pa_nil))) pa_nil))))))
      (pss_cons (ps_set (i := 1) nd rfl (Or.inl rfl) (pe_op op_cat (pv 1) (pe_lst (pa_cons (pe_callB call_isX rfl T.f_isinstance (by decide +kernel) (pa_cons (pv 0) (pa_cons (pe_glob (v := .ref _) rfl (T.x_NotNumber).m rfl) pa_nil))) (pa_cons (pe_callB call_isX rfl T.f_isinstance (by decide +kernel) (pa_cons (pv 0) (pa_cons (pe_glob (v := .ref _) rfl (T.x_NotTruth).m rfl) pa_nil))) (pa_cons (pe_callB call_isX rfl T.f_isinstance (by decide +kernel) (pa_cons (pv 0) (pa_cons (pe_glob (v := .ref _) rfl (T.x_NoWay).m rfl) pa_nil))) pa_nil))))))
      (pss_cons (ps_set (i := 1) nd rfl (Or.inl rfl) (pe_op op_cat (pv 1) (pe_lst (pa_cons (pe_callB call_isX rfl T.f_isinstance (by decide +kernel) (pa_cons (pv 0) (pa_cons (pe_glob (v := .ref _) rfl (T.x_Over).m rfl) pa_nil))) (pa_cons (pe_callB call_isX rfl T.f_isinstance (by decide +kernel) (pa_cons (pv 0) (pa_cons (pe_glob (v := .ref _) rfl (T.x_Uncaught).m rfl) pa_nil))) (pa_cons (pe_callB call_isX rfl T.f_isinstance (by decide +kernel) (pa_cons (pv 0) (pa_cons (pe_glob (v := .ref _) rfl (T.x_Uneven).m rfl) pa_nil))) pa_nil))))))
      (pss_one (ps_ret (pe_op op_cat (pv 1) (pe_lst (pa_cons (pe_callB call_isX rfl T.f_isinstance (by decide +kernel) (pa_cons (pv 0) (pa_cons (pe_glob (v := .ref _) rfl (T.x_UnlikeTables).m rfl) pa_nil))) pa_nil))))))))))), ?_⟩
    dsimp only [cxOf]
    have V1 : ∀ (σ : L2.St) (H2 : Hp) (i : Nat), i < 19 → Same H H2 → σ[0]? = some (some (.ref a)) → Val (tCB (rIsX K) (tCons (tVar 0) (tCons (tC (.ref (cA i))) tNil))) σ H2 (.bl (decide (i = j))) := fun σ H2 i hi s2 h0 =>
      val_isX (val_var h0) (ea.same s2) (T.F j hj) (T.kit j i hj hi)
    refine st_seq (lst_at1 (vala_cons (V1 _ _ 0 (by decide) (Same.refl _) rfl) (vala_cons (V1 _ _ 1 (by decide) (Same.refl _) rfl) (vala_cons (V1 _ _ 2 (by decide) (Same.refl _) rfl) vala_nil))) (by simp) fun p1 H1 s1 e1 => ?_)
    dsimp only [gName]
    refine st_seq (cat_at (val_var rfl) e1 (vala_cons (V1 _ _ 3 (by decide) s1 rfl) (vala_cons (V1 _ _ 4 (by decide) s1 rfl) (vala_cons (V1 _ _ 5 (by decide) s1 rfl) vala_nil))) (by simp) (by simp) fun p2 H2 s2 e2 => ?_)
    have s2 := s1.trans s2
    dsimp only [gName]
    refine st_seq (cat_at (val_var rfl) e2 (vala_cons (V1 _ _ 6 (by decide) s2 rfl) (vala_cons (V1 _ _ 7 (by decide) s2 rfl) (vala_cons (V1 _ _ 8 (by decide) s2 rfl) vala_nil))) (by simp) (by simp) fun p3 H3 s3 e3 => ?_)
    have s3 := s2.trans s3
    dsimp only [gName]
    refine st_seq (cat_at (val_var rfl) e3 (vala_cons (V1 _ _ 9 (by decide) s3 rfl) (vala_cons (V1 _ _ 10 (by decide) s3 rfl) (vala_cons (V1 _ _ 11 (by decide) s3 rfl) vala_nil))) (by simp) (by simp) fun p4 H4 s4 e4 => ?_)
    have s4 := s3.trans s4
    dsimp only [gName]
    refine st_seq (cat_at (val_var rfl) e4 (vala_cons (V1 _ _ 12 (by decide) s4 rfl) (vala_cons (V1 _ _ 13 (by decide) s4 rfl) (vala_cons (V1 _ _ 14 (by decide) s4 rfl) vala_nil))) (by simp) (by simp) fun p5 H5 s5 e5 => ?_)
    have s5 := s4.trans s5
    dsimp only [gName]
    refine st_seq (cat_at (val_var rfl) e5 (vala_cons (V1 _ _ 15 (by decide) s5 rfl) (vala_cons (V1 _ _ 16 (by decide) s5 rfl) (vala_cons (V1 _ _ 17 (by decide) s5 rfl) vala_nil))) (by simp) (by simp) fun p6 H6 s6 e6 => ?_)
    have s6 := s5.trans s6
    dsimp only [gName]
    refine cat_at (val_var rfl) e6 (vala_cons (V1 _ _ 18 (by decide) s6 rfl) vala_nil) (by simp) (by simp) fun p7 H7 s7 e7 => ?_
    exact q p7 H7 (s6.trans s7) e7
end
end HB

set_option Elab.async false
set_option linter.all false
set_option maxRecDepth 100000
set_option maxHeartbeats 4000000
namespace HB
open PySem PySem.Spec PyProof.Rows L2
abbrev s_by_place : Stmt := top 29
abbrev s_by_name : Stmt := top 30
abbrev s_all_errors : Stmt := top 31
/-- two things in the other order -/
def swV {α : Type} : List α → List α
  | [a, b] => [b, a]
  | xs => xs
/-! lists whose things are made one behind the other -/
def Pers (E : Hp → V → Prop) : Prop := ∀ H H' v, Same H H' → E H v → E H' v
def MkA (ta : TA) (σ : L2.St) (H : Hp) (Es : List (Hp → V → Prop)) : Prop := (∀ E ∈ Es, Pers E) ∧ ∀ H1, Same H H1 → ∀ Q : List V → Hp → Prop, (∀ vs H', Same H1 H' → Paired (fun v (E : Hp → V → Prop) => E H' v) vs Es → Q vs H') → ta σ H1 Q
theorem mka_nil {σ : L2.St} {H : Hp} : MkA tNil σ H [] := ⟨fun _ h => (nomatch h), fun H1 s Q q => q [] H1 (Same.refl _) .nil⟩
theorem mka_cons {σ : L2.St} {H : Hp} {te : TE} {ta : TA} {E : Hp → V → Prop} {Es : List (Hp → V → Prop)} (p : Pers E) (h : ∀ H1, Same H H1 → ∀ Q : VK, (∀ v H', Same H1 H' → E H' v → Q v H') → te σ H1 Q) (t : MkA ta σ H Es) : MkA (tCons te ta) σ H (E :: Es) :=
  ⟨fun F hF => by
    rcases List.mem_cons.mp hF with rfl | hF
    · exact p
    · exact t.1 F hF, fun H1 s Q q => h H1 s _ fun v H2 s2 e => t.2 H2 (s.trans s2) _ fun vs H3 s3 r => q (v :: vs) H3 (s2.trans s3) (.cons (p _ _ _ s3 e) r)⟩
theorem MkA.same {σ : L2.St} {H H' : Hp} {ta : TA} {Es : List (Hp → V → Prop)} (s : Same H H') (h : MkA ta σ H Es) : MkA ta σ H' Es := ⟨h.1, fun H1 s1 => h.2 H1 (s.trans s1)⟩
theorem paired_same {H H' : Hp} (s : Same H H') : ∀ {vs : List V} {Es : List (Hp → V → Prop)}, (∀ E ∈ Es, Pers E) → Paired (fun v (E : Hp → V → Prop) => E H v) vs Es → Paired (fun v (E : Hp → V → Prop) => E H' v) vs Es
  | _, _, _, .nil => .nil
  | _, _, h, .cons r t => .cons (h _ (List.mem_cons_self ..) _ _ _ s r) (paired_same s (fun E hE => h E (List.mem_cons_of_mem _ hE)) t)
theorem paired_app {α β : Type} {F : α → β → Prop} : ∀ {xs : List α} {ys : List β} {as : List α} {bs : List β}, Paired F xs ys → Paired F as bs → Paired F (xs ++ as) (ys ++ bs)
  | _, _, _, _, .nil, h => h
  | _, _, _, _, .cons r t, h => .cons r (paired_app t h)
theorem lstA {σ : L2.St} {H : Hp} {ta : TA} {Es : List (Hp → V → Prop)} {Q : VK} (t : MkA ta σ H Es) (hl : Es.length ≤ 1000) (q : ∀ p vs H', Same H H' → H' p = some (.lst vs) → (∀ E ∈ Es, Pers E) ∧ Paired (fun v (E : Hp → V → Prop) => E H' v) vs Es → Q (.ref p) H') : tLst ta σ H Q :=
  t.2 H (Same.refl _) _ fun vs H1 s1 r => ⟨by rw [Paired.length r, sizeLine_eq]; omega, fun p hp => q p vs _ (s1.trans (same_fresh hp)) upd_same ⟨t.1, paired_same (same_fresh hp) t.1 r⟩⟩
theorem catA {σ : L2.St} {H : Hp} {te : TE} {ta : TA} {l : Addr} {xs : List V} {Es Fs : List (Hp → V → Prop)} {Q : VK} (h : Val te σ H (.ref l)) (hl : H l = some (.lst xs)) (hF : (∀ E ∈ Fs, Pers E) ∧ Paired (fun v (E : Hp → V → Prop) => E H v) xs Fs) (t : MkA ta σ H Es) (hx : Fs.length ≤ 1000) (hv : Es.length ≤ 1000)
    (q : ∀ p vs H', Same H H' → H' p = some (.lst vs) → (∀ E ∈ Fs ++ Es, Pers E) ∧ Paired (fun v (E : Hp → V → Prop) => E H' v) vs (Fs ++ Es) → Q (.ref p) H') : tOp rCat te (tLst ta) σ H Q :=
  h _ (t.2 H (Same.refl _) _ fun vs H1 s1 r => ⟨by rw [Paired.length r, sizeLine_eq]; omega, fun b hb => ⟨l, b, xs, vs, rfl, rfl, by rw [upd_ne (ne_of_none (s1 _ _ hl) hb)]; exact s1 _ _ hl, upd_same, by rw [Paired.length r, Paired.length hF.2, sizeLine_eq]; omega, fun p hp =>
    q p (xs ++ vs) _ (s1.trans ((same_fresh hb).trans (same_fresh hp))) upd_same ⟨fun E hE => (List.mem_append.mp hE).elim (hF.1 E) (t.1 E), paired_app (paired_same (s1.trans ((same_fresh hb).trans (same_fresh hp))) hF.1 hF.2) (paired_same ((same_fresh hb).trans (same_fresh hp)) t.1 r)⟩⟩⟩)
theorem Rep.olds {H H0 H' : Hp} {n : Nat} {v : V} {d : D} (r : Rep H' n (New H) v d) (s : Same H0 H) : Rep H' n (New H0) v d := Rep.mono (fun b o pb e => ⟨s.free pb, e⟩) r
theorem new_old {H : Hp} {a b : Addr} {o : HO} (h : (upd H a o) b = none) : H b = none := by
  by_cases hb : b = a
  · rw [hb, upd_same] at h
    cases h
  · rwa [upd_ne hb] at h
section
variable {K : PySem.W.Frag} {C : Addr} {f g : Str} {n : Nat} {σ : L2.St} {H : Hp} {E : XK} {Q : VK} {te tf : TE} {v w : V} {d e : D} {P P' : Addr → Prop}
theorem err1 (hv : Val te σ H v) (hR : Rep H n P v d) (q : ∀ a fs H', Same H H' → ExAt H' a C fs → Q (.ref a) H') : tMkV C (spI1 C f n) E (tCons te tNil) σ H Q :=
  hv _ ⟨by simp, fun a ha => ⟨a, v, d, _, rfl, upd_same, hR.same (same_fresh ha), fun v' H' k ea r => ⟨rfl, q a _ H' (fun b o eb => k b o (ne_of_none eb ha) (by rw [upd_ne (ne_of_none eb ha)]; exact eb)) ea⟩⟩⟩
theorem err0 (q : ∀ a fs H', Same H H' → ExAt H' a C fs → Q (.ref a) H') : tMkV C (spI0 C) E tNil σ H Q :=
  ⟨by decide, fun a ha => ⟨a, rfl, upd_same, fun H' k ea => ⟨rfl, q a _ H' (fun b o eb => k b o (ne_of_none eb ha) (by rw [upd_ne (ne_of_none eb ha)]; exact eb)) ea⟩⟩⟩
theorem err2 (hv : Val te σ H v) (hw : Val tf σ H w) (hR : Rep H n P v d) (hR2 : Rep H n P' w e) (q : ∀ a fs H', Same H H' → ExAt H' a C fs → Q (.ref a) H') : tMkV C (spI2 C f g n) E (tCons te (tCons tf tNil)) σ H Q :=
  hv _ (hw _ ⟨by simp, fun a ha => ⟨a, v, w, d, e, _, But P' a, rfl, upd_same, hR.same (same_fresh ha), rep_new (H' := H) hR2 ha, fun b pb => pb.2, fun v' w' H' k ea r r2 => ⟨rfl, q a _ H' (fun b o eb => k b o (ne_of_none eb ha) (by rw [upd_ne (ne_of_none eb ha)]; exact eb)) ea⟩⟩⟩)
theorem fld1 (F : ExcF K C) (hno : PySem.W.findIn K (.ref C) f = some none) (hv : Val te σ H v) (hR : Rep H n P v d) (q : ∀ v' H', Same H H' → Rep H' n (New H) v' d → Q v' H') : tExF K f (tMkV C (spI1 C f n) E (tCons te tNil)) σ H Q :=
  hv _ ⟨by simp, fun a ha => ⟨a, v, d, _, rfl, upd_same, hR.same (same_fresh ha), fun v' H' k ea r => ⟨rfl, a, C, _, v', rfl, ea, F, hno, by simp [List.lookup], q v' H' (fun b o eb => k b o (ne_of_none eb ha) (by rw [upd_ne (ne_of_none eb ha)]; exact eb)) (Rep.mono (fun b o pb e => ⟨new_old pb, e⟩) r)⟩⟩⟩
theorem fldK1 (F : ExcF K C) (hno : PySem.W.findIn K (.ref C) f = some none) (hv : Val te σ H v) (hR : Rep H n P v d) (q : ∀ v' H', Same H H' → Rep H' n (New H) v' d → Q v' H') : tExF K f (tMkK C (spI1 C f n) E id (tCons te tNil)) σ H Q :=
  hv _ fun a ha => ⟨a, v, d, _, rfl, upd_same, hR.same (same_fresh ha), fun v' H' k ea r => ⟨rfl, a, C, _, v', rfl, ea, F, hno, by simp [List.lookup], q v' H' (fun b o eb => k b o (ne_of_none eb ha) (by rw [upd_ne (ne_of_none eb ha)]; exact eb)) (Rep.mono (fun b o pb e => ⟨new_old pb, e⟩) r)⟩⟩
theorem fld2 (F : ExcF K C) (hno : PySem.W.findIn K (.ref C) f = some none) (hv : Val te σ H v) (hw : Val tf σ H w) (hR : Rep H n P v d) (hR2 : Rep H n P' w e) (q : ∀ v' H', Same H H' → Rep H' n (New H) v' d → Q v' H') (hfg : (f == g) = false := by decide) : tExF K f (tMkV C (spI2 C f g n) E (tCons te (tCons tf tNil))) σ H Q :=
  hv _ (hw _ ⟨by simp, fun a ha => ⟨a, v, w, d, e, _, But P' a, rfl, upd_same, hR.same (same_fresh ha), rep_new (H' := H) hR2 ha, fun b pb => pb.2, fun v' w' H' k ea r r2 => ⟨rfl, a, C, _, v', rfl, ea, F, hno, by simp [List.lookup, hfg], q v' H' (fun b o eb => k b o (ne_of_none eb ha) (by rw [upd_ne (ne_of_none eb ha)]; exact eb)) (Rep.mono (fun b o pb e => ⟨new_old pb, e⟩) r)⟩⟩⟩)
end
def spP : Sp := fun vs H Q _ => ∃ (v w : V) (d e : D) (P P' : Addr → Prop), vs = [v, w] ∧ Rep H 6 P v d ∧ Rep H 6 P' w e ∧ ∀ p us H', Same H H' → H' p = some (.lst us) → us.length ≤ 100 → (∀ u ∈ us, Rep H' 6 (New H) u d) → Q (.ref p) H'
def spN : Sp := fun vs H Q _ => ∃ (v : V) (d : D) (P : Addr → Prop), vs = [v] ∧ Rep H 6 P v d ∧ ∀ p us H', Same H H' → H' p = some (.lst us) → us.length ≤ 100 → (∀ u ∈ us, Rep H' 6 (New H) u d) → Q (.ref p) H'
def IsE (cA : Nat → Addr) (i : Nat) : Hp → V → Prop := fun H v => ∃ a fs, v = .ref a ∧ ExAt H a (cA i) fs
def spE (cA : Nat → Addr) : Sp := fun vs H Q _ => ∃ (v w : V) (d e : D) (P P' : Addr → Prop), vs = [v, w] ∧ Rep H 6 P v d ∧ Rep H 6 P' w e ∧ ∀ p us H', Same H H' → H' p = some (.lst us) → Paired (fun v (i : Nat) => IsE cA i H' v) us (List.range 19) → Q (.ref p) H'
theorem pers_rep {H0 : Hp} {n : Nat} {d : D} : Pers fun H v => Rep H n (New H0) v d := fun H H' v s r => r.same s
theorem pers_exc {cA : Nat → Addr} {i : Nat} : Pers (IsE cA i) := fun H H' v s ⟨a, fs, e, ea⟩ => ⟨a, fs, e, ea.same s⟩
theorem paired_all {E : Hp → V → Prop} {H : Hp} : ∀ {vs : List V} {Es : List (Hp → V → Prop)}, (∀ F ∈ Es, F = E) → Paired (fun v (F : Hp → V → Prop) => F H v) vs Es → ∀ v ∈ vs, E H v
  | _, _, _, .nil, v, hv => nomatch hv
  | _, _, h, .cons r t, v, hv => by
    rcases List.mem_cons.mp hv with rfl | hv
    · rw [← h _ (List.mem_cons_self ..)]
      exact r
    · exact paired_all (fun F hF => h F (List.mem_cons_of_mem _ hF)) t v hv
theorem paired_map {E : Nat → Hp → V → Prop} {H : Hp} : ∀ {vs : List V} {is : List Nat}, Paired (fun v (F : Hp → V → Prop) => F H v) vs (is.map E) → Paired (fun v i => E i H v) vs is
  | [], [], _ => .nil
  | _ :: _, [], h => nomatch h
  | [], _ :: _, h => nomatch h
  | _ :: _, _ :: _, .cons r t => .cons r (paired_map t)
section
variable {P : Program} {w : World} {K : PySem.W.Frag} {mg : Str → Option Value} {base : Heap}
/-- the makers, walked -/
structure TM (P : Program) (w : World) (K : PySem.W.Frag) (mg : Str → Option Value) (base : Heap) (cA fA : Nat → Addr) (fdA : Nat → FuncData) (cH : Addr) : Prop extends TXs K mg cA fA cH where
  G_BadPart : FnOk P w K mg base CX0 8 (fA 0) (fdA 0) ["self", "path"] (spI1 (cA 0) "path" 6)
  b_BadPart : Binds K (fdA 0) ["self", "path"] []
  kb_BadPart : KwB K (fdA 0) ["self", "path"] ["path"] id id
  n_BadPart : PySem.W.findIn K (.ref (cA 0)) "path" = some none
  G_BadPile : FnOk P w K mg base CX0 8 (fA 1) (fdA 1) ["self", "index"] (spI1 (cA 1) "index" 6)
  b_BadPile : Binds K (fdA 1) ["self", "index"] []
  kb_BadPile : KwB K (fdA 1) ["self", "index"] ["index"] id id
  n_BadPile : PySem.W.findIn K (.ref (cA 1)) "index" = some none
  G_BadText : FnOk P w K mg base CX0 8 (fA 2) (fdA 2) ["self", "line"] (spI1 (cA 2) "line" 6)
  b_BadText : Binds K (fdA 2) ["self", "line"] []
  kb_BadText : KwB K (fdA 2) ["self", "line"] ["line"] id id
  n_BadText : PySem.W.findIn K (.ref (cA 2)) "line" = some none
  G_BadUse : FnOk P w K mg base CX0 8 (fA 3) (fdA 3) ["self", "index"] (spI1 (cA 3) "index" 6)
  b_BadUse : Binds K (fdA 3) ["self", "index"] []
  kb_BadUse : KwB K (fdA 3) ["self", "index"] ["index"] id id
  n_BadUse : PySem.W.findIn K (.ref (cA 3)) "index" = some none
  G_BadWish : FnOk P w K mg base CX0 8 (fA 4) (fdA 4) ["self"] (spI0 (cA 4))
  b_BadWish : Binds K (fdA 4) ["self"] []
  G_NoAnswer : FnOk P w K mg base CX0 8 (fA 5) (fdA 5) ["self"] (spI0 (cA 5))
  b_NoAnswer : Binds K (fdA 5) ["self"] []
  G_NoFit : FnOk P w K mg base CX0 8 (fA 6) (fdA 6) ["self", "rule", "path"] (spI2 (cA 6) "rule" "path" 6)
  b_NoFit : Binds K (fdA 6) ["self", "rule", "path"] []
  kb_NoFit : KwB K (fdA 6) ["self", "rule", "path"] ["path", "rule"] swV swV
  n_NoFit : PySem.W.findIn K (.ref (cA 6)) "rule" = some none
  n2_NoFit : PySem.W.findIn K (.ref (cA 6)) "path" = some none
  G_NoPath : FnOk P w K mg base CX0 8 (fA 7) (fdA 7) ["self", "path"] (spI1 (cA 7) "path" 6)
  b_NoPath : Binds K (fdA 7) ["self", "path"] []
  kb_NoPath : KwB K (fdA 7) ["self", "path"] ["path"] id id
  n_NoPath : PySem.W.findIn K (.ref (cA 7)) "path" = some none
  G_NoRule : FnOk P w K mg base CX0 8 (fA 8) (fdA 8) ["self", "rule"] (spI1 (cA 8) "rule" 6)
  b_NoRule : Binds K (fdA 8) ["self", "rule"] []
  kb_NoRule : KwB K (fdA 8) ["self", "rule"] ["rule"] id id
  n_NoRule : PySem.W.findIn K (.ref (cA 8)) "rule" = some none
  G_NoSave : FnOk P w K mg base CX0 8 (fA 9) (fdA 9) ["self", "save"] (spI1 (cA 9) "save" 6)
  b_NoSave : Binds K (fdA 9) ["self", "save"] []
  kb_NoSave : KwB K (fdA 9) ["self", "save"] ["save"] id id
  n_NoSave : PySem.W.findIn K (.ref (cA 9)) "save" = some none
  G_NoSquare : FnOk P w K mg base CX0 8 (fA 10) (fdA 10) ["self", "square"] (spI1 (cA 10) "square" 6)
  b_NoSquare : Binds K (fdA 10) ["self", "square"] []
  kb_NoSquare : KwB K (fdA 10) ["self", "square"] ["square"] id id
  n_NoSquare : PySem.W.findIn K (.ref (cA 10)) "square" = some none
  G_NotName : FnOk P w K mg base CX0 8 (fA 11) (fdA 11) ["self", "key"] (spI1 (cA 11) "key" 6)
  b_NotName : Binds K (fdA 11) ["self", "key"] []
  kb_NotName : KwB K (fdA 11) ["self", "key"] ["key"] id id
  n_NotName : PySem.W.findIn K (.ref (cA 11)) "key" = some none
  G_NotNumber : FnOk P w K mg base CX0 8 (fA 12) (fdA 12) ["self", "value"] (spI1 (cA 12) "value" 6)
  b_NotNumber : Binds K (fdA 12) ["self", "value"] []
  kb_NotNumber : KwB K (fdA 12) ["self", "value"] ["value"] id id
  n_NotNumber : PySem.W.findIn K (.ref (cA 12)) "value" = some none
  G_NotTruth : FnOk P w K mg base CX0 8 (fA 13) (fdA 13) ["self", "value"] (spI1 (cA 13) "value" 6)
  b_NotTruth : Binds K (fdA 13) ["self", "value"] []
  kb_NotTruth : KwB K (fdA 13) ["self", "value"] ["value"] id id
  n_NotTruth : PySem.W.findIn K (.ref (cA 13)) "value" = some none
  G_NoWay : FnOk P w K mg base CX0 8 (fA 14) (fdA 14) ["self", "way"] (spI1 (cA 14) "way" 6)
  b_NoWay : Binds K (fdA 14) ["self", "way"] []
  kb_NoWay : KwB K (fdA 14) ["self", "way"] ["way"] id id
  n_NoWay : PySem.W.findIn K (.ref (cA 14)) "way" = some none
  G_Over : FnOk P w K mg base CX0 8 (fA 15) (fdA 15) ["self"] (spI0 (cA 15))
  b_Over : Binds K (fdA 15) ["self"] []
  G_Uncaught : FnOk P w K mg base CX0 8 (fA 16) (fdA 16) ["self", "word"] (spI1 (cA 16) "word" 6)
  b_Uncaught : Binds K (fdA 16) ["self", "word"] []
  kb_Uncaught : KwB K (fdA 16) ["self", "word"] ["word"] id id
  n_Uncaught : PySem.W.findIn K (.ref (cA 16)) "word" = some none
  G_Uneven : FnOk P w K mg base CX0 8 (fA 17) (fdA 17) ["self", "way"] (spI1 (cA 17) "way" 6)
  b_Uneven : Binds K (fdA 17) ["self", "way"] []
  kb_Uneven : KwB K (fdA 17) ["self", "way"] ["way"] id id
  n_Uneven : PySem.W.findIn K (.ref (cA 17)) "way" = some none
  G_UnlikeTables : FnOk P w K mg base CX0 8 (fA 18) (fdA 18) ["self"] (spI0 (cA 18))
  b_UnlikeTables : Binds K (fdA 18) ["self"] []
theorem sc_by_place : FnScope ["_law_one", "_law_other", "_law_found"] ["_law_one", "_law_other"] (defScope s_by_place) := ⟨rfl, rfl, rfl, by decide +kernel, rfl, by decide +kernel, by decide +kernel⟩
theorem ok_by_place {cA fA : Nat → Addr} {fdA : Nat → FuncData} {cH : Addr} {f : Addr} {fd : FuncData} (F : FnP K "_law_by_place" s_by_place f fd) (T : TM P w K mg base cA fA fdA cH) : FnOk P w K mg base CX0 10 f fd ["_law_one", "_law_other"] spP := by
  have nd := sc_by_place.nd
  refine F.ok sc_by_place (fun vs H Q E h => ?_) (fun cdv A outer s H vs Q E hr h => ?_)
  · obtain ⟨v, w, d, e, P, P', rfl, _⟩ := h
    rfl
  · obtain ⟨v, w, d, e, P, P', rfl, hR, hR2, q⟩ := h
    have hr2 : Room 9 _ := hr
    have q : ∀ p us H', Same H H' → H' p = some (.lst us) → (∀ E ∈ List.replicate 15 (fun (H' : Hp) v => Rep H' 6 (New H) v d), Pers E) ∧ Paired (fun v (E : Hp → V → Prop) => E H' v) us (List.replicate 15 (fun (H' : Hp) v => Rep H' 6 (New H) v d)) → Q (.ref p) H' := fun p us H' s e r =>
      q p us H' s e (by rw [Paired.length r.2]; simp) (paired_all (fun F hF => List.eq_of_mem_replicate hF) r.2)
    have hs := Same.refl H
    refine ⟨_, (pss_cons (ps_set (i := 2) nd rfl (Or.inl rfl) (pe_lst (pa_cons (pe_exf (pe_exc (T.x_BadPart).Z.T (T.x_BadPart).iC (T.x_BadPart).tI T.G_BadPart hr2 T.b_BadPart pass0 rfl (T.x_BadPart).m (pa_cons (pv 0) pa_nil))) (pa_cons (pe_exf (pe_exc (T.x_BadPile).Z.T (T.x_BadPile).iC (T.x_BadPile).tI T.G_BadPile hr2 T.b_BadPile pass0 rfl (T.x_BadPile).m (pa_cons (pv 0) pa_nil))) (pa_cons (pe_exf (pe_exc (T.x_BadText).Z.T (T.x_BadText).iC (T.x_BadText).tI T.G_BadText hr2 T.b_BadText pass0 rfl (T.x_BadText).m (pa_cons (pv 0) pa_nil))) pa_nil)))))
      (pss_cons (ps_set (i := 2) nd rfl (Or.inl rfl) (pe_op op_cat (pv 2) (pe_lst (pa_cons (pe_exf (pe_exc (T.x_BadUse).Z.T (T.x_BadUse).iC (T.x_BadUse).tI T.G_BadUse hr2 T.b_BadUse pass0 rfl (T.x_BadUse).m (pa_cons (pv 0) pa_nil))) (pa_cons (pe_exf (pe_exc (T.x_NoPath).Z.T (T.x_NoPath).iC (T.x_NoPath).tI T.G_NoPath hr2 T.b_NoPath pass0 rfl (T.x_NoPath).m (pa_cons (pv 0) pa_nil))) (pa_cons (pe_exf (pe_exc (T.x_NoRule).Z.T (T.x_NoRule).iC (T.x_NoRule).tI T.G_NoRule hr2 T.b_NoRule pass0 rfl (T.x_NoRule).m (pa_cons (pv 0) pa_nil))) pa_nil))))))
      (pss_cons (ps_set (i := 2) nd rfl (Or.inl rfl) (pe_op op_cat (pv 2) (pe_lst (pa_cons (pe_exf (pe_exc (T.x_NoSave).Z.T (T.x_NoSave).iC (T.x_NoSave).tI T.G_NoSave hr2 T.b_NoSave pass0 rfl (T.x_NoSave).m (pa_cons (pv 0) pa_nil))) (pa_cons (pe_exf (pe_exc (T.x_NoSquare).Z.T (T.x_NoSquare).iC (T.x_NoSquare).tI T.G_NoSquare hr2 T.b_NoSquare pass0 rfl (T.x_NoSquare).m (pa_cons (pv 0) pa_nil))) (pa_cons (pe_exf (pe_exc (T.x_NotName).Z.T (T.x_NotName).iC (T.x_NotName).tI T.G_NotName hr2 T.b_NotName pass0 rfl (T.x_NotName).m (pa_cons (pv 0) pa_nil))) pa_nil))))))
      (pss_cons (ps_set (i := 2) nd rfl (Or.inl rfl) (pe_op op_cat (pv 2) (pe_lst (pa_cons (pe_exf (pe_exc (T.x_NotNumber).Z.T (T.x_NotNumber).iC (T.x_NotNumber).tI T.G_NotNumber hr2 T.b_NotNumber pass0 rfl (T.x_NotNumber).m (pa_cons (pv 0) pa_nil))) (pa_cons (pe_exf (pe_exc (T.x_NotTruth).Z.T (T.x_NotTruth).iC (T.x_NotTruth).tI T.G_NotTruth hr2 T.b_NotTruth pass0 rfl (T.x_NotTruth).m (pa_cons (pv 0) pa_nil))) (pa_cons (pe_exf (pe_exc (T.x_NoWay).Z.T (T.x_NoWay).iC (T.x_NoWay).tI T.G_NoWay hr2 T.b_NoWay pass0 rfl (T.x_NoWay).m (pa_cons (pv 0) pa_nil))) pa_nil))))))
      (pss_one (ps_ret (pe_op op_cat (pv 2) (pe_lst (pa_cons (pe_exf (pe_exc (T.x_Uncaught).Z.T (T.x_Uncaught).iC (T.x_Uncaught).tI T.G_Uncaught hr2 T.b_Uncaught pass0 rfl (T.x_Uncaught).m (pa_cons (pv 0) pa_nil))) (pa_cons (pe_exf (pe_exc (T.x_Uneven).Z.T (T.x_Uneven).iC (T.x_Uneven).tI T.G_Uneven hr2 T.b_Uneven pass0 rfl (T.x_Uneven).m (pa_cons (pv 0) pa_nil))) (pa_cons (pe_exf (pe_exc (T.x_NoFit).Z.T (T.x_NoFit).iC (T.x_NoFit).tI T.G_NoFit hr2 T.b_NoFit pass0 rfl (T.x_NoFit).m (pa_cons (pv 0) (pa_cons (pv 1) pa_nil)))) pa_nil))))))))))), ?_⟩
    try dsimp only [cxOf]
    refine st_seq (lstA (mka_cons pers_rep (fun H1 s1 Q q => fld1 T.x_BadPart.F T.n_BadPart (val_var rfl) (hR.same s1) fun v' H' s2 r2 => q v' H' s2 (r2.olds (hs.trans s1))) (mka_cons pers_rep (fun H1 s1 Q q => fld1 T.x_BadPile.F T.n_BadPile (val_var rfl) (hR.same s1) fun v' H' s2 r2 => q v' H' s2 (r2.olds (hs.trans s1))) (mka_cons pers_rep (fun H1 s1 Q q => fld1 T.x_BadText.F T.n_BadText (val_var rfl) (hR.same s1) fun v' H' s2 r2 => q v' H' s2 (r2.olds (hs.trans s1))) mka_nil))) (by simp) fun p0 vs0 H0 s0 e0 r0 => ?_)
    dsimp only [gName]
    refine st_seq (catA (val_var rfl) e0 r0 (MkA.same s0 (mka_cons pers_rep (fun H1 s1 Q q => fld1 T.x_BadUse.F T.n_BadUse (val_var rfl) (hR.same s1) fun v' H' s2 r2 => q v' H' s2 (r2.olds (hs.trans s1))) (mka_cons pers_rep (fun H1 s1 Q q => fld1 T.x_NoPath.F T.n_NoPath (val_var rfl) (hR.same s1) fun v' H' s2 r2 => q v' H' s2 (r2.olds (hs.trans s1))) (mka_cons pers_rep (fun H1 s1 Q q => fld1 T.x_NoRule.F T.n_NoRule (val_var rfl) (hR.same s1) fun v' H' s2 r2 => q v' H' s2 (r2.olds (hs.trans s1))) mka_nil)))) (by simp) (by simp) fun p1 vs1 H1 s1 e1 r1 => ?_)
    have s1 := s0.trans s1
    dsimp only [gName]
    refine st_seq (catA (val_var rfl) e1 r1 (MkA.same s1 (mka_cons pers_rep (fun H1 s1 Q q => fld1 T.x_NoSave.F T.n_NoSave (val_var rfl) (hR.same s1) fun v' H' s2 r2 => q v' H' s2 (r2.olds (hs.trans s1))) (mka_cons pers_rep (fun H1 s1 Q q => fld1 T.x_NoSquare.F T.n_NoSquare (val_var rfl) (hR.same s1) fun v' H' s2 r2 => q v' H' s2 (r2.olds (hs.trans s1))) (mka_cons pers_rep (fun H1 s1 Q q => fld1 T.x_NotName.F T.n_NotName (val_var rfl) (hR.same s1) fun v' H' s2 r2 => q v' H' s2 (r2.olds (hs.trans s1))) mka_nil)))) (by simp) (by simp) fun p2 vs2 H2 s2 e2 r2 => ?_)
    have s2 := s1.trans s2
    dsimp only [gName]
    refine st_seq (catA (val_var rfl) e2 r2 (MkA.same s2 (mka_cons pers_rep (fun H1 s1 Q q => fld1 T.x_NotNumber.F T.n_NotNumber (val_var rfl) (hR.same s1) fun v' H' s2 r2 => q v' H' s2 (r2.olds (hs.trans s1))) (mka_cons pers_rep (fun H1 s1 Q q => fld1 T.x_NotTruth.F T.n_NotTruth (val_var rfl) (hR.same s1) fun v' H' s2 r2 => q v' H' s2 (r2.olds (hs.trans s1))) (mka_cons pers_rep (fun H1 s1 Q q => fld1 T.x_NoWay.F T.n_NoWay (val_var rfl) (hR.same s1) fun v' H' s2 r2 => q v' H' s2 (r2.olds (hs.trans s1))) mka_nil)))) (by simp) (by simp) fun p3 vs3 H3 s3 e3 r3 => ?_)
    have s3 := s2.trans s3
    dsimp only [gName]
    refine catA (val_var rfl) e3 r3 (MkA.same s3 (mka_cons pers_rep (fun H1 s1 Q q => fld1 T.x_Uncaught.F T.n_Uncaught (val_var rfl) (hR.same s1) fun v' H' s2 r2 => q v' H' s2 (r2.olds (hs.trans s1))) (mka_cons pers_rep (fun H1 s1 Q q => fld1 T.x_Uneven.F T.n_Uneven (val_var rfl) (hR.same s1) fun v' H' s2 r2 => q v' H' s2 (r2.olds (hs.trans s1))) (mka_cons pers_rep (fun H1 s1 Q q => fld2 T.x_NoFit.F T.n_NoFit (val_var rfl) (val_var rfl) (hR.same s1) (hR2.same s1) fun v' H' s2 r2 => q v' H' s2 (r2.olds (hs.trans s1))) mka_nil)))) (by simp) (by simp) fun p4 vs4 H4 s4 e4 r4 => ?_
    exact q p4 vs4 H4 (s3.trans s4) e4 r4
theorem sc_by_name : FnScope ["_law_one", "_law_found"] ["_law_one"] (defScope s_by_name) := ⟨rfl, rfl, rfl, by decide +kernel, rfl, by decide +kernel, by decide +kernel⟩
theorem ok_by_name {cA fA : Nat → Addr} {fdA : Nat → FuncData} {cH : Addr} {f : Addr} {fd : FuncData} (F : FnP K "_law_by_name" s_by_name f fd) (T : TM P w K mg base cA fA fdA cH) : FnOk P w K mg base CX0 10 f fd ["_law_one"] spN := by
  have nd := sc_by_name.nd
  refine F.ok sc_by_name (fun vs H Q E h => ?_) (fun cdv A outer s H vs Q E hr h => ?_)
  · obtain ⟨v, d, P, rfl, _⟩ := h
    rfl
  · obtain ⟨v, d, P, rfl, hR, q⟩ := h
    have hr2 : Room 9 _ := hr
    have q : ∀ p us H', Same H H' → H' p = some (.lst us) → (∀ E ∈ List.replicate 14 (fun (H' : Hp) v => Rep H' 6 (New H) v d), Pers E) ∧ Paired (fun v (E : Hp → V → Prop) => E H' v) us (List.replicate 14 (fun (H' : Hp) v => Rep H' 6 (New H) v d)) → Q (.ref p) H' := fun p us H' s e r =>
      q p us H' s e (by rw [Paired.length r.2]; simp) (paired_all (fun F hF => List.eq_of_mem_replicate hF) r.2)
    have hs := Same.refl H
    refine ⟨_, (pss_cons (ps_set (i := 1) nd rfl (Or.inl rfl) (pe_lst (pa_cons (pe_exf (pe_excK (T.x_BadPart).Z.T (T.x_BadPart).iC (T.x_BadPart).tI T.G_BadPart hr2 T.kb_BadPart pass0 rfl (T.x_BadPart).m (pk_cons (pv 0) pk_nil))) (pa_cons (pe_exf (pe_excK (T.x_BadPile).Z.T (T.x_BadPile).iC (T.x_BadPile).tI T.G_BadPile hr2 T.kb_BadPile pass0 rfl (T.x_BadPile).m (pk_cons (pv 0) pk_nil))) (pa_cons (pe_exf (pe_excK (T.x_BadText).Z.T (T.x_BadText).iC (T.x_BadText).tI T.G_BadText hr2 T.kb_BadText pass0 rfl (T.x_BadText).m (pk_cons (pv 0) pk_nil))) pa_nil)))))
      (pss_cons (ps_set (i := 1) nd rfl (Or.inl rfl) (pe_op op_cat (pv 1) (pe_lst (pa_cons (pe_exf (pe_excK (T.x_BadUse).Z.T (T.x_BadUse).iC (T.x_BadUse).tI T.G_BadUse hr2 T.kb_BadUse pass0 rfl (T.x_BadUse).m (pk_cons (pv 0) pk_nil))) (pa_cons (pe_exf (pe_excK (T.x_NoPath).Z.T (T.x_NoPath).iC (T.x_NoPath).tI T.G_NoPath hr2 T.kb_NoPath pass0 rfl (T.x_NoPath).m (pk_cons (pv 0) pk_nil))) pa_nil)))))
      (pss_cons (ps_set (i := 1) nd rfl (Or.inl rfl) (pe_op op_cat (pv 1) (pe_lst (pa_cons (pe_exf (pe_excK (T.x_NoRule).Z.T (T.x_NoRule).iC (T.x_NoRule).tI T.G_NoRule hr2 T.kb_NoRule pass0 rfl (T.x_NoRule).m (pk_cons (pv 0) pk_nil))) (pa_cons (pe_exf (pe_excK (T.x_NoSave).Z.T (T.x_NoSave).iC (T.x_NoSave).tI T.G_NoSave hr2 T.kb_NoSave pass0 rfl (T.x_NoSave).m (pk_cons (pv 0) pk_nil))) pa_nil)))))
      (pss_cons (ps_set (i := 1) nd rfl (Or.inl rfl) (pe_op op_cat (pv 1) (pe_lst (pa_cons (pe_exf (pe_excK (T.x_NoSquare).Z.T (T.x_NoSquare).iC (T.x_NoSquare).tI T.G_NoSquare hr2 T.kb_NoSquare pass0 rfl (T.x_NoSquare).m (pk_cons (pv 0) pk_nil))) (pa_cons (pe_exf (pe_excK (T.x_NotName).Z.T (T.x_NotName).iC (T.x_NotName).tI T.G_NotName hr2 T.kb_NotName pass0 rfl (T.x_NotName).m (pk_cons (pv 0) pk_nil))) pa_nil)))))
      (pss_cons (ps_set (i := 1) nd rfl (Or.inl rfl) (pe_op op_cat (pv 1) (pe_lst (pa_cons (pe_exf (pe_excK (T.x_NotNumber).Z.T (T.x_NotNumber).iC (T.x_NotNumber).tI T.G_NotNumber hr2 T.kb_NotNumber pass0 rfl (T.x_NotNumber).m (pk_cons (pv 0) pk_nil))) (pa_cons (pe_exf (pe_excK (T.x_NotTruth).Z.T (T.x_NotTruth).iC (T.x_NotTruth).tI T.G_NotTruth hr2 T.kb_NotTruth pass0 rfl (T.x_NotTruth).m (pk_cons (pv 0) pk_nil))) pa_nil)))))
      (pss_one (ps_ret (pe_op op_cat (pv 1) (pe_lst (pa_cons (pe_exf (pe_excK (T.x_NoWay).Z.T (T.x_NoWay).iC (T.x_NoWay).tI T.G_NoWay hr2 T.kb_NoWay pass0 rfl (T.x_NoWay).m (pk_cons (pv 0) pk_nil))) (pa_cons (pe_exf (pe_excK (T.x_Uncaught).Z.T (T.x_Uncaught).iC (T.x_Uncaught).tI T.G_Uncaught hr2 T.kb_Uncaught pass0 rfl (T.x_Uncaught).m (pk_cons (pv 0) pk_nil))) (pa_cons (pe_exf (pe_excK (T.x_Uneven).Z.T (T.x_Uneven).iC (T.x_Uneven).tI T.G_Uneven hr2 T.kb_Uneven pass0 rfl (T.x_Uneven).m (pk_cons (pv 0) pk_nil))) pa_nil)))))))))))), ?_⟩
    try dsimp only [cxOf]
    refine st_seq (lstA (mka_cons pers_rep (fun H1 s1 Q q => fldK1 T.x_BadPart.F T.n_BadPart (val_var rfl) (hR.same s1) fun v' H' s2 r2 => q v' H' s2 (r2.olds (hs.trans s1))) (mka_cons pers_rep (fun H1 s1 Q q => fldK1 T.x_BadPile.F T.n_BadPile (val_var rfl) (hR.same s1) fun v' H' s2 r2 => q v' H' s2 (r2.olds (hs.trans s1))) (mka_cons pers_rep (fun H1 s1 Q q => fldK1 T.x_BadText.F T.n_BadText (val_var rfl) (hR.same s1) fun v' H' s2 r2 => q v' H' s2 (r2.olds (hs.trans s1))) mka_nil))) (by simp) fun p0 vs0 H0 s0 e0 r0 => ?_)
    dsimp only [gName]
    refine st_seq (catA (val_var rfl) e0 r0 (MkA.same s0 (mka_cons pers_rep (fun H1 s1 Q q => fldK1 T.x_BadUse.F T.n_BadUse (val_var rfl) (hR.same s1) fun v' H' s2 r2 => q v' H' s2 (r2.olds (hs.trans s1))) (mka_cons pers_rep (fun H1 s1 Q q => fldK1 T.x_NoPath.F T.n_NoPath (val_var rfl) (hR.same s1) fun v' H' s2 r2 => q v' H' s2 (r2.olds (hs.trans s1))) mka_nil))) (by simp) (by simp) fun p1 vs1 H1 s1 e1 r1 => ?_)
    have s1 := s0.trans s1
    dsimp only [gName]
    refine st_seq (catA (val_var rfl) e1 r1 (MkA.same s1 (mka_cons pers_rep (fun H1 s1 Q q => fldK1 T.x_NoRule.F T.n_NoRule (val_var rfl) (hR.same s1) fun v' H' s2 r2 => q v' H' s2 (r2.olds (hs.trans s1))) (mka_cons pers_rep (fun H1 s1 Q q => fldK1 T.x_NoSave.F T.n_NoSave (val_var rfl) (hR.same s1) fun v' H' s2 r2 => q v' H' s2 (r2.olds (hs.trans s1))) mka_nil))) (by simp) (by simp) fun p2 vs2 H2 s2 e2 r2 => ?_)
    have s2 := s1.trans s2
    dsimp only [gName]
    refine st_seq (catA (val_var rfl) e2 r2 (MkA.same s2 (mka_cons pers_rep (fun H1 s1 Q q => fldK1 T.x_NoSquare.F T.n_NoSquare (val_var rfl) (hR.same s1) fun v' H' s2 r2 => q v' H' s2 (r2.olds (hs.trans s1))) (mka_cons pers_rep (fun H1 s1 Q q => fldK1 T.x_NotName.F T.n_NotName (val_var rfl) (hR.same s1) fun v' H' s2 r2 => q v' H' s2 (r2.olds (hs.trans s1))) mka_nil))) (by simp) (by simp) fun p3 vs3 H3 s3 e3 r3 => ?_)
    have s3 := s2.trans s3
    dsimp only [gName]
    refine st_seq (catA (val_var rfl) e3 r3 (MkA.same s3 (mka_cons pers_rep (fun H1 s1 Q q => fldK1 T.x_NotNumber.F T.n_NotNumber (val_var rfl) (hR.same s1) fun v' H' s2 r2 => q v' H' s2 (r2.olds (hs.trans s1))) (mka_cons pers_rep (fun H1 s1 Q q => fldK1 T.x_NotTruth.F T.n_NotTruth (val_var rfl) (hR.same s1) fun v' H' s2 r2 => q v' H' s2 (r2.olds (hs.trans s1))) mka_nil))) (by simp) (by simp) fun p4 vs4 H4 s4 e4 r4 => ?_)
    have s4 := s3.trans s4
    dsimp only [gName]
    refine catA (val_var rfl) e4 r4 (MkA.same s4 (mka_cons pers_rep (fun H1 s1 Q q => fldK1 T.x_NoWay.F T.n_NoWay (val_var rfl) (hR.same s1) fun v' H' s2 r2 => q v' H' s2 (r2.olds (hs.trans s1))) (mka_cons pers_rep (fun H1 s1 Q q => fldK1 T.x_Uncaught.F T.n_Uncaught (val_var rfl) (hR.same s1) fun v' H' s2 r2 => q v' H' s2 (r2.olds (hs.trans s1))) (mka_cons pers_rep (fun H1 s1 Q q => fldK1 T.x_Uneven.F T.n_Uneven (val_var rfl) (hR.same s1) fun v' H' s2 r2 => q v' H' s2 (r2.olds (hs.trans s1))) mka_nil)))) (by simp) (by simp) fun p5 vs5 H5 s5 e5 r5 => ?_
    exact q p5 vs5 H5 (s4.trans s5) e5 r5
theorem sc_all_errors : FnScope ["_law_one", "_law_other", "_law_found"] ["_law_one", "_law_other"] (defScope s_all_errors) := ⟨rfl, rfl, rfl, by decide +kernel, rfl, by decide +kernel, by decide +kernel⟩
theorem ok_all_errors {cA fA : Nat → Addr} {fdA : Nat → FuncData} {cH : Addr} {f : Addr} {fd : FuncData} (F : FnP K "_law_all_errors" s_all_errors f fd) (T : TM P w K mg base cA fA fdA cH) : FnOk P w K mg base CX0 10 f fd ["_law_one", "_law_other"] (spE cA) := by
  have nd := sc_all_errors.nd
  refine F.ok sc_all_errors (fun vs H Q E h => ?_) (fun cdv A outer s H vs Q E hr h => ?_)
  · obtain ⟨v, w, d, e, P, P', rfl, _⟩ := h
    rfl
  · obtain ⟨v, w, d, e, P, P', rfl, hR, hR2, q⟩ := h
    have hr2 : Room 9 _ := hr
    have q : ∀ p us H', Same H H' → H' p = some (.lst us) → (∀ E ∈ (List.range 19).map (IsE cA), Pers E) ∧ Paired (fun v (E : Hp → V → Prop) => E H' v) us ((List.range 19).map (IsE cA)) → Q (.ref p) H' := fun p us H' s e r =>
      q p us H' s e (paired_map r.2)
    refine ⟨_, (pss_cons (ps_set (i := 2) nd rfl (Or.inl rfl) (pe_lst (pa_cons (pe_exc (T.x_BadPart).Z.T (T.x_BadPart).iC (T.x_BadPart).tI T.G_BadPart hr2 T.b_BadPart pass0 rfl (T.x_BadPart).m (pa_cons (pv 0) pa_nil)) (pa_cons (pe_exc (T.x_BadPile).Z.T (T.x_BadPile).iC (T.x_BadPile).tI T.G_BadPile hr2 T.b_BadPile pass0 rfl (T.x_BadPile).m (pa_cons (pv 0) pa_nil)) (pa_cons (pe_exc (T.x_BadText).Z.T (T.x_BadText).iC (T.x_BadText).tI T.G_BadText hr2 T.b_BadText pass0 rfl (T.x_BadText).m (pa_cons (pv 0) pa_nil)) (pa_cons (pe_exc (T.x_BadUse).Z.T (T.x_BadUse).iC (T.x_BadUse).tI T.G_BadUse hr2 T.b_BadUse pass0 rfl (T.x_BadUse).m (pa_cons (pv 0) pa_nil)) (pa_cons (pe_exc0 (T.x_BadWish).Z.T (T.x_BadWish).iC (T.x_BadWish).tI T.G_BadWish hr2 T.b_BadWish pass0 rfl (T.x_BadWish).m) pa_nil)))))))
      (pss_cons (ps_set (i := 2) nd rfl (Or.inl rfl) (pe_op op_cat (pv 2) (pe_lst (pa_cons (pe_exc0 (T.x_NoAnswer).Z.T (T.x_NoAnswer).iC (T.x_NoAnswer).tI T.G_NoAnswer hr2 T.b_NoAnswer pass0 rfl (T.x_NoAnswer).m) (pa_cons (pe_exc (T.x_NoFit).Z.T (T.x_NoFit).iC (T.x_NoFit).tI T.G_NoFit hr2 T.b_NoFit pass0 rfl (T.x_NoFit).m (pa_cons (pv 0) (pa_cons (pv 1) pa_nil))) (pa_cons (pe_exc (T.x_NoPath).Z.T (T.x_NoPath).iC (T.x_NoPath).tI T.G_NoPath hr2 T.b_NoPath pass0 rfl (T.x_NoPath).m (pa_cons (pv 0) pa_nil)) (pa_cons (pe_exc (T.x_NoRule).Z.T (T.x_NoRule).iC (T.x_NoRule).tI T.G_NoRule hr2 T.b_NoRule pass0 rfl (T.x_NoRule).m (pa_cons (pv 0) pa_nil)) pa_nil)))))))
      (pss_cons (ps_set (i := 2) nd rfl (Or.inl rfl) (pe_op op_cat (pv 2) (pe_lst (pa_cons (pe_exc (T.x_NoSave).Z.T (T.x_NoSave).iC (T.x_NoSave).tI T.G_NoSave hr2 T.b_NoSave pass0 rfl (T.x_NoSave).m (pa_cons (pv 0) pa_nil)) (pa_cons (pe_exc (T.x_NoSquare).Z.T (T.x_NoSquare).iC (T.x_NoSquare).tI T.G_NoSquare hr2 T.b_NoSquare pass0 rfl (T.x_NoSquare).m (pa_cons (pv 0) pa_nil)) (pa_cons (pe_exc (T.x_NotName).Z.T (T.x_NotName).iC (T.x_NotName).tI T.G_NotName hr2 T.b_NotName pass0 rfl (T.x_NotName).m (pa_cons (pv 0) pa_nil)) (pa_cons (pe_exc (T.x_NotNumber).Z.T (T.x_NotNumber).iC (T.x_NotNumber).tI T.G_NotNumber hr2 T.b_NotNumber pass0 rfl (T.x_NotNumber).m (pa_cons (pv 0) pa_nil)) pa_nil)))))))
      (pss_cons (ps_set (i := 2) nd rfl (Or.inl rfl) (pe_op op_cat (pv 2) (pe_lst (pa_cons (pe_exc (T.x_NotTruth).Z.T (T.x_NotTruth).iC (T.x_NotTruth).tI T.G_NotTruth hr2 T.b_NotTruth pass0 rfl (T.x_NotTruth).m (pa_cons (pv 0) pa_nil)) (pa_cons (pe_exc (T.x_NoWay).Z.T (T.x_NoWay).iC (T.x_NoWay).tI T.G_NoWay hr2 T.b_NoWay pass0 rfl (T.x_NoWay).m (pa_cons (pv 0) pa_nil)) (pa_cons (pe_exc0 (T.x_Over).Z.T (T.x_Over).iC (T.x_Over).tI T.G_Over hr2 T.b_Over pass0 rfl (T.x_Over).m) (pa_cons (pe_exc (T.x_Uncaught).Z.T (T.x_Uncaught).iC (T.x_Uncaught).tI T.G_Uncaught hr2 T.b_Uncaught pass0 rfl (T.x_Uncaught).m (pa_cons (pv 0) pa_nil)) (pa_cons (pe_exc (T.x_Uneven).Z.T (T.x_Uneven).iC (T.x_Uneven).tI T.G_Uneven hr2 T.b_Uneven pass0 rfl (T.x_Uneven).m (pa_cons (pv 0) pa_nil)) pa_nil))))))))
      (pss_one (ps_ret (pe_op op_cat (pv 2) (pe_lst (pa_cons (pe_exc0 (T.x_UnlikeTables).Z.T (T.x_UnlikeTables).iC (T.x_UnlikeTables).tI T.G_UnlikeTables hr2 T.b_UnlikeTables pass0 rfl (T.x_UnlikeTables).m) pa_nil))))))))), ?_⟩
    try dsimp only [cxOf]
    refine st_seq (lstA (mka_cons pers_exc (fun H1 s1 Q q => err1 (val_var rfl) (hR.same s1) (fun a fs H' s2 ea => q _ H' s2 ⟨a, fs, rfl, ea⟩)) (mka_cons pers_exc (fun H1 s1 Q q => err1 (val_var rfl) (hR.same s1) (fun a fs H' s2 ea => q _ H' s2 ⟨a, fs, rfl, ea⟩)) (mka_cons pers_exc (fun H1 s1 Q q => err1 (val_var rfl) (hR.same s1) (fun a fs H' s2 ea => q _ H' s2 ⟨a, fs, rfl, ea⟩)) (mka_cons pers_exc (fun H1 s1 Q q => err1 (val_var rfl) (hR.same s1) (fun a fs H' s2 ea => q _ H' s2 ⟨a, fs, rfl, ea⟩)) (mka_cons pers_exc (fun H1 s1 Q q => err0 (fun a fs H' s2 ea => q _ H' s2 ⟨a, fs, rfl, ea⟩)) mka_nil))))) (by simp) fun p0 vs0 H0 s0 e0 r0 => ?_)
    dsimp only [gName]
    refine st_seq (catA (val_var rfl) e0 r0 (MkA.same s0 (mka_cons pers_exc (fun H1 s1 Q q => err0 (fun a fs H' s2 ea => q _ H' s2 ⟨a, fs, rfl, ea⟩)) (mka_cons pers_exc (fun H1 s1 Q q => err2 (val_var rfl) (val_var rfl) (hR.same s1) (hR2.same s1) (fun a fs H' s2 ea => q _ H' s2 ⟨a, fs, rfl, ea⟩)) (mka_cons pers_exc (fun H1 s1 Q q => err1 (val_var rfl) (hR.same s1) (fun a fs H' s2 ea => q _ H' s2 ⟨a, fs, rfl, ea⟩)) (mka_cons pers_exc (fun H1 s1 Q q => err1 (val_var rfl) (hR.same s1) (fun a fs H' s2 ea => q _ H' s2 ⟨a, fs, rfl, ea⟩)) mka_nil))))) (by simp) (by simp) fun p1 vs1 H1 s1 e1 r1 => ?_)
    have s1 := s0.trans s1
    dsimp only [gName]
    refine st_seq (catA (val_var rfl) e1 r1 (MkA.same s1 (mka_cons pers_exc (fun H1 s1 Q q => err1 (val_var rfl) (hR.same s1) (fun a fs H' s2 ea => q _ H' s2 ⟨a, fs, rfl, ea⟩)) (mka_cons pers_exc (fun H1 s1 Q q => err1 (val_var rfl) (hR.same s1) (fun a fs H' s2 ea => q _ H' s2 ⟨a, fs, rfl, ea⟩)) (mka_cons pers_exc (fun H1 s1 Q q => err1 (val_var rfl) (hR.same s1) (fun a fs H' s2 ea => q _ H' s2 ⟨a, fs, rfl, ea⟩)) (mka_cons pers_exc (fun H1 s1 Q q => err1 (val_var rfl) (hR.same s1) (fun a fs H' s2 ea => q _ H' s2 ⟨a, fs, rfl, ea⟩)) mka_nil))))) (by simp) (by simp) fun p2 vs2 H2 s2 e2 r2 => ?_)
    have s2 := s1.trans s2
    dsimp only [gName]
    refine st_seq (catA (val_var rfl) e2 r2 (MkA.same s2 (mka_cons pers_exc (fun H1 s1 Q q => err1 (val_var rfl) (hR.same s1) (fun a fs H' s2 ea => q _ H' s2 ⟨a, fs, rfl, ea⟩)) (mka_cons pers_exc (fun H1 s1 Q q => err1 (val_var rfl) (hR.same s1) (fun a fs H' s2 ea => q _ H' s2 ⟨a, fs, rfl, ea⟩)) (mka_cons pers_exc (fun H1 s1 Q q => err0 (fun a fs H' s2 ea => q _ H' s2 ⟨a, fs, rfl, ea⟩)) (mka_cons pers_exc (fun H1 s1 Q q => err1 (val_var rfl) (hR.same s1) (fun a fs H' s2 ea => q _ H' s2 ⟨a, fs, rfl, ea⟩)) (mka_cons pers_exc (fun H1 s1 Q q => err1 (val_var rfl) (hR.same s1) (fun a fs H' s2 ea => q _ H' s2 ⟨a, fs, rfl, ea⟩)) mka_nil)))))) (by simp) (by simp) fun p3 vs3 H3 s3 e3 r3 => ?_)
    have s3 := s2.trans s3
    dsimp only [gName]
    refine catA (val_var rfl) e3 r3 (MkA.same s3 (mka_cons pers_exc (fun H1 s1 Q q => err0 (fun a fs H' s2 ea => q _ H' s2 ⟨a, fs, rfl, ea⟩)) mka_nil)) (by simp) (by simp) fun p4 vs4 H4 s4 e4 r4 => ?_
    exact q p4 vs4 H4 (s3.trans s4) e4 r4
end
end HB

set_option Elab.async false
set_option linter.all false
set_option maxRecDepth 100000
set_option maxHeartbeats 4000000
namespace HB
open PySem PySem.Spec PyProof.Rows L2
abbrev s_law : Stmt := top 32
theorem StrAt.up {H : Hp} {a l : Addr} {B B' : Nat} (h : StrAt H a l B) (hb : B ≤ B') : StrAt H a l B' := by
  obtain ⟨ns, c, n, m, ha, hl, hal, hns, hc, hn, hnB, r⟩ := h
  exact ⟨ns, c, n, m, ha, hl, hal, hns, hc, hn, by omega, r⟩
theorem sm_leaf {H : Hp} {v : V} {d : D} (h : scal1 v d) : Leaf H v := .inl ⟨d, h⟩
theorem th_of {H : Hp} : ∀ {n m : Nat} {P : Addr → Prop} {v : V} {d : D}, Rep H m P v d → Sm n d → Th H 2 n P v := by
  intro n
  induction n with
  | zero =>
    intro m P v d h s
    rcases h.cases with h | ⟨m, rfl, ⟨a, vs, ds, rfl, rfl, _⟩ | ⟨a, vs, ds, rfl, rfl, _⟩ | ⟨a, k, w, e, rfl, rfl, p, e3, q⟩⟩
    · exact .inl ⟨d, h⟩
    · exact s.elim
    · exact s.elim
    · exact .inr ⟨a, _, rfl, e3⟩
  | succ n ih =>
    intro m P v d h s
    have items : ∀ {m : Nat} {P : Addr → Prop} {vs : List V} {ds : List D}, Paired (Rep H m P) vs ds → (∀ x ∈ ds, Sm n x) → ∀ x ∈ vs, Th H 2 n P x := by
      intro m P vs ds hp
      induction hp with
      | nil => intro _ x hx; cases hx
      | cons r t ih2 =>
        intro hs x hx
        rcases List.mem_cons.mp hx with rfl | hx
        · exact ih r (hs _ (List.mem_cons_self ..))
        · exact ih2 (fun y hy => hs y (List.mem_cons_of_mem _ hy)) x hx
    rcases h.cases with h | ⟨m, rfl, ⟨a, vs, ds, rfl, rfl, p, e3, lz, q⟩ | ⟨a, vs, ds, rfl, rfl, p, e3, lz, q⟩ | ⟨a, k, w, e, rfl, rfl, p, e3, q⟩⟩
    · exact .inl (.inl ⟨d, h⟩)
    · exact .inr ⟨a, vs, rfl, p, .inl e3, by rw [Paired.length q]; exact s.1, items q s.2⟩
    · exact .inr ⟨a, vs, rfl, p, .inr e3, by rw [Paired.length q]; exact s.1, items q s.2⟩
    · exact .inl (.inr ⟨a, _, rfl, e3⟩)
theorem tupd_nolst (n : Nat) (d : D) : ∀ ds, tupd (n + 1) d ≠ .lst ds := by
  intro ds h
  cases d <;> simp [tupd] at h
def bitsD (j : Nat) : PyData := .list ((List.range 19).map fun i => .bool (decide (i = j)))
theorem bits_fine : ∀ j, j < 19 → PyData.eqv (bitsD j) (bitsD j) = true ∧ SeqAt.shaped (bitsD j) = true := by decide +kernel
theorem dp_bools {K : PySem.W.Frag} {H : Hp} (f : Nat → Bool) : ∀ is : List Nat, DpAll K H (is.map fun i => V.bl (f i)) (is.map fun i => PyData.bool (f i))
  | [] => .nil
  | n :: r => .cons (.bl _) (dp_bools f r)
theorem val_isV {K : PySem.W.Frag} {σ : L2.St} {H : Hp} {te : TE} {a C : Addr} {n : String} {fs : List (Str × V)} {b : Bool} (hv : Val te σ H (.ref a)) (ea : ExAt H a C fs) (F : ExcF K C) (hk : PySem.W.kitOne K (.ref C) (.type n) = some b) :
    Val (tCB (rIsX K) (tCons te (tCons (tC (.ty n)) tNil))) σ H (.bl b) := fun Q q => hv _ ⟨a, C, fs, .ty n, .type n, b, rfl, ea, F, .ty n, hk, q⟩
theorem FnOk.or {P : Program} {w : World} {K : PySem.W.Frag} {mg : Str → Option Value} {base : Heap} {CX : CXT} {k : Nat} {f : Addr} {fd : FuncData} {ps : List Str} {sp sp' : Sp} (F : FnOk P w K mg base CX k f fd ps sp) (G : FnOk P w K mg base CX k f fd ps sp') :
    FnOk P w K mg base CX k f fd ps (fun vs H Q E => sp vs H Q E ∨ sp' vs H Q E) :=
  ⟨fun vs H Q E h => h.elim (F.len vs H Q E) (G.len vs H Q E), fun A outer s H args us vs Q E hr a b c h => h.elim (F.run A outer s H args us vs Q E hr a b c) (G.run A outer s H args us vs Q E hr a b c)⟩
theorem len11 {α : Type} {xs : List α} (h : xs.length = 11) : ∃ a b c d e f g i j k l, xs = [a, b, c, d, e, f, g, i, j, k, l] := by
  match xs, h with
  | [a, b, c, d, e, f, g, i, j, k, l], _ => exact ⟨a, b, c, d, e, f, g, i, j, k, l, rfl⟩
theorem tup_call {σ : L2.St} {H : Hp} {te : TE} {v : V} {d : D} {P : Addr → Prop} {E : XK} {Q : VK} (hv : Val te σ H v) (hR : Rep H 7 P v d) (q : ∀ v' H', Same H H' → Rep H' 7 (New H) v' (tupd 7 d) → Q v' H') : tCall (spU 8) [] E (tCons te tNil) σ H Q := hv _ ⟨v, d, P, rfl, hR, q⟩
theorem Grow.rep {H H' : Hp} {P P' : Addr → Prop} {B n : Nat} {v : V} {d : D} (g : Grow H H' P B) (hp : ∀ b, P b → ¬ P' b) (r : Rep H n P' v d) : Rep H' n P' v d := Rep.mono (fun b o pb e => ⟨pb, by
  rcases g b o e with z | ⟨z, _⟩
  · exact z
  · exact absurd pb (hp b z)⟩) r
theorem Grow.exc {H H' : Hp} {P : Addr → Prop} {B : Nat} {a C : Addr} {fs : List (Str × V)} (g : Grow H H' P B) (h : ExAt H a C fs) : ExAt H' a C fs := by
  have k : ∀ b o, H b = some o → (∀ vs, o ≠ .lst vs) → H' b = some o := fun b o e ne => by
    rcases g b o e with z | ⟨_, vs, _, z, _⟩
    · exact z
    · exact absurd z (ne vs)
  rcases h with ⟨e, r⟩ | ⟨d, e, r⟩
  · exact .inl ⟨k _ _ e (fun _ z => nomatch z), r⟩
  · exact .inr ⟨d, k _ _ e (fun _ z => nomatch z), k _ _ r (fun _ z => nomatch z)⟩
theorem Grow.str {H H' : Hp} {P : Addr → Prop} {B B' : Nat} {a l : Addr} (g : Grow H H' P B') (h1 : ¬ P a) (h2 : ¬ P l) (h : StrAt H a l B) : StrAt H' a l B := by
  obtain ⟨ns, c, n, m, ha, hl, r⟩ := h
  refine ⟨ns, c, n, m, ?_, ?_, r⟩
  · rcases g a _ ha with z | ⟨z, _⟩
    · exact z
    · exact absurd z h1
  · rcases g l _ hl with z | ⟨z, _⟩
    · exact z
    · exact absurd z h2
theorem val_exf {K : PySem.W.Frag} {σ : L2.St} {H : Hp} {te : TE} {a C : Addr} {f : Str} {fs : List (Str × V)} {v : V} (hv : Val te σ H (.ref a)) (ea : ExAt H a C fs) (F : ExcF K C) (hno : PySem.W.findIn K (.ref C) f = some none) (hl : fs.lookup f = some v) : Val (tExF K f te) σ H v :=
  fun Q q => hv _ ⟨a, C, fs, v, rfl, ea, F, hno, hl, q⟩
theorem rep_two {H : Hp} {n : Nat} {p : Addr} {v w : V} {d e : D} {P P' : Addr → Prop} (hp : H p = none) (r : Rep H n P v d) (r' : Rep H n P' w e) : Rep (upd H p (.lst [v, w])) (n + 1) (fun _ => True) (.ref p) (.lst [d, e]) := by
  exact .inr (.inl ⟨p, [v, w], [d, e], rfl, rfl, True.intro, upd_same, by simp, .cons (by
    refine Rep.mono (fun b o pb eb => ⟨⟨True.intro, ne_of_none eb hp⟩, ?_⟩) r
    rw [upd_ne (ne_of_none eb hp)]
    exact eb) (.cons (by
    refine Rep.mono (fun b o pb eb => ⟨⟨True.intro, ne_of_none eb hp⟩, ?_⟩) r'
    rw [upd_ne (ne_of_none eb hp)]
    exact eb) .nil)⟩)
def spLaw (K : PySem.W.Frag) : Sp := fun vs H Q _ => ∃ (a : Addr) (ns : List Int), vs = [.ref a] ∧ SqL K H a (ns.map V.int) ∧ ns.length ≤ 63 ∧ ∀ H', Q (.bl true) H'
abbrev spTh : Sp := fun vs H Q E => spT 4 vs H Q E ∨ spT 3 vs H Q E
section
variable {P : Program} {w : World} {K : PySem.W.Frag} {mg : Str → Option Value} {base : Heap}
/-- the law's own names -/
structure TL (P : Program) (w : World) (K : PySem.W.Frag) (mg : Str → Option Value) (base : Heap) (cA fA : Nat → Addr) (fdA : Nat → FuncData) (cH : Addr) (a1 a2 a3 a4 a5 a6 a7 a8 : Addr) : Prop extends TM P w K mg base cA fA fdA cH where
  f_range : mg "range" = none
  f_enumerate : mg "enumerate" = none
  m__law_start : mg "_law_start" = some (.ref a1)
  k__law_start : PySem.W.keepIn K (.ref a1) = true
  m__law_thing : mg "_law_thing" = some (.ref a2)
  k__law_thing : PySem.W.keepIn K (.ref a2) = true
  m__law_all_errors : mg "_law_all_errors" = some (.ref a3)
  k__law_all_errors : PySem.W.keepIn K (.ref a3) = true
  m__law_kinds : mg "_law_kinds" = some (.ref a4)
  k__law_kinds : PySem.W.keepIn K (.ref a4) = true
  m__law_tupled_all : mg "_law_tupled_all" = some (.ref a5)
  k__law_tupled_all : PySem.W.keepIn K (.ref a5) = true
  m__law_by_place : mg "_law_by_place" = some (.ref a6)
  k__law_by_place : PySem.W.keepIn K (.ref a6) = true
  m__law_by_name : mg "_law_by_name" = some (.ref a7)
  k__law_by_name : PySem.W.keepIn K (.ref a7) = true
  m__law_spoil : mg "_law_spoil" = some (.ref a8)
  k__law_spoil : PySem.W.keepIn K (.ref a8) = true
theorem sc_law : FnScope ["_law_script", "_law_stream", "_law_turn", "_law_one", "_law_other", "_law_at", "_law_e", "_law_kinds_here", "_law_k", "_law_due", "_law_kept"] ["_law_script"] (defScope s_law) := ⟨rfl, rfl, rfl, by decide +kernel, rfl, by decide +kernel, by decide +kernel⟩
theorem ok_law {cA fA : Nat → Addr} {fdA : Nat → FuncData} {cH a1 a2 a3 a4 a5 a6 a7 a8 : Addr} {d1 d2 d3 d4 d5 d6 d7 d8 : FuncData} {f : Addr} {fd : FuncData} (F : FnP K "law" s_law f fd) (T : TL P w K mg base cA fA fdA cH a1 a2 a3 a4 a5 a6 a7 a8)
    (b__law_start : Binds K d1 ["_law_script"] []) (b__law_thing : Binds K d2 ["_law_stream", "_law_deep"] []) (b__law_all_errors : Binds K d3 ["_law_one", "_law_other"] []) (b__law_kinds : Binds K d4 ["_law_e"] []) (b__law_tupled_all : Binds K d5 ["_law_thing_here"] []) (b__law_by_place : Binds K d6 ["_law_one", "_law_other"] [])
    (b__law_by_name : Binds K d7 ["_law_one"] []) (b__law_spoil : Binds K d8 ["_law_thing_here"] [])
    (G__law_start : FnOk P w K mg base CX0 1 a1 d1 ["_law_script"] (spStart K)) (G__law_thing : FnOk P w K mg base CX0 5 a2 d2 ["_law_stream", "_law_deep"] spTh) (G__law_all_errors : FnOk P w K mg base CX0 10 a3 d3 ["_law_one", "_law_other"] (spE cA)) (G__law_kinds : FnOk P w K mg base CX0 1 a4 d4 ["_law_e"] (spK cA))
    (G__law_tupled_all : FnOk P w K mg base CX0 8 a5 d5 ["_law_thing_here"] (spU 8)) (G__law_by_place : FnOk P w K mg base CX0 10 a6 d6 ["_law_one", "_law_other"] spP) (G__law_by_name : FnOk P w K mg base CX0 10 a7 d7 ["_law_one"] spN) (G__law_spoil : FnOk P w K mg base CX0 4 a8 d8 ["_law_thing_here"] (spS 4)) :
    FnOk P w K mg base CX0 11 f fd ["_law_script"] (spLaw K) := by
  have nd := sc_law.nd
  refine F.ok sc_law (fun vs H Q E h => ?_) (fun cdv A outer s H vs Q E hr h => ?_)
  · obtain ⟨a, ns, rfl, _⟩ := h
    rfl
  · obtain ⟨a, ns, rfl, hx, hns, q⟩ := h
    have hu64 := hr.units
    have hr2 : Room 9 _ := hr.mono (by decide)
    refine ⟨_, (pss_cons (ps_set (i := 1) nd rfl (Or.inl rfl) (pe_call G__law_start (hr.mono (by decide)) rfl T.m__law_start T.k__law_start b__law_start .nil pass0 (pa_cons (pv 0) pa_nil)))
      (pss_cons (ps_for (passes_of rfl) rfl (pi_range1 rfl T.f_range (pa_cons pe_int pa_nil)) (pg_name (i := 2) nd rfl (Or.inl rfl))
        (pss_cons (ps_par (i := 3) (j := 4) rfl nd rfl rfl (by decide) rfl rfl (pa_cons (pe_call G__law_thing (hr.mono (by decide)) rfl T.m__law_thing T.k__law_thing b__law_thing .nil pass0 (pa_cons (pv 1) (pa_cons pe_int pa_nil))) (pa_cons (pe_call G__law_thing (hr.mono (by decide)) rfl T.m__law_thing T.k__law_thing b__law_thing .nil pass0 (pa_cons (pv 1) (pa_cons pe_int pa_nil))) pa_nil)) rfl)
      (pss_cons (ps_for (passes_of rfl) rfl (pi_enum rfl T.f_enumerate (pa_cons (pe_call G__law_all_errors hr rfl T.m__law_all_errors T.k__law_all_errors b__law_all_errors .nil pass0 (pa_cons (pv 3) (pa_cons (pv 4) pa_nil))) pa_nil)) (pg_tup rfl (pgs_cons (pg_name (i := 5) nd rfl (Or.inr rfl)) (pgs_cons (pg_name (i := 6) nd rfl (Or.inl rfl)) pgs_nil)))
        (pss_cons (ps_set (i := 7) nd rfl (Or.inl rfl) (pe_call G__law_kinds (hr.mono (by decide)) rfl T.m__law_kinds T.k__law_kinds b__law_kinds .nil pass0 (pa_cons (pv 6) pa_nil)))
      (pss_cons (ps_if (PW.pt (pw_or (pt_not (pt_val (pe_callB call_isX rfl T.f_isinstance (by decide +kernel) (pa_cons (pv 6) (pa_cons (pe_glob (v := .ref _) rfl T.m_HeldError rfl) pa_nil))))) (pw_or1 (pt_not (pt_val (pe_callB call_isX rfl T.f_isinstance (by decide +kernel) (pa_cons (pv 6) (pa_cons (pe_bltn (v := .ty "ValueError") (u := .type "ValueError") rfl T.f_ValueError (by decide +kernel) rfl) pa_nil))))))))
        (pss_one (ps_ret pe_bl))
        pss_nil)
      (pss_one (ps_if (pt_cmpR (op_neD hu64) (pv 7) (pe_lc (own := [("_law_k", 8)]) rfl nd (pi_range1 rfl T.f_range (pa_cons pe_int pa_nil)) (blkOk_by (N := ["_law_script", "_law_stream", "_law_turn", "_law_one", "_law_other", "_law_at", "_law_e", "_law_kinds_here", "_law_k", "_law_due", "_law_kept"]) (sc := defScope s_law) (by decide +kernel)) (fun _ _ _ _ _ => (pg_name (i := 8) nd rfl (Or.inl rfl))) (fun _ _ _ _ _ => pts_nil) (fun _ _ _ _ _ => (pe_cmpR op_eq (pv 8) (pv 5) (nomark _)))) (nomark _))
        (pss_one (ps_ret pe_bl))
        pss_nil)))))
      (pss_cons (ps_set (i := 9) nd rfl (Or.inl rfl) (pe_call G__law_tupled_all (hr.mono (by decide)) rfl T.m__law_tupled_all T.k__law_tupled_all b__law_tupled_all .nil pass0 (pa_cons (pv 3) pa_nil)))
      (pss_cons (ps_for (passes_of rfl) rfl (pi_list (pe_op op_cat (pe_call G__law_by_place hr rfl T.m__law_by_place T.k__law_by_place b__law_by_place .nil pass0 (pa_cons (pv 3) (pa_cons (pv 4) pa_nil))) (pe_call G__law_by_name hr rfl T.m__law_by_name T.k__law_by_name b__law_by_name .nil pass0 (pa_cons (pv 3) pa_nil)))) (pg_name (i := 10) nd rfl (Or.inl rfl))
        (pss_one (ps_if (pt_cmpR (op_neR hu64) (pe_call G__law_tupled_all (hr.mono (by decide)) rfl T.m__law_tupled_all T.k__law_tupled_all b__law_tupled_all .nil pass0 (pa_cons (pv 10) pa_nil)) (pv 9) (nomark _))
        (pss_one (ps_ret pe_bl))
        pss_nil)))
      (pss_cons (ps_set (i := 6) nd rfl (Or.inl rfl) (pe_excK (T.x_NoFit).Z.T (T.x_NoFit).iC (T.x_NoFit).tI T.G_NoFit hr2 T.kb_NoFit pass0 rfl (T.x_NoFit).m (pk_cons (pv 4) (pk_cons (pv 3) pk_nil))))
      (pss_cons (ps_if (pt_cmpR (op_neR hu64) (pe_call G__law_tupled_all (hr.mono (by decide)) rfl T.m__law_tupled_all T.k__law_tupled_all b__law_tupled_all .nil pass0 (pa_cons (pe_lst (pa_cons (pe_exf (pv 6)) (pa_cons (pe_exf (pv 6)) pa_nil))) pa_nil)) (pe_call G__law_tupled_all (hr.mono (by decide)) rfl T.m__law_tupled_all T.k__law_tupled_all b__law_tupled_all .nil pass0 (pa_cons (pe_lst (pa_cons (pv 3) (pa_cons (pv 4) pa_nil))) pa_nil)) (nomark _))
        (pss_one (ps_ret pe_bl))
        pss_nil)
      (pss_cons (ps_expr (pe_call G__law_spoil (hr.mono (by decide)) rfl T.m__law_spoil T.k__law_spoil b__law_spoil .nil pass0 (pa_cons (pv 3) pa_nil)))
      (pss_one (ps_if (pt_cmpR (op_neR hu64) (pe_call G__law_tupled_all (hr.mono (by decide)) rfl T.m__law_tupled_all T.k__law_tupled_all b__law_tupled_all .nil pass0 (pa_cons (pe_exf (pv 6)) pa_nil)) (pv 9) (nomark _))
        (pss_one (ps_ret pe_bl))
        pss_nil))))))))))
      (pss_one (ps_ret pe_bl)))), ?_⟩
    try dsimp only [cxOf]
    refine st_seq ⟨_, rfl, a, ns, rfl, hx, hns, fun p l H1 s1 S1 => ?_⟩
    dsimp only [gName]
    refine st_seq ?_
    refine ⟨4, rfl, by decide, by decide, ?_⟩
    refine for_it (walk_range (lo := 0) (n := 4)) (fun i σ H' => (σ[1]? = some (some (.ref p)) ∧ σ.length = 11) ∧ StrAt H' p l (40 * i)) ⟨⟨rfl, rfl⟩, S1⟩ (fun _ _ _ _ _ => True.intro) ?_ ?_
    · rintro i x σ H2 H3 hi ⟨⟨h1, hln⟩, S2⟩ ⟨rfl, rfl⟩
      dsimp only [gName]
      obtain ⟨x0, x1, x2, x3, x4, x5, x6, x7, x8, x9, x10, rfl⟩ := len11 hln
      obtain rfl : x1 = some (.ref p) := by simpa using h1
      -- the two things
      refine st_seq ?_
      refine ⟨_, rfl, .inl ⟨p, l, 40 * i, rfl, S2, by show 40 * i + 22 < _; omega, fun one d1 H4 B4 hB4 S4 kp4 r4 sm4 => ?_⟩⟩
      refine ⟨_, rfl, .inr ⟨p, l, B4, rfl, S4, by have hB4 : B4 ≤ 40 * i + 22 := hB4; show B4 + 10 < _; omega, fun other d2 H5 B5 hB5 S5 kp5 r5 sm5 => ⟨_, _, rfl, ?_⟩⟩⟩
      have hB : B5 ≤ 40 * (i + 1) := by
        have hB4 : B4 ≤ 40 * i + 22 := hB4
        have hB5 : B5 ≤ B4 + 10 := hB5
        omega
      have r4 : Rep H4 6 (New H3) one d1 := r4
      have r5 : Rep H5 4 (New H4) other d2 := r5
      have ro : Rep H5 6 (fun b => H3 b = none ∧ H4 b ≠ none) one d1 := Rep.mono (fun b o pb e => ⟨⟨pb, by rw [e]; simp⟩, kp5 b o (S2.ne pb).1 (S2.ne pb).2 e⟩) r4
      have rt : Rep H5 6 (New H4) other d2 := r5.up.up
      have hold : ∀ b, H3 b = none ∧ H4 b ≠ none → H5 b ≠ none := fun b h => by
        obtain ⟨n1, n2⟩ := S2.ne h.1
        cases e : H4 b with
        | none => exact absurd e h.2
        | some o => rw [kp5 b o n1 n2 e]; simp
      generalize hPo : (fun b => H3 b = none ∧ H4 b ≠ none) = Po at ro
      have hold : ∀ b, Po b → H5 b ≠ none := by subst hPo; exact hold
      have Poa : ¬ Po p ∧ ¬ Po l := by
        obtain ⟨ns2, c2, n2, m2, ha2, hl2, _⟩ := S2
        subst hPo
        exact ⟨fun z => (by have z1 : H3 p = none := z.1; rw [ha2] at z1; cases z1), fun z => (by have z1 : H3 l = none := z.1; rw [hl2] at z1; cases z1)⟩
      have S5 := S5.up hB
      dsimp only [List.set]
      -- the errors
      refine st_seq ?_
      refine ⟨_, rfl, _, rfl, one, other, d1, d2, _, _, rfl, ro, rt, fun pe us H6 s6 e6 r6 => ⟨pe, us, rfl, SqL.of e6, ?_⟩⟩
      have hus : us.length = 19 := by rw [Paired.length r6]; rfl
      refine for_it (walk_enum (K := K) (a := pe) (xs := us)) (fun j σ' H' => (∃ y5 y6 y7 y8, σ' = [x0, some (.ref p), some (.int (0 + (i : Int))), some one, some other, y5, y6, y7, y8, x9, x10]) ∧ Same H6 H') ⟨⟨_, _, _, _, rfl⟩, Same.refl _⟩ (fun j σ' H' _ h => SqL.of (h.2 _ _ e6)) ?_ ?_
      · rintro j x σ' H7 H8 hj ⟨⟨y5, y6, y7, y8, rfl⟩, s7⟩ ⟨t, kx, ex, rfl, ht, rfl, hk, hx2⟩
        obtain rfl : V.int (j : Nat) = kx := Option.some.inj hk
        have s8 := s7.trans (same_fresh (o := HO.tup [.int (j : Nat), ex]) ht)
        have hj19 : j < 19 := by omega
        obtain ⟨ea, fs, rfl, hea⟩ := paired_get r6 hx2 (show (List.range 19)[j]? = some j by rw [List.getElem?_range hj19])
        refine ⟨t, _, rfl, SqT.of upd_same, rfl, _, _, rfl, _, _, rfl, rfl, ?_⟩
        generalize upd H7 t (.tup [.int (j : Nat), .ref ea]) = H8 at s8 ⊢
        dsimp only [List.set]
        refine st_seq ?_
        refine ⟨_, rfl, ea, j, fs, rfl, hj19, hea.same s8, fun pk H9 s9 e9 => ?_⟩
        have s9 := s8.trans s9
        dsimp only [gName, List.set]
        refine st_seq ?_
        refine st_no ((ans_or (b := false) (ans_not (b := true) (ans_val (val_isX (val_var rfl) (hea.same s9) (T.F j hj19) (T.kitH j hj19)))) (ans_not (b := true) (ans_val (val_isV (val_var rfl) (hea.same s9) (T.F j hj19) (T.kitV j hj19)))))) (st_next ?_)
        dsimp only
        refine st_noH (P := Same H6) (fun Q' q' => ?_) (fun H10 s10 => st_next ⟨⟨_, _, _, _, rfl⟩, s10⟩)
        refine ⟨_, rfl, 19, rfl, by decide, by decide, fun D hD => ?_⟩
        refine lc_range (fun k H' => Same H6 H' ∧ H' pk = some (.lst (bits j)) ∧ H' D = some (.lst ((List.range k).map fun k => V.bl (decide (k = j))))) ⟨s9.trans (same_fresh hD), by rw [upd_ne (ne_of_none e9 hD)]; exact e9, upd_same⟩ ?_ ?_
        · rintro k H' hk2 ⟨t1, t2, t3⟩
          refine ⟨rfl, ?_⟩
          unfold tYes
          refine iteT ?_
          refine ⟨_, rfl, _, rfl, rfl, _, t3, by rw [List.length_map, List.length_range, sizeLine_eq]; omega, ?_⟩
          refine ⟨fun b o e => ?_, ?_, ?_⟩
          · have nb : b ≠ D := ne_of_none (s9 b o e) hD
            rw [upd_ne nb]
            exact t1 b o e
          · rw [upd_ne (ne_of_none e9 hD)]
            exact t2
          · rw [upd_same, List.range_succ, List.map_append, eqI]
            have e : decide ((0 : Int) + (k : Nat) = (j : Nat)) = decide (k = j) := by
              by_cases h : k = j
              · subst h
                simp
              · rw [decide_eq_false h]
                exact decide_eq_false (by omega)
            rw [e]
            rfl
        · rintro H' ⟨t1, t2, t3⟩
          refine ⟨bitsD j, bitsD j, .lst (SqL.of t2) (dp_bools _ _), .lst (SqL.of t3) (dp_bools _ _), (bits_fine j hj19).2, (bits_fine j hj19).2, ?_⟩
          rw [(bits_fine j hj19).1]
          exact ⟨false, rfl, q' _ t1⟩
      · rintro σ' H7 ⟨⟨y5, y6, y7, y8, rfl⟩, s7⟩
        have s7 := s6.trans s7
        dsimp only
        -- due
        refine st_seq (tup_call (val_var rfl) (ro.same s7).up fun due H8 s8 r8 => ?_)
        have hn7 : ∀ b, Po b → ¬ New H7 b := fun b pb z => hold b pb (s7.free z)
        dsimp only [gName, List.set]
        have s8 := s7.trans s8
        refine st_seq ?_
        refine ⟨_, rfl, _, rfl, one, other, d1, d2, _, _, rfl, ro.same s8, rt.same s8, fun pa ua H9 s9 e9 l9 r9 => ?_⟩
        refine ⟨_, rfl, one, d1, _, rfl, ro.same (s8.trans s9), fun pb ub H10 s10 e10 l10 r10 => ?_⟩
        refine ⟨pa, pb, ua, ub, rfl, rfl, s10 _ _ e9, e10, by rw [sizeLine_eq]; omega, fun pc hc => ⟨pc, rfl, ⟨_, SqL.of upd_same⟩, ?_⟩⟩
        have sf := same_fresh (o := HO.lst (ua ++ ub)) hc
        have kept : ∀ u ∈ ua ++ ub, Rep (upd H10 pc (.lst (ua ++ ub))) 6 (New H8) u d1 := fun u hu => by
          rcases List.mem_append.mp hu with h | h
          · exact (r9 u h).same (s10.trans sf)
          · exact ((r10 u h).olds s9).same sf
        have ec : upd H10 pc (.lst (ua ++ ub)) pc = some (.lst (ua ++ ub)) := upd_same
        have s11 := s9.trans (s10.trans sf)
        generalize upd H10 pc (.lst (ua ++ ub)) = H11 at kept s11 ec ⊢
        refine for_list (K := K) (a := pc) (xs := ua ++ ub) (fun j σ' H' => (∃ y10, σ' = [x0, some (.ref p), some (.int (0 + (i : Int))), some one, some other, y5, y6, y7, y8, some due, y10]) ∧ Same H11 H') ⟨⟨_, rfl⟩, Same.refl _⟩ (fun j σ' H' _ h => SqL.of (h.2 _ _ ec)) ?_ ?_
        · rintro j x σ' H12 hx ⟨⟨y10, rfl⟩, s12⟩
          dsimp only [gName, List.set]
          refine st_noH (P := Same H12) (fun Q' q' => ?_) (fun H13 s13 => st_next ⟨⟨_, rfl⟩, s12.trans s13⟩)
          refine tup_call (val_var rfl) ((kept x (List.mem_of_getElem? hx)).same s12).up fun v' H13 s13 r13 => ?_
          exact ⟨_, rfl, 7, tupd 7 d1, _, _, by decide, r13, r8.same (s11.trans (s12.trans s13)), tupd_nolst 6 d1, false, rfl, q' _ s13⟩
        · rintro σ' H12 ⟨⟨y10, rfl⟩, s12a⟩
          have s12 := s8.trans (s11.trans s12a)
          dsimp only
          refine st_seq ?_
          refine ⟨_, rfl, _, rfl, fun a ha => ?_⟩
          have sfa := same_fresh (o := exo a (cA 6) none) ha
          refine ⟨a, one, other, d1, d2, _, But (New H4) a, rfl, upd_same, (ro.same s12).same sfa, rep_new (H' := H12) (rt.same s12) ha, fun b pb => pb.2, fun v' w' H13 k13 ea r13 r14 => ⟨rfl, ?_⟩⟩
          have s13a : Same H12 H13 := fun b o eb => k13 b o (ne_of_none eb ha) (sfa b o eb)
          have r13 : Rep H13 6 (New H12) v' d1 := Rep.mono (fun b o pb e => ⟨new_old pb, e⟩) r13
          have r14 : Rep H13 6 (New H12) w' d2 := Rep.mono (fun b o pb e => ⟨new_old pb, e⟩) r14
          have hn12 : ∀ b, Po b → ¬ New H12 b := fun b pb z => hold b pb (s12.free z)
          have s13 := s12.trans s13a
          have r8' := r8.same (s11.trans (s12a.trans s13a))
          dsimp only [gName, List.set]
          refine st_seq ?_
          refine st_noH (P := Same H13) (fun Q' q' => ?_) (fun H14 s14 => st_next ?_)
          · refine ⟨_, rfl, a, cA 6, _, v', rfl, ea, T.F 6 (by decide), T.n_NoFit, rfl, ?_⟩
            refine ⟨_, rfl, a, cA 6, _, w', rfl, ea, T.F 6 (by decide), T.n2_NoFit, rfl, ?_⟩
            refine ⟨by show 2 ≤ sizeLine; rw [sizeLine_eq]; decide, fun pl hpl => ?_⟩
            refine ⟨.ref pl, .lst [d1, d2], _, rfl, rep_two hpl r13 r14, fun v2 H14 s14 r15 => ?_⟩
            have s14 := (same_fresh (o := HO.lst [v', w']) hpl).trans s14
            refine ⟨_, rfl, _, rfl, by show 2 ≤ sizeLine; rw [sizeLine_eq]; decide, fun pm hpm => ?_⟩
            refine ⟨.ref pm, .lst [d1, d2], _, rfl, rep_two hpm ((ro.same s13).same s14) ((rt.same s13).same s14), fun v3 H15 s15 r16 => ?_⟩
            have s15 := (same_fresh (o := HO.lst [one, other]) hpm).trans s15
            exact ⟨7, tupd 7 (.lst [d1, d2]), _, _, by decide, r15.same s15, r16, tupd_nolst 6 _, false, rfl, q' _ (s14.trans s15)⟩
          · dsimp only
            refine st_seq ?_
            refine ⟨_, rfl, one, 2, Po, rfl, th_of ((ro.same s13).same s14) sm4, by decide, fun H15 g => ?_⟩
            dsimp only
            refine st_noH (P := Same H15) (fun Q' q' => ?_) (fun H16 s16 => st_next ?_)
            · refine tup_call (val_exf (val_var rfl) (g.exc (ea.same s14)) (T.F 6 (by decide)) T.n_NoFit rfl) (g.rep hn12 (r13.same s14)).up fun v2 H16 s16 r17 => ?_
              exact ⟨_, rfl, 7, tupd 7 d1, _, _, by decide, r17, (g.rep hn7 (r8'.same s14)).same s16, tupd_nolst 6 d1, false, rfl, q' _ s16⟩
            · exact ⟨⟨rfl, rfl⟩, (g.str Poa.1 Poa.2 ((S5.same s13).same s14)).same s16⟩
    · rintro σ H2 _
      exact q H2
end
end HB

set_option Elab.async false
set_option linter.all false
set_option maxRecDepth 100000
set_option maxHeartbeats 4000000
namespace HB
open PySem PySem.Spec PyProof.Rows L2
/-! ### a class's defs -/
def clsDef (s : Stmt) (i : Nat) : Stmt := match s with
  | .ClassDef _ _ _ body _ _ _ _ _ _ _ => body.getD i (.Pass ⟨0, 0, 0, 0⟩)
  | _ => .Pass ⟨0, 0, 0, 0⟩
/-! ### tests upon what the head looks at -/
def oexB (K : PySem.W.Frag) (C : Addr) : Bool := (match K.lookup C with
  | some ⟨.type "type", _, .cls cd, sl⟩ => (match cd.mro, sl.toList with
    | .ref C' :: bm, [_, _, _, _, some (.builtin n), _] => C' == C && n == "ValueError.__new__" && !cd.hasDel && cd.hasDict && PySem.HandSPX.refsVE bm
    | _, _ => false)
  | _ => false) && (He.eqO (PySem.W.findIn K (.ref C) "__setattr__") (some (some (.builtin "object.__setattr__"))) && (decide (PySem.W.subIn K (.ref C) (.type "BaseException") = some true) && (decide (PySem.W.typeIn K (.ref C) = some (.type "type")) && PySem.W.keepIn K (.ref C))))
theorem oexB_ok {K : PySem.W.Frag} {C : Addr} (h : oexB K C = true) : OexC K C := by
  obtain ⟨q, h⟩ := He.ba h
  obtain ⟨h1, h⟩ := He.ba h
  obtain ⟨h2, h⟩ := He.ba h
  obtain ⟨h3, h4⟩ := He.ba h
  refine ⟨?_, He.eqO_ok h1, of_decide_eq_true h2, of_decide_eq_true h3, h4⟩
  split at q
  · rename_i dd cd sl ho
    split at q
    · rename_i C' bm k0 k1 k2 k3 n k5 hm hs
      simp only [Bool.and_eq_true, beq_iff_eq, Bool.not_eq_true'] at q
      obtain ⟨⟨⟨⟨rfl, rfl⟩, hdel⟩, hd⟩, ht⟩ := q
      obtain ⟨nm, bs, mro, ns, qn, hd', sn, sub, ab, col, del⟩ := cd
      dsimp only at hm hdel hd
      subst hm hdel hd
      have hsl : sl = #[k0, k1, k2, k3, some (.builtin "ValueError.__new__"), k5] := by
        obtain ⟨l⟩ := sl
        simp only at hs
        rw [hs]
      subst hsl
      exact ⟨nm, qn, ns, bs, bm, sn, sub, ab, col, dd, k0, k1, k2, k3, k5, ho, ht⟩
    · cases q
  · cases q
def exkB (K : PySem.W.Frag) (D : Addr) : Bool := oexB K D && (He.eqO (PySem.W.ks_superIn K D D "__init__") (some (some (.builtin "ValueError.__init__"))) && (decide (PySem.W.subIn K (.ref D) (.type "ValueError") = some true) && (decide (PySem.W.mroIn K D (.ref D) = some true) && He.eqO (PySem.W.nsIn K cStatics "thirdparty.any") (some none))))
theorem exkB_ok {K : PySem.W.Frag} {D : Addr} (h : exkB K D = true) : ExcK K D := by
  obtain ⟨h0, h⟩ := He.ba h
  obtain ⟨h1, h⟩ := He.ba h
  obtain ⟨h2, h⟩ := He.ba h
  obtain ⟨h3, h4⟩ := He.ba h
  exact ⟨oexB_ok h0, He.eqO_ok h1, of_decide_eq_true h2, of_decide_eq_true h3, He.eqO_ok h4⟩
def exfB (K : PySem.W.Frag) (C : Addr) : Bool := He.eqO (PySem.W.findIn K (.ref C) "__getattribute__") (some (some (.builtin "BaseException.__getattribute__"))) && (He.eqO (PySem.W.findIn K (.ref C) "__getattr__") (some none) && (decide (PySem.W.subIn K (.ref C) (.type "BaseException") = some true) &&
  (PySem.W.hasDictIn K C && (He.eqO (PySem.W.findIn K (.ref C) "__class__") (some (some (.builtin "object.__class__"))) && (He.eqO (PySem.W.specialIn K (.builtin "object.__class__") "__get__") (some (some (.builtin "getset_descriptor.__get__"))) &&
  (decide (PySem.W.takesIn K (.builtin "object.__class__") = some true) && decide (PySem.W.mroIn K C (.type "object") = some true)))))))
theorem exfB_ok {K : PySem.W.Frag} {C : Addr} (h : exfB K C = true) : ExcF K C := by
  obtain ⟨h0, h⟩ := He.ba h
  obtain ⟨h1, h⟩ := He.ba h
  obtain ⟨h2, h⟩ := He.ba h
  obtain ⟨h3, h⟩ := He.ba h
  obtain ⟨h4, h⟩ := He.ba h
  obtain ⟨h5, h⟩ := He.ba h
  obtain ⟨h6, h7⟩ := He.ba h
  exact ⟨He.eqO_ok h0, He.eqO_ok h1, of_decide_eq_true h2, h3, He.eqO_ok h4, He.eqO_ok h5, of_decide_eq_true h6, of_decide_eq_true h7⟩
/-! ### an __init__ with a class cell -/
abbrev iA (K : PySem.W.Frag) (x : Str) : Addr := He.ma K (He.ga K x) "__init__"
abbrev FnS : Type := Option (Str × Str × Arguments × FuncBody × Scope × Addr × List Str × Addr)
def supObs (K : PySem.W.Frag) (x : Str) : FnS := match K.lookup (iA K x) with
  | some ⟨_, _, .func fd, _⟩ => some (fd.name, fd.qualname, fd.params, fd.body, fd.scope, fd.globals, fd.closure.map (·.1), fd.builtins)
  | _ => none
structure SupD where
  cls : Str
  qual : Str
  st : Stmt
def SupD.val (d : SupD) : FnS := some ("__init__", d.qual, defArgs d.st, .stmts (defBody d.st), defScope d.st, mainGlobals, ["__class__"], builtinsNs)
def cellB (K : PySem.W.Frag) (D : Addr) : List (Str × Addr) → Bool
  | [(_, cc)] => (match K.lookup cc with
    | some ⟨_, _, .cell (some (.ref D')), _⟩ => decide (D' = D)
    | _ => false)
  | _ => false
def codeB (file : Str) (K : PySem.W.Frag) (qual : Str) : Value → Bool
  | .ref cda => PySem.W.codeIn K (.ref cda) qual && (match K.lookup cda with
    | some ⟨_, _, .fields vs, _⟩ => (match (vs[2]? : Option Value) with
      | some (.str z _) => file == z
      | _ => false)
    | _ => false)
  | _ => false
def noneB : Value → Bool
  | .none => true
  | _ => false
def supB (file : Str) (K : PySem.W.Frag) (d : SupD) : Bool := PySem.W.keepIn K (.ref (iA K d.cls)) && (match K.lookup (iA K d.cls) with
  | some ⟨_, _, .func fd, _⟩ => noneB fd.defaults && (codeB file K d.qual fd.code && cellB K (He.ga K d.cls) fd.closure)
  | _ => false)
theorem supB_ok {P : Program} {K : PySem.W.Frag} {d : SupD} (e : supObs K d.cls = d.val) (h : supB P.main.file K d = true) : ∃ fd, SupFn K P "__init__" d.qual (defArgs d.st) (defBody d.st) (defScope d.st) (iA K d.cls) (He.ga K d.cls) fd := by
  obtain ⟨kp, c2⟩ := He.ba h
  unfold supObs at e
  cases q : K.lookup (iA K d.cls) with
  | none =>
    rw [q] at c2
    cases c2
  | some o =>
    obtain ⟨oc, od, dt, osl⟩ := o
    rw [q] at c2 e
    cases dt with
    | func fd =>
      obtain ⟨n1, n2, n3, n4, n5, n6, n7, n8, n9, n10, n11, n12, n13, n14, n15⟩ := fd
      have e2 : (some (n1, n2, n3, n4, n5, n6, n7.map (·.1), n15) : FnS) = some (("__init__" : Str), d.qual, defArgs d.st, FuncBody.stmts (defBody d.st), defScope d.st, mainGlobals, [("__class__" : Str)], builtinsNs) := e
      simp only [Option.some.injEq, Prod.mk.injEq] at e2
      obtain ⟨h1, h2, h3, h4, h5, h6, h7, h8⟩ := e2
      subst h1 h2 h3 h4 h5 h6 h8
      have c3 : (noneB n8 && (codeB P.main.file K d.qual n13 && cellB K (He.ga K d.cls) n7)) = true := c2
      obtain ⟨k1, k2⟩ := He.ba c3
      obtain ⟨k3, k4⟩ := He.ba k2
      cases n8 with
      | none =>
        cases n13 with
        | ref cda =>
          obtain ⟨g1, g2⟩ := He.ba (show (PySem.W.codeIn K (.ref cda) d.qual && (match K.lookup cda with
            | some ⟨_, _, .fields vs, _⟩ => (match (vs[2]? : Option Value) with
              | some (.str z _) => (P.main.file : Str) == z
              | _ => false)
            | _ => false)) = true from k3)
          match n7, h7, k4 with
          | [(y, cc)], h7, k4 =>
            have ey : y = ("__class__" : Str) := by simpa using h7
            subst ey
            have k5 : (match K.lookup cc with
              | some ⟨_, _, .cell (some (.ref D')), _⟩ => decide (D' = He.ga K d.cls)
              | _ => false) = true := k4
            split at k5
            · rename_i cl cld D' csl hc
              split at g2
              · rename_i ccl cdd vs ccs hcd
                split at g2
                · rename_i z tz hz
                  have eD := of_decide_eq_true k5
                  subst eD
                  exact ⟨_, ⟨oc, od, n9, n10, n11, n14, n12, osl, cda, cc, ccl, cdd, vs, ccs, cl, cld, csl, z, tz, rfl, q, g1, hcd, hz, g2, hc⟩, kp⟩
                · cases g2
              · cases g2
            · cases k5
        | _ => cases k3
      | _ => cases k1
    | _ => cases c2
theorem SupFn.binds {K : PySem.W.Frag} {P : Program} {name qual : Str} {params : Arguments} {body : List Stmt} {scope : Scope} {f D : Addr} {fd : FuncData} {ps : List Str} (F : SupFn K P name qual params body scope f D fd)
    (h : ∀ (kV doc pm ct : Value) (an : Option Addr) (cda cc : Addr) (us : List Value), us.length = ps.length → bindArgs (PySem.W.ksFn name qual params body scope .none kV doc pm an (.ref cda) ct cc) ⟨us, []⟩ = pure (ps.zip us)) : Binds K fd ps [] := by
  obtain ⟨oc, od, kV, doc, pm, ct, an, osl, cda, cc, _, _, _, _, _, _, _, _, _, rfl, _⟩ := F.ex
  exact .all (h kV doc pm ct an cda cc)
theorem SupFn.kw {K : PySem.W.Frag} {P : Program} {name qual : Str} {params : Arguments} {body : List Stmt} {scope : Scope} {f D : Addr} {fd : FuncData} {ps ks : List Str} {g : List Value → List Value} {gV : List V → List V} (F : SupFn K P name qual params body scope f D fd)
    (hr : ∀ {zs : List V} {ws : List Value}, Vals zs ws → Vals (gV zs) (g ws))
    (h : ∀ (kV doc pm ct : Value) (an : Option Addr) (cda cc : Addr) (v : Value) (ws : List Value), (v :: g ws).length = ps.length → bindArgs (PySem.W.ksFn name qual params body scope .none kV doc pm an (.ref cda) ct cc) ⟨[v], ks.zip ws⟩ = pure (ps.zip (v :: g ws))) : KwB K fd ps ks g gV := by
  obtain ⟨oc, od, kV, doc, pm, ct, an, osl, cda, cc, _, _, _, _, _, _, _, _, _, rfl, _⟩ := F.ex
  exact ⟨fun s v ws _ hl => .of_eq (h kV doc pm ct an cda cc v ws hl), hr⟩
/-! ### the Hook: He's facts and defs, such __init__s, a test of one's own -/
abbrev AlS : Type := He.AlD × (Bool × List FnS)
def frS (g : Addr → Option Obj) (n : Nat) : PySem.W.Frag := He.frG g (cStatics :: He.asD g n)
def obsS (file : Str) (fa : List He.Fa) (fn : List He.DefD) (sf : List SupD) (ex : PySem.W.Frag → Bool) (K : PySem.W.Frag) : AlS := (He.obsD fa fn K, (sf.all (supB file K) && ex K, sf.map fun d => supObs K d.cls))
def valS (fn : List He.DefD) (sf : List SupD) : AlS := (He.valD fn, (true, sf.map SupD.val))
structure SaysS (file : Str) (fa : List He.Fa) (fn : List He.DefD) (sf : List SupD) (ex : PySem.W.Frag → Bool) (K : PySem.W.Frag) : Prop where
  d : He.SaysD fa fn K
  sup : ∀ d ∈ sf, supObs K d.cls = d.val ∧ supB file K d = true
  more : ex K = true
theorem saysS_of {file : Str} {fa : List He.Fa} {fn : List He.DefD} {sf : List SupD} {ex : PySem.W.Frag → Bool} {K : PySem.W.Frag} (e : obsS file fa fn sf ex K = valS fn sf) : SaysS file fa fn sf ex K := by
  have e1 : He.obsD fa fn K = He.valD fn := congrArg (fun z : AlS => z.1) e
  have e2 : (sf.all (supB file K) && ex K) = true := congrArg (fun z : AlS => z.2.1) e
  have e3 : sf.map (fun d => supObs K d.cls) = sf.map SupD.val := congrArg (fun z : AlS => z.2.2) e
  obtain ⟨h1, h2⟩ := He.ba e2
  refine ⟨e1, fun d hd => ⟨?_, List.all_eq_true.mp h1 d hd⟩, h2⟩
  obtain ⟨i, hi, ed⟩ := List.mem_iff_getElem.mp hd
  have e4 : (sf.map fun d => supObs K d.cls)[i]? = (sf.map SupD.val)[i]? := by rw [e3]
  rw [List.getElem?_map, List.getElem?_map, List.getElem?_eq_getElem hi, ed] at e4
  exact Option.some.inj e4
def hookS (n : Nat) (file : Str) (fa : List He.Fa) (fn : List He.DefD) (sf : List SupD) (ex : PySem.W.Frag → Bool) : PySem.W.Hook where
  α := AlS
  obs := fun s => obsS file fa fn sf ex (frS s.heap.get? n)
  val := fun _ => valS fn sf
  says := fun _ h => ∃ K : PySem.W.Frag, K.In h ∧ SaysS file fa fn sf ex K
  of := fun _ _ e => ⟨_, He.frG_in, saysS_of e⟩
  keeps := fun _ _ _ ⟨K, hK, c⟩ k => ⟨K, PySem.W.Frag.In.keeps hK k, c⟩
def obsSG (n : Nat) (file : Str) (fa : List He.Fa) (fn : List He.DefD) (sf : List SupD) (ex : PySem.W.Frag → Bool) (g : Addr → Option Obj) : AlS := obsS file fa fn sf ex (frS g n)
theorem obsSG_eq {n : Nat} {file : Str} {fa : List He.Fa} {fn : List He.DefD} {sf : List SupD} {ex : PySem.W.Frag → Bool} {g : Addr → Option Obj} {s : Shared} (h : ∀ a, g a = s.heap.get? a) : obsSG n file fa fn sf ex g = (hookS n file fa fn sf ex).obs s := by
  have e : g = s.heap.get? := funext h
  rw [e] <;> rfl
end HB

set_option Elab.async false
set_option linter.all false
set_option maxRecDepth 100000
set_option maxHeartbeats 0
namespace HB
open PySem PySem.Spec PyProof.Rows L2

abbrev i_BadPart : Stmt := clsDef (top 3) 0
abbrev i_BadPile : Stmt := clsDef (top 18) 0
abbrev i_BadText : Stmt := clsDef (top 21) 0
abbrev i_BadUse : Stmt := clsDef (top 7) 0
abbrev i_BadWish : Stmt := clsDef (top 11) 0
abbrev i_NoAnswer : Stmt := clsDef (top 10) 0
abbrev i_NoFit : Stmt := clsDef (top 20) 0
abbrev i_NoPath : Stmt := clsDef (top 4) 0
abbrev i_NoRule : Stmt := clsDef (top 19) 0
abbrev i_NoSave : Stmt := clsDef (top 12) 0
abbrev i_NoSquare : Stmt := clsDef (top 13) 0
abbrev i_NotName : Stmt := clsDef (top 5) 0
abbrev i_NotNumber : Stmt := clsDef (top 6) 0
abbrev i_NotTruth : Stmt := clsDef (top 14) 0
abbrev i_NoWay : Stmt := clsDef (top 16) 0
abbrev i_Over : Stmt := clsDef (top 8) 0
abbrev i_Uncaught : Stmt := clsDef (top 9) 0
abbrev i_Uneven : Stmt := clsDef (top 17) 0
abbrev i_UnlikeTables : Stmt := clsDef (top 15) 0
section
variable {P : Program} {w : World} {K : PySem.W.Frag} {mg : Str → Option Value} {base : Heap} {f C fC : Addr} {fd fdC : FuncData}
theorem ss_BadPart : SupScope ["self", "path"] ["self", "path"] (defScope i_BadPart) := ⟨rfl, rfl, rfl, by decide, rfl, by decide +kernel, by decide +kernel, by decide +kernel, rfl, rfl⟩
theorem in_BadPart (F : SupFn K P "__init__" "BadPart.__init__" (defArgs i_BadPart) (defBody i_BadPart) (defScope i_BadPart) f C fd) (Z : ExcK K C) (hs : mg "super" = none) (htop : (P.main.scope.names.lookup ("super" : Str)).isSome = false) (hno : PySem.W.findIn K (.ref C) "path" = some none) (T : TC K mg fC) (b : Binds K fdC ["thing"] []) (G : FnOk P w K mg base CX0 7 fC fdC ["thing"] (spC 7)) : FnOk P w K mg base CX0 8 f fd ["self", "path"] (spI1 C "path" 6) :=
  ok_init1 (k := 7) F (fun env => ⟨_, rfl⟩) Z ⟨ss_BadPart, rfl, rfl, by decide, by decide⟩ hs htop rfl rfl hno T b (by decide) G
theorem ss_BadPile : SupScope ["self", "index"] ["self", "index"] (defScope i_BadPile) := ⟨rfl, rfl, rfl, by decide, rfl, by decide +kernel, by decide +kernel, by decide +kernel, rfl, rfl⟩
theorem in_BadPile (F : SupFn K P "__init__" "BadPile.__init__" (defArgs i_BadPile) (defBody i_BadPile) (defScope i_BadPile) f C fd) (Z : ExcK K C) (hs : mg "super" = none) (htop : (P.main.scope.names.lookup ("super" : Str)).isSome = false) (hno : PySem.W.findIn K (.ref C) "index" = some none) (T : TC K mg fC) (b : Binds K fdC ["thing"] []) (G : FnOk P w K mg base CX0 7 fC fdC ["thing"] (spC 7)) : FnOk P w K mg base CX0 8 f fd ["self", "index"] (spI1 C "index" 6) :=
  ok_init1 (k := 7) F (fun env => ⟨_, rfl⟩) Z ⟨ss_BadPile, rfl, rfl, by decide, by decide⟩ hs htop rfl rfl hno T b (by decide) G
theorem ss_BadText : SupScope ["self", "line"] ["self", "line"] (defScope i_BadText) := ⟨rfl, rfl, rfl, by decide, rfl, by decide +kernel, by decide +kernel, by decide +kernel, rfl, rfl⟩
theorem in_BadText (F : SupFn K P "__init__" "BadText.__init__" (defArgs i_BadText) (defBody i_BadText) (defScope i_BadText) f C fd) (Z : ExcK K C) (hs : mg "super" = none) (htop : (P.main.scope.names.lookup ("super" : Str)).isSome = false) (hno : PySem.W.findIn K (.ref C) "line" = some none) (T : TC K mg fC) (b : Binds K fdC ["thing"] []) (G : FnOk P w K mg base CX0 7 fC fdC ["thing"] (spC 7)) : FnOk P w K mg base CX0 8 f fd ["self", "line"] (spI1 C "line" 6) :=
  ok_init1 (k := 7) F (fun env => ⟨_, rfl⟩) Z ⟨ss_BadText, rfl, rfl, by decide, by decide⟩ hs htop rfl rfl hno T b (by decide) G
theorem ss_BadUse : SupScope ["self", "index"] ["self", "index"] (defScope i_BadUse) := ⟨rfl, rfl, rfl, by decide, rfl, by decide +kernel, by decide +kernel, by decide +kernel, rfl, rfl⟩
theorem in_BadUse (F : SupFn K P "__init__" "BadUse.__init__" (defArgs i_BadUse) (defBody i_BadUse) (defScope i_BadUse) f C fd) (Z : ExcK K C) (hs : mg "super" = none) (htop : (P.main.scope.names.lookup ("super" : Str)).isSome = false) (hno : PySem.W.findIn K (.ref C) "index" = some none) (T : TC K mg fC) (b : Binds K fdC ["thing"] []) (G : FnOk P w K mg base CX0 7 fC fdC ["thing"] (spC 7)) : FnOk P w K mg base CX0 8 f fd ["self", "index"] (spI1 C "index" 6) :=
  ok_init1 (k := 7) F (fun env => ⟨_, rfl⟩) Z ⟨ss_BadUse, rfl, rfl, by decide, by decide⟩ hs htop rfl rfl hno T b (by decide) G
theorem ss_BadWish : SupScope ["self"] ["self"] (defScope i_BadWish) := ⟨rfl, rfl, rfl, by decide, rfl, by decide +kernel, by decide +kernel, by decide +kernel, rfl, rfl⟩
theorem in_BadWish (F : SupFn K P "__init__" "BadWish.__init__" (defArgs i_BadWish) (defBody i_BadWish) (defScope i_BadWish) f C fd) (Z : ExcK K C) (hs : mg "super" = none) (htop : (P.main.scope.names.lookup ("super" : Str)).isSome = false) : FnOk P w K mg base CX0 8 f fd ["self"] (spI0 C) :=
  ok_init0 (k := 7) F (fun env => ⟨_, rfl⟩) Z ss_BadWish rfl hs htop rfl rfl
theorem ss_NoAnswer : SupScope ["self"] ["self"] (defScope i_NoAnswer) := ⟨rfl, rfl, rfl, by decide, rfl, by decide +kernel, by decide +kernel, by decide +kernel, rfl, rfl⟩
theorem in_NoAnswer (F : SupFn K P "__init__" "NoAnswer.__init__" (defArgs i_NoAnswer) (defBody i_NoAnswer) (defScope i_NoAnswer) f C fd) (Z : ExcK K C) (hs : mg "super" = none) (htop : (P.main.scope.names.lookup ("super" : Str)).isSome = false) : FnOk P w K mg base CX0 8 f fd ["self"] (spI0 C) :=
  ok_init0 (k := 7) F (fun env => ⟨_, rfl⟩) Z ss_NoAnswer rfl hs htop rfl rfl
theorem ss_NoFit : SupScope ["self", "rule", "path"] ["self", "rule", "path"] (defScope i_NoFit) := ⟨rfl, rfl, rfl, by decide, rfl, by decide +kernel, by decide +kernel, by decide +kernel, rfl, rfl⟩
theorem in_NoFit (F : SupFn K P "__init__" "NoFit.__init__" (defArgs i_NoFit) (defBody i_NoFit) (defScope i_NoFit) f C fd) (Z : ExcK K C) (hs : mg "super" = none) (htop : (P.main.scope.names.lookup ("super" : Str)).isSome = false) (hno : PySem.W.findIn K (.ref C) "rule" = some none) (hno2 : PySem.W.findIn K (.ref C) "path" = some none) (T : TC K mg fC) (b : Binds K fdC ["thing"] []) (G : FnOk P w K mg base CX0 7 fC fdC ["thing"] (spC 7)) : FnOk P w K mg base CX0 8 f fd ["self", "rule", "path"] (spI2 C "rule" "path" 6) :=
  ok_init2 (k := 7) F (fun env => ⟨_, rfl⟩) Z ss_NoFit rfl rfl (by decide) (by decide) (by decide) (by decide) hs htop rfl rfl hno hno2 T b (by decide) G
theorem ss_NoPath : SupScope ["self", "path"] ["self", "path"] (defScope i_NoPath) := ⟨rfl, rfl, rfl, by decide, rfl, by decide +kernel, by decide +kernel, by decide +kernel, rfl, rfl⟩
theorem in_NoPath (F : SupFn K P "__init__" "NoPath.__init__" (defArgs i_NoPath) (defBody i_NoPath) (defScope i_NoPath) f C fd) (Z : ExcK K C) (hs : mg "super" = none) (htop : (P.main.scope.names.lookup ("super" : Str)).isSome = false) (hno : PySem.W.findIn K (.ref C) "path" = some none) (T : TC K mg fC) (b : Binds K fdC ["thing"] []) (G : FnOk P w K mg base CX0 7 fC fdC ["thing"] (spC 7)) : FnOk P w K mg base CX0 8 f fd ["self", "path"] (spI1 C "path" 6) :=
  ok_init1 (k := 7) F (fun env => ⟨_, rfl⟩) Z ⟨ss_NoPath, rfl, rfl, by decide, by decide⟩ hs htop rfl rfl hno T b (by decide) G
theorem ss_NoRule : SupScope ["self", "rule"] ["self", "rule"] (defScope i_NoRule) := ⟨rfl, rfl, rfl, by decide, rfl, by decide +kernel, by decide +kernel, by decide +kernel, rfl, rfl⟩
theorem in_NoRule (F : SupFn K P "__init__" "NoRule.__init__" (defArgs i_NoRule) (defBody i_NoRule) (defScope i_NoRule) f C fd) (Z : ExcK K C) (hs : mg "super" = none) (htop : (P.main.scope.names.lookup ("super" : Str)).isSome = false) (hno : PySem.W.findIn K (.ref C) "rule" = some none) (T : TC K mg fC) (b : Binds K fdC ["thing"] []) (G : FnOk P w K mg base CX0 7 fC fdC ["thing"] (spC 7)) : FnOk P w K mg base CX0 8 f fd ["self", "rule"] (spI1 C "rule" 6) :=
  ok_init1 (k := 7) F (fun env => ⟨_, rfl⟩) Z ⟨ss_NoRule, rfl, rfl, by decide, by decide⟩ hs htop rfl rfl hno T b (by decide) G
theorem ss_NoSave : SupScope ["self", "save"] ["self", "save"] (defScope i_NoSave) := ⟨rfl, rfl, rfl, by decide, rfl, by decide +kernel, by decide +kernel, by decide +kernel, rfl, rfl⟩
theorem in_NoSave (F : SupFn K P "__init__" "NoSave.__init__" (defArgs i_NoSave) (defBody i_NoSave) (defScope i_NoSave) f C fd) (Z : ExcK K C) (hs : mg "super" = none) (htop : (P.main.scope.names.lookup ("super" : Str)).isSome = false) (hno : PySem.W.findIn K (.ref C) "save" = some none) (T : TC K mg fC) (b : Binds K fdC ["thing"] []) (G : FnOk P w K mg base CX0 7 fC fdC ["thing"] (spC 7)) : FnOk P w K mg base CX0 8 f fd ["self", "save"] (spI1 C "save" 6) :=
  ok_init1 (k := 7) F (fun env => ⟨_, rfl⟩) Z ⟨ss_NoSave, rfl, rfl, by decide, by decide⟩ hs htop rfl rfl hno T b (by decide) G
theorem ss_NoSquare : SupScope ["self", "square"] ["self", "square"] (defScope i_NoSquare) := ⟨rfl, rfl, rfl, by decide, rfl, by decide +kernel, by decide +kernel, by decide +kernel, rfl, rfl⟩
theorem in_NoSquare (F : SupFn K P "__init__" "NoSquare.__init__" (defArgs i_NoSquare) (defBody i_NoSquare) (defScope i_NoSquare) f C fd) (Z : ExcK K C) (hs : mg "super" = none) (htop : (P.main.scope.names.lookup ("super" : Str)).isSome = false) (hno : PySem.W.findIn K (.ref C) "square" = some none) (T : TC K mg fC) (b : Binds K fdC ["thing"] []) (G : FnOk P w K mg base CX0 7 fC fdC ["thing"] (spC 7)) : FnOk P w K mg base CX0 8 f fd ["self", "square"] (spI1 C "square" 6) :=
  ok_init1 (k := 7) F (fun env => ⟨_, rfl⟩) Z ⟨ss_NoSquare, rfl, rfl, by decide, by decide⟩ hs htop rfl rfl hno T b (by decide) G
theorem ss_NotName : SupScope ["self", "key"] ["self", "key"] (defScope i_NotName) := ⟨rfl, rfl, rfl, by decide, rfl, by decide +kernel, by decide +kernel, by decide +kernel, rfl, rfl⟩
theorem in_NotName (F : SupFn K P "__init__" "NotName.__init__" (defArgs i_NotName) (defBody i_NotName) (defScope i_NotName) f C fd) (Z : ExcK K C) (hs : mg "super" = none) (htop : (P.main.scope.names.lookup ("super" : Str)).isSome = false) (hno : PySem.W.findIn K (.ref C) "key" = some none) (T : TC K mg fC) (b : Binds K fdC ["thing"] []) (G : FnOk P w K mg base CX0 7 fC fdC ["thing"] (spC 7)) : FnOk P w K mg base CX0 8 f fd ["self", "key"] (spI1 C "key" 6) :=
  ok_init1 (k := 7) F (fun env => ⟨_, rfl⟩) Z ⟨ss_NotName, rfl, rfl, by decide, by decide⟩ hs htop rfl rfl hno T b (by decide) G
theorem ss_NotNumber : SupScope ["self", "value"] ["self", "value"] (defScope i_NotNumber) := ⟨rfl, rfl, rfl, by decide, rfl, by decide +kernel, by decide +kernel, by decide +kernel, rfl, rfl⟩
theorem in_NotNumber (F : SupFn K P "__init__" "NotNumber.__init__" (defArgs i_NotNumber) (defBody i_NotNumber) (defScope i_NotNumber) f C fd) (Z : ExcK K C) (hs : mg "super" = none) (htop : (P.main.scope.names.lookup ("super" : Str)).isSome = false) (hno : PySem.W.findIn K (.ref C) "value" = some none) (T : TC K mg fC) (b : Binds K fdC ["thing"] []) (G : FnOk P w K mg base CX0 7 fC fdC ["thing"] (spC 7)) : FnOk P w K mg base CX0 8 f fd ["self", "value"] (spI1 C "value" 6) :=
  ok_init1 (k := 7) F (fun env => ⟨_, rfl⟩) Z ⟨ss_NotNumber, rfl, rfl, by decide, by decide⟩ hs htop rfl rfl hno T b (by decide) G
theorem ss_NotTruth : SupScope ["self", "value"] ["self", "value"] (defScope i_NotTruth) := ⟨rfl, rfl, rfl, by decide, rfl, by decide +kernel, by decide +kernel, by decide +kernel, rfl, rfl⟩
theorem in_NotTruth (F : SupFn K P "__init__" "NotTruth.__init__" (defArgs i_NotTruth) (defBody i_NotTruth) (defScope i_NotTruth) f C fd) (Z : ExcK K C) (hs : mg "super" = none) (htop : (P.main.scope.names.lookup ("super" : Str)).isSome = false) (hno : PySem.W.findIn K (.ref C) "value" = some none) (T : TC K mg fC) (b : Binds K fdC ["thing"] []) (G : FnOk P w K mg base CX0 7 fC fdC ["thing"] (spC 7)) : FnOk P w K mg base CX0 8 f fd ["self", "value"] (spI1 C "value" 6) :=
  ok_init1 (k := 7) F (fun env => ⟨_, rfl⟩) Z ⟨ss_NotTruth, rfl, rfl, by decide, by decide⟩ hs htop rfl rfl hno T b (by decide) G
theorem ss_NoWay : SupScope ["self", "way"] ["self", "way"] (defScope i_NoWay) := ⟨rfl, rfl, rfl, by decide, rfl, by decide +kernel, by decide +kernel, by decide +kernel, rfl, rfl⟩
theorem in_NoWay (F : SupFn K P "__init__" "NoWay.__init__" (defArgs i_NoWay) (defBody i_NoWay) (defScope i_NoWay) f C fd) (Z : ExcK K C) (hs : mg "super" = none) (htop : (P.main.scope.names.lookup ("super" : Str)).isSome = false) (hno : PySem.W.findIn K (.ref C) "way" = some none) (T : TC K mg fC) (b : Binds K fdC ["thing"] []) (G : FnOk P w K mg base CX0 7 fC fdC ["thing"] (spC 7)) : FnOk P w K mg base CX0 8 f fd ["self", "way"] (spI1 C "way" 6) :=
  ok_init1 (k := 7) F (fun env => ⟨_, rfl⟩) Z ⟨ss_NoWay, rfl, rfl, by decide, by decide⟩ hs htop rfl rfl hno T b (by decide) G
theorem ss_Over : SupScope ["self"] ["self"] (defScope i_Over) := ⟨rfl, rfl, rfl, by decide, rfl, by decide +kernel, by decide +kernel, by decide +kernel, rfl, rfl⟩
theorem in_Over (F : SupFn K P "__init__" "Over.__init__" (defArgs i_Over) (defBody i_Over) (defScope i_Over) f C fd) (Z : ExcK K C) (hs : mg "super" = none) (htop : (P.main.scope.names.lookup ("super" : Str)).isSome = false) : FnOk P w K mg base CX0 8 f fd ["self"] (spI0 C) :=
  ok_init0 (k := 7) F (fun env => ⟨_, rfl⟩) Z ss_Over rfl hs htop rfl rfl
theorem ss_Uncaught : SupScope ["self", "word"] ["self", "word"] (defScope i_Uncaught) := ⟨rfl, rfl, rfl, by decide, rfl, by decide +kernel, by decide +kernel, by decide +kernel, rfl, rfl⟩
theorem in_Uncaught (F : SupFn K P "__init__" "Uncaught.__init__" (defArgs i_Uncaught) (defBody i_Uncaught) (defScope i_Uncaught) f C fd) (Z : ExcK K C) (hs : mg "super" = none) (htop : (P.main.scope.names.lookup ("super" : Str)).isSome = false) (hno : PySem.W.findIn K (.ref C) "word" = some none) (T : TC K mg fC) (b : Binds K fdC ["thing"] []) (G : FnOk P w K mg base CX0 7 fC fdC ["thing"] (spC 7)) : FnOk P w K mg base CX0 8 f fd ["self", "word"] (spI1 C "word" 6) :=
  ok_init1 (k := 7) F (fun env => ⟨_, rfl⟩) Z ⟨ss_Uncaught, rfl, rfl, by decide, by decide⟩ hs htop rfl rfl hno T b (by decide) G
theorem ss_Uneven : SupScope ["self", "way"] ["self", "way"] (defScope i_Uneven) := ⟨rfl, rfl, rfl, by decide, rfl, by decide +kernel, by decide +kernel, by decide +kernel, rfl, rfl⟩
theorem in_Uneven (F : SupFn K P "__init__" "Uneven.__init__" (defArgs i_Uneven) (defBody i_Uneven) (defScope i_Uneven) f C fd) (Z : ExcK K C) (hs : mg "super" = none) (htop : (P.main.scope.names.lookup ("super" : Str)).isSome = false) (hno : PySem.W.findIn K (.ref C) "way" = some none) (T : TC K mg fC) (b : Binds K fdC ["thing"] []) (G : FnOk P w K mg base CX0 7 fC fdC ["thing"] (spC 7)) : FnOk P w K mg base CX0 8 f fd ["self", "way"] (spI1 C "way" 6) :=
  ok_init1 (k := 7) F (fun env => ⟨_, rfl⟩) Z ⟨ss_Uneven, rfl, rfl, by decide, by decide⟩ hs htop rfl rfl hno T b (by decide) G
theorem ss_UnlikeTables : SupScope ["self"] ["self"] (defScope i_UnlikeTables) := ⟨rfl, rfl, rfl, by decide, rfl, by decide +kernel, by decide +kernel, by decide +kernel, rfl, rfl⟩
theorem in_UnlikeTables (F : SupFn K P "__init__" "UnlikeTables.__init__" (defArgs i_UnlikeTables) (defBody i_UnlikeTables) (defScope i_UnlikeTables) f C fd) (Z : ExcK K C) (hs : mg "super" = none) (htop : (P.main.scope.names.lookup ("super" : Str)).isSome = false) : FnOk P w K mg base CX0 8 f fd ["self"] (spI0 C) :=
  ok_init0 (k := 7) F (fun env => ⟨_, rfl⟩) Z ss_UnlikeTables rfl hs htop rfl rfl
end
end HB

set_option Elab.async false
set_option linter.all false
set_option maxRecDepth 100000
set_option maxHeartbeats 0
namespace HB
open PySem PySem.Spec PyProof.Rows L2
abbrev xsL : List Str := ["BadPart", "BadPile", "BadText", "BadUse", "BadWish", "NoAnswer", "NoFit", "NoPath", "NoRule", "NoSave", "NoSquare", "NotName", "NotNumber", "NotTruth", "NoWay", "Over", "Uncaught", "Uneven", "UnlikeTables"]
def dD (x : Str) (i : Nat) : He.DefD := ⟨(x, none), x, x, defArgs (top i), defBody (top i), defScope (top i), [], []⟩
def fn : List He.DefD := [dD "copied" 1, dD "_law_draw" 23, dD "_law_start" 24, dD "_law_spoil" 25, dD "_law_kinds" 26, dD "_law_thing" 27, dD "_law_tupled_all" 28, dD "_law_by_place" 29, dD "_law_by_name" 30, dD "_law_all_errors" 31, dD "law" 32]
def sf : List SupD := [⟨"BadPart", "BadPart.__init__", i_BadPart⟩, ⟨"BadPile", "BadPile.__init__", i_BadPile⟩, ⟨"BadText", "BadText.__init__", i_BadText⟩, ⟨"BadUse", "BadUse.__init__", i_BadUse⟩, ⟨"BadWish", "BadWish.__init__", i_BadWish⟩, ⟨"NoAnswer", "NoAnswer.__init__", i_NoAnswer⟩, ⟨"NoFit", "NoFit.__init__", i_NoFit⟩, ⟨"NoPath", "NoPath.__init__", i_NoPath⟩, ⟨"NoRule", "NoRule.__init__", i_NoRule⟩, ⟨"NoSave", "NoSave.__init__", i_NoSave⟩, ⟨"NoSquare", "NoSquare.__init__", i_NoSquare⟩, ⟨"NotName", "NotName.__init__", i_NotName⟩, ⟨"NotNumber", "NotNumber.__init__", i_NotNumber⟩, ⟨"NotTruth", "NotTruth.__init__", i_NotTruth⟩, ⟨"NoWay", "NoWay.__init__", i_NoWay⟩, ⟨"Over", "Over.__init__", i_Over⟩, ⟨"Uncaught", "Uncaught.__init__", i_Uncaught⟩, ⟨"Uneven", "Uneven.__init__", i_Uneven⟩, ⟨"UnlikeTables", "UnlikeTables.__init__", i_UnlikeTables⟩]
def fa : List He.Fa := [.glo "copied", .glo "_law_draw", .glo "_law_start", .glo "_law_spoil", .glo "_law_kinds", .glo "_law_thing", .glo "_law_tupled_all", .glo "_law_by_place", .glo "_law_by_name", .glo "_law_all_errors", .glo "law", .glo "BadPart", .glo "BadPile", .glo "BadText", .glo "BadUse", .glo "BadWish", .glo "NoAnswer", .glo "NoFit", .glo "NoPath", .glo "NoRule", .glo "NoSave", .glo "NoSquare", .glo "NotName", .glo "NotNumber", .glo "NotTruth", .glo "NoWay", .glo "Over", .glo "Uncaught", .glo "Uneven", .glo "UnlikeTables", .glo "HeldError", .free "isinstance", .free "dict", .free "list", .free "tuple", .free "int", .free "range", .free "enumerate", .free "ValueError", .free "super", .noat "BadPart" "path", .noat "BadPile" "index", .noat "BadText" "line", .noat "BadUse" "index", .noat "NoPath" "path", .noat "NoRule" "rule", .noat "NoSave" "save", .noat "NoSquare" "square", .noat "NotName" "key", .noat "NotNumber" "value", .noat "NotTruth" "value", .noat "NoWay" "way", .noat "Uncaught" "word", .noat "Uneven" "way", .noat "NoFit" "rule", .noat "NoFit" "path"]
abbrev cA (K : PySem.W.Frag) (i : Nat) : Addr := He.ga K (xsL.getD i "")
abbrev fA (K : PySem.W.Frag) (i : Nat) : Addr := iA K (xsL.getD i "")
def ex1 (K : PySem.W.Frag) (i : Nat) : Bool := exkB K (cA K i) && (exfB K (cA K i) && (He.eqO (PySem.W.findIn K (.ref (cA K i)) "__init__") (some (some (.ref (fA K i)))) && (decide (PySem.W.typeIn K (.ref (fA K i)) = some (.type "function")) && (decide (PySem.W.kitOne K (.ref (cA K i)) (.ref (He.ga K "HeldError")) = some true) &&
  (decide (PySem.W.kitOne K (.ref (cA K i)) (.type "ValueError") = some true) && (List.range 19).all fun j => decide (PySem.W.kitOne K (.ref (cA K i)) (.ref (cA K j)) = some (decide (j = i))))))))
def exA (K : PySem.W.Frag) : Bool := (List.range 19).all (ex1 K)
abbrev rowR : PySem.W.OpenRow := PySem.W.OpenLaw.row PySem.Challenge.rw_heldback_k61_errors_made
abbrev fileR : Str := PySem.Challenge.pw_heldback_k61_errors_made.main.file
abbrev hk : PySem.W.Hook := hookS 5 fileR fa fn sf exA
def ob (s : PySem.W.SharedT) : AlS := obsSG 5 fileR fa fn sf exA (HandSHeadRun.getT s)
theorem ob_eq (s : PySem.W.SharedT) : ob s = hk.obs s.abs := obsSG_eq (HandSHeadRun.getT_eq s)
structure Ex1 (K : PySem.W.Frag) (i : Nat) : Prop where
  k : ExcK K (cA K i)
  f : ExcF K (cA K i)
  ini : PySem.W.findIn K (.ref (cA K i)) "__init__" = some (some (.ref (fA K i)))
  t : PySem.W.typeIn K (.ref (fA K i)) = some (.type "function")
  h : PySem.W.kitOne K (.ref (cA K i)) (.ref (He.ga K "HeldError")) = some true
  v : PySem.W.kitOne K (.ref (cA K i)) (.type "ValueError") = some true
  q : ∀ j, j < 19 → PySem.W.kitOne K (.ref (cA K i)) (.ref (cA K j)) = some (decide (j = i))
theorem ex1_ok {K : PySem.W.Frag} {i : Nat} (h : ex1 K i = true) : Ex1 K i := by
  obtain ⟨h0, h⟩ := He.ba h
  obtain ⟨h1, h⟩ := He.ba h
  obtain ⟨h2, h⟩ := He.ba h
  obtain ⟨h3, h⟩ := He.ba h
  obtain ⟨h4, h⟩ := He.ba h
  obtain ⟨h5, h6⟩ := He.ba h
  exact ⟨exkB_ok h0, exfB_ok h1, He.eqO_ok h2, of_decide_eq_true h3, of_decide_eq_true h4, of_decide_eq_true h5, fun j hj => of_decide_eq_true (List.all_eq_true.mp h6 j (List.mem_range.mpr hj))⟩

theorem swV_ok : ∀ {zs : List V} {ws : List Value}, Vals zs ws → Vals (swV zs) (swV ws)
  | _, _, .nil => .nil
  | _, _, .cons h .nil => .cons h .nil
  | _, _, .cons h (.cons k .nil) => .cons k (.cons h .nil)
  | _, _, .cons h (.cons k (.cons l t)) => .cons h (.cons k (.cons l t))
theorem facts {w : World} {K : PySem.W.Frag} {h : Heap} {mg : Str → Option Value} {f : Addr} (X : K.In h) (G : h.Ns mainGlobals mg) (hfa : mg ("law" : Str) = some (.ref f)) (c : SaysS fileR fa fn sf exA K) :
    ∃ fd : FuncData, (∀ (s : Shared) (v : Value), BindsTo s fd ⟨[v], []⟩ [("_law_script", v)]) ∧ ∀ base : Heap, K.In base → base.Ns mainGlobals mg → FnOk PySem.Challenge.pw_heldback_k61_errors_made w K mg base CX0 11 f fd ["_law_script"] (spLaw K) := by
  obtain ⟨d0, D0⟩ := c.d.def_ 0 (d := dD "copied" 1) rfl
  have B0 : Binds K d0 ["thing"] [] := D0.bindsN fun _ _ _ _ _ _ us hl => match us, hl with | [_], _ => rfl
  obtain ⟨d1, D1⟩ := c.d.def_ 1 (d := dD "_law_draw" 23) rfl
  have B1 : Binds K d1 ["_law_stream", "_law_many"] [] := D1.bindsN fun _ _ _ _ _ _ us hl => match us, hl with | [_, _], _ => rfl
  obtain ⟨d2, D2⟩ := c.d.def_ 2 (d := dD "_law_start" 24) rfl
  have B2 : Binds K d2 ["_law_script"] [] := D2.bindsN fun _ _ _ _ _ _ us hl => match us, hl with | [_], _ => rfl
  obtain ⟨d3, D3⟩ := c.d.def_ 3 (d := dD "_law_spoil" 25) rfl
  have B3 : Binds K d3 ["_law_thing_here"] [] := D3.bindsN fun _ _ _ _ _ _ us hl => match us, hl with | [_], _ => rfl
  obtain ⟨d4, D4⟩ := c.d.def_ 4 (d := dD "_law_kinds" 26) rfl
  have B4 : Binds K d4 ["_law_e"] [] := D4.bindsN fun _ _ _ _ _ _ us hl => match us, hl with | [_], _ => rfl
  obtain ⟨d5, D5⟩ := c.d.def_ 5 (d := dD "_law_thing" 27) rfl
  have B5 : Binds K d5 ["_law_stream", "_law_deep"] [] := D5.bindsN fun _ _ _ _ _ _ us hl => match us, hl with | [_, _], _ => rfl
  obtain ⟨d6, D6⟩ := c.d.def_ 6 (d := dD "_law_tupled_all" 28) rfl
  have B6 : Binds K d6 ["_law_thing_here"] [] := D6.bindsN fun _ _ _ _ _ _ us hl => match us, hl with | [_], _ => rfl
  obtain ⟨d7, D7⟩ := c.d.def_ 7 (d := dD "_law_by_place" 29) rfl
  have B7 : Binds K d7 ["_law_one", "_law_other"] [] := D7.bindsN fun _ _ _ _ _ _ us hl => match us, hl with | [_, _], _ => rfl
  obtain ⟨d8, D8⟩ := c.d.def_ 8 (d := dD "_law_by_name" 30) rfl
  have B8 : Binds K d8 ["_law_one"] [] := D8.bindsN fun _ _ _ _ _ _ us hl => match us, hl with | [_], _ => rfl
  obtain ⟨d9, D9⟩ := c.d.def_ 9 (d := dD "_law_all_errors" 31) rfl
  have B9 : Binds K d9 ["_law_one", "_law_other"] [] := D9.bindsN fun _ _ _ _ _ _ us hl => match us, hl with | [_, _], _ => rfl
  obtain ⟨d10, D10⟩ := c.d.def_ 10 (d := dD "law" 32) rfl
  have e := hfa.symm.trans (He.glo_ok X G (c.d.fact 10 (f := .glo "law") rfl))
  cases e
  have b := FunD.bindsA (ps := ["_law_script"]) D10 fun _ _ _ _ _ _ us hl => match us, hl with | [_], _ => rfl
  have hex : ∀ i, i < 19 → Ex1 K i := fun i hi => ex1_ok (List.all_eq_true.mp c.more i (List.mem_range.mpr hi))
  obtain ⟨e0, E0⟩ : ∃ fd, SupFn K PySem.Challenge.pw_heldback_k61_errors_made "__init__" "BadPart.__init__" (defArgs i_BadPart) (defBody i_BadPart) (defScope i_BadPart) (iA K "BadPart") (He.ga K "BadPart") fd := by
    have z := c.sup ⟨"BadPart", "BadPart.__init__", i_BadPart⟩ (List.mem_of_getElem? (i := 0) rfl)
    exact supB_ok z.1 z.2
  obtain ⟨e1, E1⟩ : ∃ fd, SupFn K PySem.Challenge.pw_heldback_k61_errors_made "__init__" "BadPile.__init__" (defArgs i_BadPile) (defBody i_BadPile) (defScope i_BadPile) (iA K "BadPile") (He.ga K "BadPile") fd := by
    have z := c.sup ⟨"BadPile", "BadPile.__init__", i_BadPile⟩ (List.mem_of_getElem? (i := 1) rfl)
    exact supB_ok z.1 z.2
  obtain ⟨e2, E2⟩ : ∃ fd, SupFn K PySem.Challenge.pw_heldback_k61_errors_made "__init__" "BadText.__init__" (defArgs i_BadText) (defBody i_BadText) (defScope i_BadText) (iA K "BadText") (He.ga K "BadText") fd := by
    have z := c.sup ⟨"BadText", "BadText.__init__", i_BadText⟩ (List.mem_of_getElem? (i := 2) rfl)
    exact supB_ok z.1 z.2
  obtain ⟨e3, E3⟩ : ∃ fd, SupFn K PySem.Challenge.pw_heldback_k61_errors_made "__init__" "BadUse.__init__" (defArgs i_BadUse) (defBody i_BadUse) (defScope i_BadUse) (iA K "BadUse") (He.ga K "BadUse") fd := by
    have z := c.sup ⟨"BadUse", "BadUse.__init__", i_BadUse⟩ (List.mem_of_getElem? (i := 3) rfl)
    exact supB_ok z.1 z.2
  obtain ⟨e4, E4⟩ : ∃ fd, SupFn K PySem.Challenge.pw_heldback_k61_errors_made "__init__" "BadWish.__init__" (defArgs i_BadWish) (defBody i_BadWish) (defScope i_BadWish) (iA K "BadWish") (He.ga K "BadWish") fd := by
    have z := c.sup ⟨"BadWish", "BadWish.__init__", i_BadWish⟩ (List.mem_of_getElem? (i := 4) rfl)
    exact supB_ok z.1 z.2
  obtain ⟨e5, E5⟩ : ∃ fd, SupFn K PySem.Challenge.pw_heldback_k61_errors_made "__init__" "NoAnswer.__init__" (defArgs i_NoAnswer) (defBody i_NoAnswer) (defScope i_NoAnswer) (iA K "NoAnswer") (He.ga K "NoAnswer") fd := by
    have z := c.sup ⟨"NoAnswer", "NoAnswer.__init__", i_NoAnswer⟩ (List.mem_of_getElem? (i := 5) rfl)
    exact supB_ok z.1 z.2
  obtain ⟨e6, E6⟩ : ∃ fd, SupFn K PySem.Challenge.pw_heldback_k61_errors_made "__init__" "NoFit.__init__" (defArgs i_NoFit) (defBody i_NoFit) (defScope i_NoFit) (iA K "NoFit") (He.ga K "NoFit") fd := by
    have z := c.sup ⟨"NoFit", "NoFit.__init__", i_NoFit⟩ (List.mem_of_getElem? (i := 6) rfl)
    exact supB_ok z.1 z.2
  obtain ⟨e7, E7⟩ : ∃ fd, SupFn K PySem.Challenge.pw_heldback_k61_errors_made "__init__" "NoPath.__init__" (defArgs i_NoPath) (defBody i_NoPath) (defScope i_NoPath) (iA K "NoPath") (He.ga K "NoPath") fd := by
    have z := c.sup ⟨"NoPath", "NoPath.__init__", i_NoPath⟩ (List.mem_of_getElem? (i := 7) rfl)
    exact supB_ok z.1 z.2
  obtain ⟨e8, E8⟩ : ∃ fd, SupFn K PySem.Challenge.pw_heldback_k61_errors_made "__init__" "NoRule.__init__" (defArgs i_NoRule) (defBody i_NoRule) (defScope i_NoRule) (iA K "NoRule") (He.ga K "NoRule") fd := by
    have z := c.sup ⟨"NoRule", "NoRule.__init__", i_NoRule⟩ (List.mem_of_getElem? (i := 8) rfl)
    exact supB_ok z.1 z.2
  obtain ⟨e9, E9⟩ : ∃ fd, SupFn K PySem.Challenge.pw_heldback_k61_errors_made "__init__" "NoSave.__init__" (defArgs i_NoSave) (defBody i_NoSave) (defScope i_NoSave) (iA K "NoSave") (He.ga K "NoSave") fd := by
    have z := c.sup ⟨"NoSave", "NoSave.__init__", i_NoSave⟩ (List.mem_of_getElem? (i := 9) rfl)
    exact supB_ok z.1 z.2
  obtain ⟨e10, E10⟩ : ∃ fd, SupFn K PySem.Challenge.pw_heldback_k61_errors_made "__init__" "NoSquare.__init__" (defArgs i_NoSquare) (defBody i_NoSquare) (defScope i_NoSquare) (iA K "NoSquare") (He.ga K "NoSquare") fd := by
    have z := c.sup ⟨"NoSquare", "NoSquare.__init__", i_NoSquare⟩ (List.mem_of_getElem? (i := 10) rfl)
    exact supB_ok z.1 z.2
  obtain ⟨e11, E11⟩ : ∃ fd, SupFn K PySem.Challenge.pw_heldback_k61_errors_made "__init__" "NotName.__init__" (defArgs i_NotName) (defBody i_NotName) (defScope i_NotName) (iA K "NotName") (He.ga K "NotName") fd := by
    have z := c.sup ⟨"NotName", "NotName.__init__", i_NotName⟩ (List.mem_of_getElem? (i := 11) rfl)
    exact supB_ok z.1 z.2
  obtain ⟨e12, E12⟩ : ∃ fd, SupFn K PySem.Challenge.pw_heldback_k61_errors_made "__init__" "NotNumber.__init__" (defArgs i_NotNumber) (defBody i_NotNumber) (defScope i_NotNumber) (iA K "NotNumber") (He.ga K "NotNumber") fd := by
    have z := c.sup ⟨"NotNumber", "NotNumber.__init__", i_NotNumber⟩ (List.mem_of_getElem? (i := 12) rfl)
    exact supB_ok z.1 z.2
  obtain ⟨e13, E13⟩ : ∃ fd, SupFn K PySem.Challenge.pw_heldback_k61_errors_made "__init__" "NotTruth.__init__" (defArgs i_NotTruth) (defBody i_NotTruth) (defScope i_NotTruth) (iA K "NotTruth") (He.ga K "NotTruth") fd := by
    have z := c.sup ⟨"NotTruth", "NotTruth.__init__", i_NotTruth⟩ (List.mem_of_getElem? (i := 13) rfl)
    exact supB_ok z.1 z.2
  obtain ⟨e14, E14⟩ : ∃ fd, SupFn K PySem.Challenge.pw_heldback_k61_errors_made "__init__" "NoWay.__init__" (defArgs i_NoWay) (defBody i_NoWay) (defScope i_NoWay) (iA K "NoWay") (He.ga K "NoWay") fd := by
    have z := c.sup ⟨"NoWay", "NoWay.__init__", i_NoWay⟩ (List.mem_of_getElem? (i := 14) rfl)
    exact supB_ok z.1 z.2
  obtain ⟨e15, E15⟩ : ∃ fd, SupFn K PySem.Challenge.pw_heldback_k61_errors_made "__init__" "Over.__init__" (defArgs i_Over) (defBody i_Over) (defScope i_Over) (iA K "Over") (He.ga K "Over") fd := by
    have z := c.sup ⟨"Over", "Over.__init__", i_Over⟩ (List.mem_of_getElem? (i := 15) rfl)
    exact supB_ok z.1 z.2
  obtain ⟨e16, E16⟩ : ∃ fd, SupFn K PySem.Challenge.pw_heldback_k61_errors_made "__init__" "Uncaught.__init__" (defArgs i_Uncaught) (defBody i_Uncaught) (defScope i_Uncaught) (iA K "Uncaught") (He.ga K "Uncaught") fd := by
    have z := c.sup ⟨"Uncaught", "Uncaught.__init__", i_Uncaught⟩ (List.mem_of_getElem? (i := 16) rfl)
    exact supB_ok z.1 z.2
  obtain ⟨e17, E17⟩ : ∃ fd, SupFn K PySem.Challenge.pw_heldback_k61_errors_made "__init__" "Uneven.__init__" (defArgs i_Uneven) (defBody i_Uneven) (defScope i_Uneven) (iA K "Uneven") (He.ga K "Uneven") fd := by
    have z := c.sup ⟨"Uneven", "Uneven.__init__", i_Uneven⟩ (List.mem_of_getElem? (i := 17) rfl)
    exact supB_ok z.1 z.2
  obtain ⟨e18, E18⟩ : ∃ fd, SupFn K PySem.Challenge.pw_heldback_k61_errors_made "__init__" "UnlikeTables.__init__" (defArgs i_UnlikeTables) (defBody i_UnlikeTables) (defScope i_UnlikeTables) (iA K "UnlikeTables") (He.ga K "UnlikeTables") fd := by
    have z := c.sup ⟨"UnlikeTables", "UnlikeTables.__init__", i_UnlikeTables⟩ (List.mem_of_getElem? (i := 18) rfl)
    exact supB_ok z.1 z.2
  have hs : mg "super" = none := (He.free_ok X G (c.d.fact 39 (f := .free "super") rfl))
  have ht : (PySem.Challenge.pw_heldback_k61_errors_made.main.scope.names.lookup ("super" : Str)).isSome = false := by decide +kernel
  have T0 : TC K mg (He.ga K "copied") := ⟨(He.free_ok X G (c.d.fact 31 (f := .free "isinstance") rfl)), (He.free_ok X G (c.d.fact 32 (f := .free "dict") rfl)), (He.free_ok X G (c.d.fact 33 (f := .free "list") rfl)), (He.free_ok X G (c.d.fact 34 (f := .free "tuple") rfl)), (He.glo_ok X G (c.d.fact 0 (f := .glo "copied") rfl)), D0.kp⟩
  refine ⟨d10, fun s v => b s [v] rfl, fun base _ _ => ?_⟩
  have C0 : FnOk PySem.Challenge.pw_heldback_k61_errors_made w K mg base CX0 0 (He.ga K "copied") d0 ["thing"] (spC 0) := fn_never (fun _ _ _ _ z => z)
  have C1 := ok_copied (n := 0) D0 T0 B0 C0
  have C2 := ok_copied (n := 1) D0 T0 B0 C1
  have C3 := ok_copied (n := 2) D0 T0 B0 C2
  have C4 := ok_copied (n := 3) D0 T0 B0 C3
  have C5 := ok_copied (n := 4) D0 T0 B0 C4
  have C6 := ok_copied (n := 5) D0 T0 B0 C5
  have C7 := ok_copied (n := 6) D0 T0 B0 C6
  have U0 : FnOk PySem.Challenge.pw_heldback_k61_errors_made w K mg base CX0 0 (He.ga K "_law_tupled_all") d6 ["_law_thing_here"] (spU 0) := fn_never (fun _ _ _ _ z => z)
  have TU0 : TU K mg (He.ga K "_law_tupled_all") := ⟨(He.free_ok X G (c.d.fact 31 (f := .free "isinstance") rfl)), (He.free_ok X G (c.d.fact 32 (f := .free "dict") rfl)), (He.free_ok X G (c.d.fact 33 (f := .free "list") rfl)), (He.free_ok X G (c.d.fact 34 (f := .free "tuple") rfl)), (He.glo_ok X G (c.d.fact 6 (f := .glo "_law_tupled_all") rfl)), D6.kp⟩
  have U1 := ok_tupled_all (n := 0) D6 TU0 B6 U0
  have U2 := ok_tupled_all (n := 1) D6 TU0 B6 U1
  have U3 := ok_tupled_all (n := 2) D6 TU0 B6 U2
  have U4 := ok_tupled_all (n := 3) D6 TU0 B6 U3
  have U5 := ok_tupled_all (n := 4) D6 TU0 B6 U4
  have U6 := ok_tupled_all (n := 5) D6 TU0 B6 U5
  have U7 := ok_tupled_all (n := 6) D6 TU0 B6 U6
  have U8 := ok_tupled_all (n := 7) D6 TU0 B6 U7
  have S0 : FnOk PySem.Challenge.pw_heldback_k61_errors_made w K mg base CX0 0 (He.ga K "_law_spoil") d3 ["_law_thing_here"] (spS 0) := fn_never (fun _ _ _ _ z => z)
  have TS0 : TS1 K mg (He.ga K "_law_spoil") := ⟨(He.free_ok X G (c.d.fact 31 (f := .free "isinstance") rfl)), (He.free_ok X G (c.d.fact 33 (f := .free "list") rfl)), (He.free_ok X G (c.d.fact 34 (f := .free "tuple") rfl)), (He.glo_ok X G (c.d.fact 3 (f := .glo "_law_spoil") rfl)), D3.kp⟩
  have S1 := ok_spoil (n := 0) D3 TS0 B3 S0
  have S2 := ok_spoil (n := 1) D3 TS0 B3 S1
  have S3 := ok_spoil (n := 2) D3 TS0 B3 S2
  have S4 := ok_spoil (n := 3) D3 TS0 B3 S3
  have Dr : FnOk PySem.Challenge.pw_heldback_k61_errors_made w K mg base CX0 1 (He.ga K "_law_draw") d1 ["_law_stream", "_law_many"] spDraw := ok_draw D1 ⟨(He.free_ok X G (c.d.fact 35 (f := .free "int") rfl))⟩
  have TT0 : TT1 K mg (He.ga K "_law_draw") (He.ga K "_law_thing") := ⟨(He.free_ok X G (c.d.fact 36 (f := .free "range") rfl)), (He.free_ok X G (c.d.fact 34 (f := .free "tuple") rfl)), (He.glo_ok X G (c.d.fact 1 (f := .glo "_law_draw") rfl)), D1.kp, (He.glo_ok X G (c.d.fact 5 (f := .glo "_law_thing") rfl)), D5.kp⟩
  have H0 : FnOk PySem.Challenge.pw_heldback_k61_errors_made w K mg base CX0 1 (He.ga K "_law_thing") d5 ["_law_stream", "_law_deep"] (spT 0) := fn_never (fun _ _ _ _ z => z)
  have H1 := ok_thing (n := 0) D5 TT0 B5 B1 Dr H0
  have H2 := ok_thing (n := 1) D5 TT0 B5 B1 Dr H1
  have H3 := ok_thing (n := 2) D5 TT0 B5 B1 Dr H2
  have H4 := ok_thing (n := 3) D5 TT0 B5 B1 Dr H3
  have HT := FnOk.or H4 (H3.mono (by decide : 4 ≤ 5))
  have TX : TXs K mg (cA K) (fA K) (He.ga K "HeldError") := {
    x_BadPart := ⟨(hex 0 (by decide)).k, (hex 0 (by decide)).f, (hex 0 (by decide)).ini, (hex 0 (by decide)).t, (He.glo_ok X G (c.d.fact 11 (f := .glo "BadPart") rfl))⟩
    x_BadPile := ⟨(hex 1 (by decide)).k, (hex 1 (by decide)).f, (hex 1 (by decide)).ini, (hex 1 (by decide)).t, (He.glo_ok X G (c.d.fact 12 (f := .glo "BadPile") rfl))⟩
    x_BadText := ⟨(hex 2 (by decide)).k, (hex 2 (by decide)).f, (hex 2 (by decide)).ini, (hex 2 (by decide)).t, (He.glo_ok X G (c.d.fact 13 (f := .glo "BadText") rfl))⟩
    x_BadUse := ⟨(hex 3 (by decide)).k, (hex 3 (by decide)).f, (hex 3 (by decide)).ini, (hex 3 (by decide)).t, (He.glo_ok X G (c.d.fact 14 (f := .glo "BadUse") rfl))⟩
    x_BadWish := ⟨(hex 4 (by decide)).k, (hex 4 (by decide)).f, (hex 4 (by decide)).ini, (hex 4 (by decide)).t, (He.glo_ok X G (c.d.fact 15 (f := .glo "BadWish") rfl))⟩
    x_NoAnswer := ⟨(hex 5 (by decide)).k, (hex 5 (by decide)).f, (hex 5 (by decide)).ini, (hex 5 (by decide)).t, (He.glo_ok X G (c.d.fact 16 (f := .glo "NoAnswer") rfl))⟩
    x_NoFit := ⟨(hex 6 (by decide)).k, (hex 6 (by decide)).f, (hex 6 (by decide)).ini, (hex 6 (by decide)).t, (He.glo_ok X G (c.d.fact 17 (f := .glo "NoFit") rfl))⟩
    x_NoPath := ⟨(hex 7 (by decide)).k, (hex 7 (by decide)).f, (hex 7 (by decide)).ini, (hex 7 (by decide)).t, (He.glo_ok X G (c.d.fact 18 (f := .glo "NoPath") rfl))⟩
    x_NoRule := ⟨(hex 8 (by decide)).k, (hex 8 (by decide)).f, (hex 8 (by decide)).ini, (hex 8 (by decide)).t, (He.glo_ok X G (c.d.fact 19 (f := .glo "NoRule") rfl))⟩
    x_NoSave := ⟨(hex 9 (by decide)).k, (hex 9 (by decide)).f, (hex 9 (by decide)).ini, (hex 9 (by decide)).t, (He.glo_ok X G (c.d.fact 20 (f := .glo "NoSave") rfl))⟩
    x_NoSquare := ⟨(hex 10 (by decide)).k, (hex 10 (by decide)).f, (hex 10 (by decide)).ini, (hex 10 (by decide)).t, (He.glo_ok X G (c.d.fact 21 (f := .glo "NoSquare") rfl))⟩
    x_NotName := ⟨(hex 11 (by decide)).k, (hex 11 (by decide)).f, (hex 11 (by decide)).ini, (hex 11 (by decide)).t, (He.glo_ok X G (c.d.fact 22 (f := .glo "NotName") rfl))⟩
    x_NotNumber := ⟨(hex 12 (by decide)).k, (hex 12 (by decide)).f, (hex 12 (by decide)).ini, (hex 12 (by decide)).t, (He.glo_ok X G (c.d.fact 23 (f := .glo "NotNumber") rfl))⟩
    x_NotTruth := ⟨(hex 13 (by decide)).k, (hex 13 (by decide)).f, (hex 13 (by decide)).ini, (hex 13 (by decide)).t, (He.glo_ok X G (c.d.fact 24 (f := .glo "NotTruth") rfl))⟩
    x_NoWay := ⟨(hex 14 (by decide)).k, (hex 14 (by decide)).f, (hex 14 (by decide)).ini, (hex 14 (by decide)).t, (He.glo_ok X G (c.d.fact 25 (f := .glo "NoWay") rfl))⟩
    x_Over := ⟨(hex 15 (by decide)).k, (hex 15 (by decide)).f, (hex 15 (by decide)).ini, (hex 15 (by decide)).t, (He.glo_ok X G (c.d.fact 26 (f := .glo "Over") rfl))⟩
    x_Uncaught := ⟨(hex 16 (by decide)).k, (hex 16 (by decide)).f, (hex 16 (by decide)).ini, (hex 16 (by decide)).t, (He.glo_ok X G (c.d.fact 27 (f := .glo "Uncaught") rfl))⟩
    x_Uneven := ⟨(hex 17 (by decide)).k, (hex 17 (by decide)).f, (hex 17 (by decide)).ini, (hex 17 (by decide)).t, (He.glo_ok X G (c.d.fact 28 (f := .glo "Uneven") rfl))⟩
    x_UnlikeTables := ⟨(hex 18 (by decide)).k, (hex 18 (by decide)).f, (hex 18 (by decide)).ini, (hex 18 (by decide)).t, (He.glo_ok X G (c.d.fact 29 (f := .glo "UnlikeTables") rfl))⟩
    m_HeldError := (He.glo_ok X G (c.d.fact 30 (f := .glo "HeldError") rfl))
    f_isinstance := (He.free_ok X G (c.d.fact 31 (f := .free "isinstance") rfl))
    f_ValueError := (He.free_ok X G (c.d.fact 38 (f := .free "ValueError") rfl))
    F := fun i hi => (hex i hi).f
    kit := fun i j hi hj => (hex i hi).q j hj
    kitH := fun i hi => (hex i hi).h
    kitV := fun i hi => (hex i hi).v }
  have TMm : TM PySem.Challenge.pw_heldback_k61_errors_made w K mg base (cA K) (fA K) (fun i => [e0, e1, e2, e3, e4, e5, e6, e7, e8, e9, e10, e11, e12, e13, e14, e15, e16, e17, e18].getD i e0) (He.ga K "HeldError") := {
    toTXs := TX
    G_BadPart := in_BadPart E0 (hex 0 (by decide)).k hs ht (He.noat_ok (c.d.fact 40 (f := .noat "BadPart" "path") rfl)) T0 B0 C7
    b_BadPart := E0.binds fun _ _ _ _ _ _ _ us hl => match us, hl with | [_, _], _ => rfl
    kb_BadPart := E0.kw id fun _ _ _ _ _ _ _ v us hl => match us, hl with | [_], _ => rfl
    n_BadPart := He.noat_ok (c.d.fact 40 (f := .noat "BadPart" "path") rfl)
    G_BadPile := in_BadPile E1 (hex 1 (by decide)).k hs ht (He.noat_ok (c.d.fact 41 (f := .noat "BadPile" "index") rfl)) T0 B0 C7
    b_BadPile := E1.binds fun _ _ _ _ _ _ _ us hl => match us, hl with | [_, _], _ => rfl
    kb_BadPile := E1.kw id fun _ _ _ _ _ _ _ v us hl => match us, hl with | [_], _ => rfl
    n_BadPile := He.noat_ok (c.d.fact 41 (f := .noat "BadPile" "index") rfl)
    G_BadText := in_BadText E2 (hex 2 (by decide)).k hs ht (He.noat_ok (c.d.fact 42 (f := .noat "BadText" "line") rfl)) T0 B0 C7
    b_BadText := E2.binds fun _ _ _ _ _ _ _ us hl => match us, hl with | [_, _], _ => rfl
    kb_BadText := E2.kw id fun _ _ _ _ _ _ _ v us hl => match us, hl with | [_], _ => rfl
    n_BadText := He.noat_ok (c.d.fact 42 (f := .noat "BadText" "line") rfl)
    G_BadUse := in_BadUse E3 (hex 3 (by decide)).k hs ht (He.noat_ok (c.d.fact 43 (f := .noat "BadUse" "index") rfl)) T0 B0 C7
    b_BadUse := E3.binds fun _ _ _ _ _ _ _ us hl => match us, hl with | [_, _], _ => rfl
    kb_BadUse := E3.kw id fun _ _ _ _ _ _ _ v us hl => match us, hl with | [_], _ => rfl
    n_BadUse := He.noat_ok (c.d.fact 43 (f := .noat "BadUse" "index") rfl)
    G_BadWish := in_BadWish E4 (hex 4 (by decide)).k hs ht
    b_BadWish := E4.binds fun _ _ _ _ _ _ _ us hl => match us, hl with | [_], _ => rfl
    G_NoAnswer := in_NoAnswer E5 (hex 5 (by decide)).k hs ht
    b_NoAnswer := E5.binds fun _ _ _ _ _ _ _ us hl => match us, hl with | [_], _ => rfl
    G_NoFit := in_NoFit E6 (hex 6 (by decide)).k hs ht (He.noat_ok (c.d.fact 54 (f := .noat "NoFit" "rule") rfl)) (He.noat_ok (c.d.fact 55 (f := .noat "NoFit" "path") rfl)) T0 B0 C7
    b_NoFit := E6.binds fun _ _ _ _ _ _ _ us hl => match us, hl with | [_, _, _], _ => rfl
    kb_NoFit := E6.kw swV_ok fun _ _ _ _ _ _ _ v us hl => match us, hl with | [_, _], _ => rfl
    n_NoFit := (He.noat_ok (c.d.fact 54 (f := .noat "NoFit" "rule") rfl))
    n2_NoFit := (He.noat_ok (c.d.fact 55 (f := .noat "NoFit" "path") rfl))
    G_NoPath := in_NoPath E7 (hex 7 (by decide)).k hs ht (He.noat_ok (c.d.fact 44 (f := .noat "NoPath" "path") rfl)) T0 B0 C7
    b_NoPath := E7.binds fun _ _ _ _ _ _ _ us hl => match us, hl with | [_, _], _ => rfl
    kb_NoPath := E7.kw id fun _ _ _ _ _ _ _ v us hl => match us, hl with | [_], _ => rfl
    n_NoPath := He.noat_ok (c.d.fact 44 (f := .noat "NoPath" "path") rfl)
    G_NoRule := in_NoRule E8 (hex 8 (by decide)).k hs ht (He.noat_ok (c.d.fact 45 (f := .noat "NoRule" "rule") rfl)) T0 B0 C7
    b_NoRule := E8.binds fun _ _ _ _ _ _ _ us hl => match us, hl with | [_, _], _ => rfl
    kb_NoRule := E8.kw id fun _ _ _ _ _ _ _ v us hl => match us, hl with | [_], _ => rfl
    n_NoRule := He.noat_ok (c.d.fact 45 (f := .noat "NoRule" "rule") rfl)
    G_NoSave := in_NoSave E9 (hex 9 (by decide)).k hs ht (He.noat_ok (c.d.fact 46 (f := .noat "NoSave" "save") rfl)) T0 B0 C7
    b_NoSave := E9.binds fun _ _ _ _ _ _ _ us hl => match us, hl with | [_, _], _ => rfl
    kb_NoSave := E9.kw id fun _ _ _ _ _ _ _ v us hl => match us, hl with | [_], _ => rfl
    n_NoSave := He.noat_ok (c.d.fact 46 (f := .noat "NoSave" "save") rfl)
    G_NoSquare := in_NoSquare E10 (hex 10 (by decide)).k hs ht (He.noat_ok (c.d.fact 47 (f := .noat "NoSquare" "square") rfl)) T0 B0 C7
    b_NoSquare := E10.binds fun _ _ _ _ _ _ _ us hl => match us, hl with | [_, _], _ => rfl
    kb_NoSquare := E10.kw id fun _ _ _ _ _ _ _ v us hl => match us, hl with | [_], _ => rfl
    n_NoSquare := He.noat_ok (c.d.fact 47 (f := .noat "NoSquare" "square") rfl)
    G_NotName := in_NotName E11 (hex 11 (by decide)).k hs ht (He.noat_ok (c.d.fact 48 (f := .noat "NotName" "key") rfl)) T0 B0 C7
    b_NotName := E11.binds fun _ _ _ _ _ _ _ us hl => match us, hl with | [_, _], _ => rfl
    kb_NotName := E11.kw id fun _ _ _ _ _ _ _ v us hl => match us, hl with | [_], _ => rfl
    n_NotName := He.noat_ok (c.d.fact 48 (f := .noat "NotName" "key") rfl)
    G_NotNumber := in_NotNumber E12 (hex 12 (by decide)).k hs ht (He.noat_ok (c.d.fact 49 (f := .noat "NotNumber" "value") rfl)) T0 B0 C7
    b_NotNumber := E12.binds fun _ _ _ _ _ _ _ us hl => match us, hl with | [_, _], _ => rfl
    kb_NotNumber := E12.kw id fun _ _ _ _ _ _ _ v us hl => match us, hl with | [_], _ => rfl
    n_NotNumber := He.noat_ok (c.d.fact 49 (f := .noat "NotNumber" "value") rfl)
    G_NotTruth := in_NotTruth E13 (hex 13 (by decide)).k hs ht (He.noat_ok (c.d.fact 50 (f := .noat "NotTruth" "value") rfl)) T0 B0 C7
    b_NotTruth := E13.binds fun _ _ _ _ _ _ _ us hl => match us, hl with | [_, _], _ => rfl
    kb_NotTruth := E13.kw id fun _ _ _ _ _ _ _ v us hl => match us, hl with | [_], _ => rfl
    n_NotTruth := He.noat_ok (c.d.fact 50 (f := .noat "NotTruth" "value") rfl)
    G_NoWay := in_NoWay E14 (hex 14 (by decide)).k hs ht (He.noat_ok (c.d.fact 51 (f := .noat "NoWay" "way") rfl)) T0 B0 C7
    b_NoWay := E14.binds fun _ _ _ _ _ _ _ us hl => match us, hl with | [_, _], _ => rfl
    kb_NoWay := E14.kw id fun _ _ _ _ _ _ _ v us hl => match us, hl with | [_], _ => rfl
    n_NoWay := He.noat_ok (c.d.fact 51 (f := .noat "NoWay" "way") rfl)
    G_Over := in_Over E15 (hex 15 (by decide)).k hs ht
    b_Over := E15.binds fun _ _ _ _ _ _ _ us hl => match us, hl with | [_], _ => rfl
    G_Uncaught := in_Uncaught E16 (hex 16 (by decide)).k hs ht (He.noat_ok (c.d.fact 52 (f := .noat "Uncaught" "word") rfl)) T0 B0 C7
    b_Uncaught := E16.binds fun _ _ _ _ _ _ _ us hl => match us, hl with | [_, _], _ => rfl
    kb_Uncaught := E16.kw id fun _ _ _ _ _ _ _ v us hl => match us, hl with | [_], _ => rfl
    n_Uncaught := He.noat_ok (c.d.fact 52 (f := .noat "Uncaught" "word") rfl)
    G_Uneven := in_Uneven E17 (hex 17 (by decide)).k hs ht (He.noat_ok (c.d.fact 53 (f := .noat "Uneven" "way") rfl)) T0 B0 C7
    b_Uneven := E17.binds fun _ _ _ _ _ _ _ us hl => match us, hl with | [_, _], _ => rfl
    kb_Uneven := E17.kw id fun _ _ _ _ _ _ _ v us hl => match us, hl with | [_], _ => rfl
    n_Uneven := He.noat_ok (c.d.fact 53 (f := .noat "Uneven" "way") rfl)
    G_UnlikeTables := in_UnlikeTables E18 (hex 18 (by decide)).k hs ht
    b_UnlikeTables := E18.binds fun _ _ _ _ _ _ _ us hl => match us, hl with | [_], _ => rfl }
  refine ok_law (d1 := d2) (d2 := d5) (d3 := d9) (d4 := d4) (d5 := d6) (d6 := d7) (d7 := d8) (d8 := d3) D10 { toTM := TMm, f_range := (He.free_ok X G (c.d.fact 36 (f := .free "range") rfl)), f_enumerate := (He.free_ok X G (c.d.fact 37 (f := .free "enumerate") rfl)), m__law_start := (He.glo_ok X G (c.d.fact 2 (f := .glo "_law_start") rfl)), k__law_start := D2.kp, m__law_thing := (He.glo_ok X G (c.d.fact 5 (f := .glo "_law_thing") rfl)), k__law_thing := D5.kp, m__law_all_errors := (He.glo_ok X G (c.d.fact 9 (f := .glo "_law_all_errors") rfl)), k__law_all_errors := D9.kp, m__law_kinds := (He.glo_ok X G (c.d.fact 4 (f := .glo "_law_kinds") rfl)), k__law_kinds := D4.kp, m__law_tupled_all := (He.glo_ok X G (c.d.fact 6 (f := .glo "_law_tupled_all") rfl)), k__law_tupled_all := D6.kp, m__law_by_place := (He.glo_ok X G (c.d.fact 7 (f := .glo "_law_by_place") rfl)), k__law_by_place := D7.kp, m__law_by_name := (He.glo_ok X G (c.d.fact 8 (f := .glo "_law_by_name") rfl)), k__law_by_name := D8.kp, m__law_spoil := (He.glo_ok X G (c.d.fact 3 (f := .glo "_law_spoil") rfl)), k__law_spoil := D3.kp }
    B2 B5 B9 B4 B6 B7 B8 B3 (ok_start D2 ⟨(He.free_ok X G (c.d.fact 33 (f := .free "list") rfl))⟩) HT (ok_all_errors D9 TMm) (ok_kinds D4 TX) U8 (ok_by_place D7 TMm) (ok_by_name D8 TMm) S4
end HB

set_option Elab.async false
set_option linter.all false
set_option maxRecDepth 100000
set_option maxHeartbeats 0
namespace HB
open PySem PySem.Spec PyProof.Rows L2
def loose : List Str := ["__name__", "copied", "HeldError", "BadPart", "NoPath", "NotName", "NotNumber", "BadUse", "Over", "Uncaught", "NoAnswer", "BadWish", "NoSave", "NoSquare", "NotTruth", "UnlikeTables", "NoWay", "Uneven", "BadPile", "NoRule", "NoFit", "BadText",
  "_law_draw", "_law_start", "_law_spoil", "_law_kinds", "_law_thing", "_law_tupled_all", "_law_by_place", "_law_by_name", "_law_all_errors"]
theorem run (w : World) : HandSHeadRun.RunEq rowR (PySem.W.view rowR.prog [32]) hk ob 6000 loose w := by
  intro os
  kernel_rfl
end HB
open PySem PySem.W PySem.Calls PyProof.Rows
theorem PySem.Challenge.cw_heldback_k61_errors_made_holds : PySem.Challenge.rw_heldback_k61_errors_made.Holds := by
  w_on; o_law
  refine HandSHeadRun.head_any (r := OpenLaw.row PySem.Challenge.rw_heldback_k61_errors_made) (q := view (OpenLaw.row PySem.Challenge.rw_heldback_k61_errors_made).prog [32]) (H := HB.hk) (ob := HB.ob) (M := 6000) (loose := HB.loose) (d := HandSHeadRun.topDef (OpenLaw.row PySem.Challenge.rw_heldback_k61_errors_made).prog 32) (kwd := []) HB.ob_eq
    (by kernel_rfl) (fun s => by kernel_rfl) HB.run (by kernel_rfl) (by kernel_rfl) (by kernel_rfl) (by rfl) (by first | assumption | decide +kernel) (by decide +kernel) ⟨rfl, rfl, rfl, rfl, rfl, by decide +kernel⟩ ?hw ?hc
  case hw => w_witness2
  case hc =>
    refine L2.walk_ofE (l := PySem.Challenge.rw_heldback_k61_errors_made) (n := 63) (k := 11) (x := "_law_script") (CX := L2.CX0) rfl (by decide) (by kernel_rfl) ⟨rfl, by decide, by decide⟩ ?F (fun _ _ _ _ z => z)
    intro w mg fa h Y G hmg0
    obtain ⟨K, KX, c⟩ := Y
    have hmg : mg ("law" : PySem.Str) = some (.ref fa) := by
      have e : (HandSHeadRun.topDef (OpenLaw.row PySem.Challenge.rw_heldback_k61_errors_made).prog 32).name = ("law" : PySem.Str) := by kernel_rfl
      rw [← e]
      exact hmg0
    obtain ⟨fd, hb, hF⟩ := HB.facts (w := w) KX G hmg c
    exact ⟨K, fd, HB.spLaw K, KX, hb, fun H a ns hl _ hS => ⟨a, ns, rfl, hS, hl, fun _ => rfl⟩, hF⟩
