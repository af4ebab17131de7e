import PyProof.Rows.All
import Wide.All
import OpenK.AllK
import Wide.FinOn
import KE.KExcSuper
import HandS.ForMost
import HandS.More
import HandS.Exc
import HandS.ExcOwn
import HandS.ExcInit
import HandS.ExcField
import HandS.ExcIs
import HandS.TryOnly
import HandS.WordsExc
import HandS.Defaults
import HandS.FStr
import HandS.SetKeys
import HandS.StrMore
import HandS.Conv
import HandS.DeepEq
import HandS.AnyAll
import HandS.Lambda
import HandS.EndBits
import HandS.EndTab
import HandS.HeadEnd
import HandS.HeadWalk
import HandS.Head0
import HandS.Head1
import HandS.Head2
import HandS.HeadHook1
import HandS.HeadHook2
import HandS.HeadHook3
import HandS.HeadHook4
import PySem.Challenge.RW_weft_k31_fates_of_program_edits
import KE.GoesRaise
import KE.KIsAll
import KE.KTryMore
import KE.KExcIs
import KE.GoesEnum
import PyProof.Rows.SortShellAny
import PyProof.P3Eq
import HandS.Codes
import HandS.TupAny
import HandS.WordsDict
import HandS.IsInst
set_option Elab.async false
set_option linter.all false
set_option maxRecDepth 100000
set_option maxHeartbeats 2000000
/-! K0: the text by places. -/
namespace K31
open PySem PySem.Spec PyProof.Rows L2
def top (i : Nat) : Stmt := PySem.Challenge.pw_weft_k31_fates_of_program_edits.main.body.getD i (.Pass ⟨0, 0, 0, 0⟩)
abbrev sUnfit : Stmt := inClass (top 6) 0
abbrev sApart : Stmt := inClass (top 7) 0
end K31
set_option maxHeartbeats 2000000
/-! K1: an own exception class whose __init__ begins with super().__init__(..): its def by hand. -/
namespace K31
open PySem PySem.Spec PyProof.Rows L2

theorem lookup_nd {α : Type} {x : Str} {u : α} : ∀ {l : List (Str × α)}, (l.map (·.1)).Nodup → (x, u) ∈ l → l.lookup x = some u
  | [], _, h => by cases h
  | (y, v) :: r, nd, h => by
    rw [List.lookup_cons]
    rcases List.mem_cons.mp h with e | h
    · cases e
      simp
    · have hne : x ≠ y := fun e => (List.nodup_cons.mp nd).1 (List.mem_map.mpr ⟨(x, u), h, e⟩)
      have hb : (x == y) = false := by simpa using hne
      rw [hb]
      exact lookup_nd (List.nodup_cons.mp nd).2 h
theorem map_fst_zip {α β : Type} : ∀ {l : List α} {r : List β}, l.length = r.length → (l.zip r).map (·.1) = l
  | [], [], _ => rfl
  | a :: l, b :: r, h => by
    show a :: (l.zip r).map (·.1) = a :: l
    rw [map_fst_zip (by simpa using h)]
theorem zip_lookup {ps : List Str} {us : List Value} (nd : ps.Nodup) (hl : ps.length = us.length) {i : Nat} {x : Str} {u : Value} (h1 : ps[i]? = some x) (h2 : us[i]? = some u) : (ps.zip us).reverse.lookup x = some u := by
  refine lookup_nd ?_ ?_
  · rw [List.map_reverse, map_fst_zip hl]
    exact List.pairwise_reverse.mpr (nd.imp fun h => Ne.symm h)
  · refine List.mem_reverse.mpr (List.mem_of_getElem? (i := i) ?_)
    rw [List.getElem?_zip_eq_some]
    exact ⟨h1, h2⟩

/-- the scope of such a def: parameters alone, and __class__ -/
structure SupScope (ps : List Str) (sc : Scope) : Prop where
  kind : sc.kind = .function
  co : sc.isCoroutine = false
  gen : sc.isGenerator = false
  nd : ps.Nodup
  par : ∀ x ∈ ps, sc.names.lookup x = some .local
  nocell : ∀ y ∈ sc.names, y.2 ≠ .cell
  cls : sc.names.lookup ("__class__" : Str) = some .free
  sup : sc.names.lookup ("super" : Str) = some .globalImplicit
  onlyfree : ∀ x, sc.names.lookup x = some .free → x = "__class__"

abbrev supEnv (qual : Str) (scope : Scope) (L f cda cc : Addr) : Env := PySem.W.ksEnv qual scope L f (.ref cda) cc

/-- the context of its body -/
abbrev cxS (CX : CXT) (P : Program) (w : World) (K : PySem.W.Frag) (mg : Str → Option Value) (base : Heap) (N : List Str) (qual : Str) (scope : Scope) (f cda cc : Addr) (A : Around) (outer : List Env) (s : Shared) (H : Hp) (E : XK) : Cx where
  prog := P
  w := w
  K := K
  mg := mg
  base := base
  A := A.deeper (supEnv qual scope s.heap.objs.size f cda cc)
  N := N
  s_0 := s
  H_0 := H
  env := supEnv qual scope s.heap.objs.size f cda cc
  outer := outer
  stack := supEnv qual scope s.heap.objs.size f cda cc :: outer
  ex := []
  calm := true
  fn := fun _ => false
  pn := []
  xe := fun e s' => wpAny (model P w) (A.deeper (supEnv qual scope s.heap.objs.size f cda cc)) (leaving (supEnv qual scope s.heap.objs.size f cda cc) e) (fun _ s'' => CX outer H s E e s'') (fun e' s'' => CX outer H s E e' s'') s'

theorem inv_startS {CX : CXT} {P : Program} {w : World} {K : PySem.W.Frag} {mg : Str → Option Value} {base : Heap} {ps : List Str} {qual : Str} {scope : Scope} {f cda cc : Addr} {A : Around} {outer : List Env} {s : Shared} {h1 : Heap} {tk : Nat} {H : Hp} {E : XK} {us : List Value} {vs : List V}
    {v0 : Option Value} {occ : Obj} (S : SupScope ps scope) (hd : A.handled = none) (e0 : Env0 P w K mg base A outer s H) (hl : vs.length = ps.length) (r : Vals vs us) (hcc : base.get? cc = some occ) (hcd : occ.data = .cell v0)
    (hn : h1.Ns s.heap.objs.size fun x => (ps.zip us).reverse.lookup x) (hk : ∀ b o, s.heap.get? b = some o → h1.get? b = some o) :
    Inv (cxS CX P w K mg base ps qual scope f cda cc A outer s H E) [] (vs.map some) H { s with heap := h1, toks := tk } := by
  have noA : ∀ b : Addr, b ∉ (cxS CX P w K mg base ps qual scope f cda cc A outer s H E).ex := fun b z => absurd (show b ∈ ([] : List Addr) from z) (by simp)
  have cl1 : ∀ x c, (supEnv qual scope s.heap.objs.size f cda cc).cells.lookup x = some c → x = "__class__" ∧ c = cc := fun x c h => by
    have h' : List.lookup x [(("__class__" : Str), cc)] = some c := h
    rw [List.lookup_cons] at h'
    cases q : x == ("__class__" : Str) with
    | true =>
      rw [q] at h'
      exact ⟨by simpa using q, (Option.some.inj h').symm⟩
    | false =>
      rw [q] at h'
      cases h'
  refine ⟨⟨e0.mod, S.kind, rfl, rfl, Nat.le_refl _, fun y z c h1 h2 => ?_, fun y hy => ?_, fun y c h _ => ?_, fun _ => hd, Around.frames_deeper e0.frames, .inr ⟨rfl, rfl⟩, fun b z => absurd z (noA b), e0.bs, e0.bsz, fun b _ _ => noA b, fun b z => absurd z (noA b), e0.funs, e0.frf⟩,
    rfl, e0.bare, Un.kept hk, ⟨_, hn, fun i y v h1 h2 h3 => ?_⟩, fun y c h => ?_, e0.hok.fresh (Nat.le_refl _), fun y c h => ?_, fun p hp => absurd (show p ∈ ([] : List (Addr × Obj)) from hp) (by simp), e0.hok.kept hk, ?_⟩
  · exact (cl1 _ _ h1).1.trans (cl1 _ _ h2).1.symm
  · have hy : scope.names.lookup y = some .cell ∨ scope.names.lookup y = some .free := hy
    rcases hy with hy | hy
    · exact absurd rfl (S.nocell _ (PySem.mem_of_lookup hy))
    · have e := S.onlyfree y hy
      subst e
      exact ⟨cc, rfl⟩
  · exact absurd (show (false : Bool) = true from h) (by decide)
  · have h1 : ps[i]? = some y := h1
    have ha : vs[i]? = some v := by
      rw [List.getElem?_map] at h2
      cases e : vs[i]? with
      | none => rw [e] at h2; cases h2
      | some a => rw [e] at h2; cases h2; rfl
    obtain ⟨u, hu, rv⟩ := r.get ha
    exact ⟨u, rv, .inl ⟨S.par y (List.mem_of_getElem? h1), zip_lookup S.nd (by rw [← hl, r.length]) h1 hu⟩⟩
  · obtain ⟨_, rfl⟩ := cl1 _ _ h
    exact ⟨v0, occ, hk _ _ (e0.bs _ _ hcc).1, hcd⟩
  · obtain ⟨_, rfl⟩ := cl1 _ _ h
    exact (e0.bs _ _ hcc).2
  · show (vs.map some).length = ps.length
    rw [List.length_map]
    exact hl

/-! ### super().__init__(..) of an exception over ValueError that has no dict yet -/
section
open PySem.W
variable {prog : Program} {w : World} {M : Model} {A : Around} {E : Value → Shared → Prop} {h : Heap} {g : Array GenState} {d : Drawn} {t : Nat} {os : OsState}
variable {nm q : Str} {C N : Addr} {bs bm bmB : List Value} {hdct : Bool} {sn : List Str} {sub : List Value} {ab : Bool} {col : Option Bool} {dd : Option Addr} {k0 k1 k2 k3 k5 : Option Value} {B newId initId : String}
theorem call_mw (FB : ExcBaseFacts B newId initId bmB) {u e t0 : Addr} {rest : List Value} {Q : Value → Shared → Prop}
    (hC : h.get? C = some (excClassObj nm q C N bs bm hdct sn sub ab col dd k0 k1 k2 k3 k5 newId)) (he : h.get? e = some (HandSPX.excO C t0)) (hu : h.get? u = some (kxs_mw initId e)) (hz : rest.length ≤ sizeLine)
    (hq : ∀ h' t1, (∀ b o, b ≠ e → h.get? b = some o → h'.get? b = some o) → h'.get? e = some (HandSPX.excO C t1) → Q .none ⟨h', g, d, t, os⟩) :
    wpAny (model prog w) A (call (.ref u) rest) Q E ⟨h, g, d, t, os⟩ := by
  refine wpAny_call (codeAny_of_tree ?_)
  show wpAny _ A.in1 (callAny (.ref u) ⟨rest, []⟩) _ _ _
  simp only [callAny]
  refine wpAny_bind (wpAny_load hu ?_)
  simp only [kxs_mw, show (Value.type "method-wrapper" == Value.type "method" || Value.type "method-wrapper" == Value.type "builtin_function_or_method" || Value.type "method-wrapper" == Value.type "method-wrapper") = true by decide, if_true]
  refine KFB.if_so (by decide) ?_
  refine wpAny_bind (check_bound_init FB.toExcCallFacts hC he rfl ?_)
  refine wpAny_bind (wpAny_pure (wpAny_pure ?_))
  refine ⟨plainId_quiet FB.init.plain _, codeAny_builtin FB.initEntry ?_⟩
  exact exc_init_tree (cls := .ref C) (t0 := t0) (dv := none) (c2 := .none) (c3 := .none) (b4 := .bool false) he hz fun h' k e' _ => hq h' _ k e'
end
end K31
set_option maxHeartbeats 2000000
/-! K2: such a def keeps its promise. -/
namespace K31
open PySem PySem.Spec PyProof.Rows L2

/-- what the written part says of such a class and its def -/
structure SupC (K : PySem.W.Frag) (C cc : Addr) : Prop where
  oex : OexC K C
  any : PySem.W.nsIn K cStatics "thirdparty.any" = some none
  cell : ∃ cl cld csl, K.lookup cc = some ⟨cl, cld, .cell (some (.ref C)), csl⟩
  self : PySem.W.mroIn K C (.ref C) = some true
  sup : PySem.W.ks_superIn K C C "__init__" = some (some (.builtin "ValueError.__init__"))
  ve : PySem.W.subIn K (.ref C) (.type "ValueError") = some true

section
open PySem.W
variable {X : Cx} {pins : List (Addr × Obj)} {σ : L2.St} {H : Hp} {s : Shared}
theorem callWith_mw {M : Model} {A : Around} {E : Value → Shared → Prop} {i : String} {u x : Addr} {pos : Pos} {env : Env} {e : Expr} {rest : List Expr} {Q : Value → Shared → Prop}
    (h : wpAny M A (spliced (backTo pos (starEach (e :: rest) env))) (fun vs s₁ => KxsAt i u x s₁.heap ∧ wpAny M A (call (.ref u) vs) Q E s₁) E s)
    (he : starEach (e :: rest) env = (false, eval e env) :: starEach rest env := by rfl) (hplain : (backTo pos (starEach rest env)).any (·.1) = false := by rfl) :
    wpAny M A (callWith pos (.ref u) [] (backTo pos (starEach (e :: rest) env)) []) Q E s := by
  rw [he] at h ⊢
  refine kxs_callWith (i := i) (x := x) (by show (false || (backTo pos (starEach rest env)).any (·.1)) = false; rw [hplain]; rfl) ?_
  exact Calls.evalArgs_plain h

/-- getMethod of the super object, then the call -/
theorem super_init {C cc x so : Addr} {pl : Sem Bool} {pos : Pos} {e : Expr} {es : List Expr} {ta : TA} {Q : Hp → Prop} {R : Value → Shared → Prop} (T : SupC X.K C cc) (I : Inv X pins σ H s) (hx : H x = some (exo x C none))
    (hso : s.heap.get? so = some (ks_superObj C x C)) (ha : PA X (e :: es) ta) (h : ta σ H fun ws H1 => ws.length ≤ 1000 ∧ H1 x = some (exo x C none) ∧ Q H1) (hR : ∀ H1 s1, Inv X pins σ H1 s1 → Q H1 → R .none s1)
    (he : starEach (e :: es) X.env = (false, eval e X.env) :: starEach es X.env := by rfl) (hpl : (backTo pos (starEach es X.env)).any (·.1) = false := by rfl) :
    wpAny (model X.prog X.w) X.A (getMethod (.ref so) "__init__" pl) (fun fx s₂ => wpAny (model X.prog X.w) X.A (callWith pos fx.1 fx.2 (backTo pos (starEach (e :: es) X.env)) []) R X.xe s₂) X.xe s := by
  obtain ⟨nm, q, N, bs, bm, sn, sub, ab, col, dd, k0, k1, k2, k3, k5, hC, hbm⟩ := T.oex.cls
  obtain ⟨t1, ho⟩ := exo_at I.hok hx
  have hcl : clsIn X.K C = some { name := nm, bases := bs, mro := .ref C :: bm, ns := N, qualname := q, hasDict := true, slotNames := sn, subclasses := sub, abstract := ab, collection := col, hasDel := false } := by unfold clsIn; rw [hC] <;> rfl
  have Io : InstAt s.heap x (HandSPX.excO C t1) C none := ⟨ho, rfl, rfl, trivial⟩
  have KX := I.kIn
  have hI : Looks (model X.prog X.w) s.heap (isInstance (.ref x) (.type "ValueError")) true := Io.type.andThen (looks_subIn KX T.ve)
  have hm := T.sup
  unfold ks_superIn at hm
  rw [hcl] at hm
  have hno := looks_opaque (M := model X.prog X.w) (C := C) KX T.any
  have hmro : Looks (model X.prog X.w) s.heap (mroOf (.ref C)) (.ref C :: bm) := fun A Q E s k q => wpAny_bind ((looks_clsIn KX hcl) A _ E s k (wpAny_pure q))
  have xC := ks_ne KX Io hcl
  obtain ⟨hh, g, d, t, os⟩ := s
  refine kxs_getMethod kxs_ValueError hso hno (l₀ := .ref C :: bm) hmro rfl KX hm hI xC (by decide +kernel) ?_
  have I1 : Inv X pins σ H ⟨hh.push (kxs_mw "ValueError.__init__" x), g, d, t + 1, os⟩ := I.kept (t' := t + 1) fun b o e => Heap.get?_push_of_some _ e
  have hu : (hh.push (kxs_mw "ValueError.__init__" x)).get? hh.objs.size = some (kxs_mw "ValueError.__init__" x) := Heap.get?_push_size _ rfl
  have I2 : Inv X (pins ++ [(hh.objs.size, kxs_mw "ValueError.__init__" x)]) σ H ⟨hh.push (kxs_mw "ValueError.__init__" x), g, d, t + 1, os⟩ := I1.pins_of fun p hp => (List.mem_append.mp hp).elim (fun z => I1.pin p (List.mem_append_right _ z)) fun z => by
    have e : p = (hh.objs.size, kxs_mw "ValueError.__init__" x) := List.mem_singleton.mp z
    subst e
    have f := I.fpOk (H' := H) (b := hh.objs.size) (Nat.le_refl _) (I.hok.fresh (Nat.le_refl _))
    exact ⟨hu, f.1, f.2.1, f.2.2.1, fun v z => by cases z⟩
  refine callWith_mw (i := "ValueError.__init__") (x := x) (thn (ha.run pos _ _ σ H _ I2 h) fun us s1 ⟨ws, H1, I3, rw_, hl, hx1, q1⟩ => ?_) he hpl
  have hu1 : s1.heap.get? hh.objs.size = some (kxs_mw "ValueError.__init__" x) := (I3.pin (hh.objs.size, kxs_mw "ValueError.__init__" x) (List.mem_append_right _ (List.mem_append_right _ (List.mem_singleton.mpr rfl)))).1
  refine ⟨hu1, ?_⟩
  obtain ⟨t2, ho1⟩ := exo_at I3.hok hx1
  have hlen : us.length ≤ sizeLine := by
    rw [← Paired.length rw_, sizeLine_eq]
    omega
  have KX1 := I3.kIn
  obtain ⟨h1, g1, d1, tk1, os1⟩ := s1
  refine call_mw F.excBase_ValueError (KX1 _ _ hC) ho1 hu1 hlen fun h' t3 k hx' => ?_
  have J := I3.unpinned.write (t' := tk1) (x := x) (e := x) (o := exo x C none) (by rw [hx1]; exact True.intro) (.inl rfl) k ⟨_, hx'⟩ (exo_ok hx')
  have eu : upd H1 x (exo x C none) = H1 := by
    funext b
    by_cases hb : b = x
    · rw [hb, upd_same, hx1]
    · rw [upd_ne hb]
  rw [eu] at J
  exact hR _ _ J q1
end

/-- THE RULE: a def whose first statement is super().__init__(e, ..) -/
theorem fn_super {CX : CXT} {P : Program} {w : World} {K : PySem.W.Frag} {mg : Str → Option Value} {base : Heap} {k : Nat} {f C cda cc : Addr} {name qual : Str} {params : Arguments} {ar : Arg} {rest : List Stmt} {scope : Scope} {dV kV doc pm ct oc ccl : Value} {an od cdd : Option Addr}
    {osl ccs : Array (Option Value)} {vs5 : Array Value} {file : Str} {tf : Tok} {ps : List Str} {sp : Sp} {q0 q1 q2 q3 q4 : Pos} {e : Expr} {es : List Expr}
    (lk : K.lookup f = some ⟨oc, od, .func (PySem.W.ksFn name qual params (.Expr (.Call (.Attribute (.Call (.Name "super" q0) [] [] q1) "__init__" q2) (e :: es) [] q3) q4 :: rest) scope dV kV doc pm an (.ref cda) ct cc), osl⟩)
    (hcd : PySem.W.codeIn K (.ref cda) qual = true) (hcode : K.lookup cda = some ⟨ccl, cdd, .fields vs5, ccs⟩) (hvs : vs5[2]? = some (.str file tf)) (hfile : ((P.main.file : Str) == file) = true) (htop : (P.main.scope.names.lookup ("super" : Str)).isSome = false)
    (hmg : mg "super" = none) (S : SupScope ps scope) (T : SupC K C cc) (har : (params.posonlyargs ++ params.args).head? = some ar) (hp0 : ps[0]? = some ar.arg)
    (len : ∀ vs H Q E, sp vs H Q E → vs.length = ps.length)
    (hev : ∀ env : Env, ∃ pl : Sem Bool, eval (.Call (.Attribute (.Call (.Name "super" q0) [] [] q1) "__init__" q2) (e :: es) [] q3) env = (do
      let ov ← attributeBase (.Call (.Name "super" q0) [] [] q1) "__init__" env (eval (.Call (.Name "super" q0) [] [] q1) env)
      standAt q2.atName
      let (f, first) ← holding [ov] (getMethod ov "__init__" pl)
      callWith q3 f first (backTo q3 (starEach (e :: es) env)) []))
    (hst : ∀ env : Env, starEach (e :: es) env = (false, eval e env) :: starEach es env) (hpl : ∀ env : Env, (backTo q3 (starEach es env)).any (·.1) = false)
    (hbody : ∀ (A : Around) (outer : List Env) (s : Shared) (H : Hp) (vs : List V) (Q : VK) (E : XK), Room k (A.deeper (supEnv qual scope s.heap.objs.size f cda cc)) → sp vs H Q E →
      ∃ (x : Addr) (ta : TA) (t : TS), PA (cxS CX P w K mg base ps qual scope f cda cc A outer s H E) (e :: es) ta ∧ PSs (cxS CX P w K mg base ps qual scope f cda cc A outer s H E) rest t ∧ vs[0]? = some (.ref x) ∧ H x = some (exo x C none) ∧
        ta (vs.map some) H fun ws H1 => ws.length ≤ 1000 ∧ H1 x = some (exo x C none) ∧ t { nx := fun _ H' => Q .non H', rt := Q } (vs.map some) H1) :
    FnOk P w K mg base CX (k + 1) f (PySem.W.ksFn name qual params (.Expr (.Call (.Attribute (.Call (.Name "super" q0) [] [] q1) "__init__" q2) (e :: es) [] q3) q4 :: rest) scope dV kV doc pm an (.ref cda) ct cc) ps sp := by
  refine ⟨len, fun A outer s H args us vs Q E hr e0 hb r hsp => ?_⟩
  have hl := len _ _ _ _ hsp
  have KB : K.In base := e0.mod.kin
  have KX : K.In s.heap := KB.keeps fun b o e => (e0.bs b o e).1
  have lim : s.heap.NoLimit := e0.mod.nolimit.keeps fun b o e => (e0.bs b o e).1
  obtain ⟨cl, cld, csl, lcc⟩ := T.cell
  refine ks_codeAny_call_defAt (binds := ps.zip us) hr.depth (KX _ _ lk) rfl lim (PySem.W.codeRec_of KX hcd) rfl hb S.nocell (fun y hy => S.par y.1 (List.of_mem_zip hy).1) (fun h1 hn hk => ?_) S.co S.gen S.kind
  obtain ⟨x, ta, t, ha, ht, hx0, hxo, hq⟩ := hbody A outer s H vs Q E (hr.deeper _) hsp
  have I : Inv (cxS CX P w K mg base ps qual scope f cda cc A outer s H E) [] (vs.map some) H { s with heap := h1, toks := s.toks + (ps.zip us).length } := inv_startS S hr.hd e0 hl r (KB _ _ lcc) rfl hn hk
  have fin : ∀ {σ' : L2.St} {H' : Hp} {v : V} {u : Value} {s' : Shared}, Inv (cxS CX P w K mg base ps qual scope f cda cc A outer s H E) [] σ' H' s' → RelV v u → Q v H' → CE outer P w H s Q u s' :=
    fun {σ' H' v u s'} J rv q => ⟨v, H', J.os, J.bare, J.base, J.hok, rv, q⟩
  obtain ⟨pl, hev⟩ := hev (supEnv qual scope s.heap.objs.size f cda cc)
  refine ks_wpAt_execs_cons (ks_wpAt_Expr_any (ks_wpAt_MethodCall ?_ hev) (by show _ = false; simp [interactive, PySem.callEnv, newEnv, S.kind]) rfl)
  -- the super object
  obtain ⟨nm, qn, N, bs, bm, sn, sub, ab, col, dd, k0, k1, k2, k3, k5, hC, hbm⟩ := T.oex.cls
  have KX1 : K.In h1 := KX.keeps hk
  obtain ⟨t1, ho⟩ := exo_at I.hok hxo
  obtain ⟨u0, hu0, ru0⟩ := r.get hx0
  obtain rfl : u0 = Value.ref x := ru0
  refine ks_wpAt_super_base (env := supEnv qual scope s.heap.objs.size f cda cc) S.sup S.cls (by decide +kernel) rfl (KX1 _ _ lk) rfl har rfl (KX1 _ _ hcode) rfl hvs hfile htop ?_
  refine PySem.W.ks_loadName_global S.kind S.sup ?_
  obtain ⟨mb, hm1, hm2⟩ := I.mod.blt
  refine Calls.loadGlobal_builtin (env := supEnv qual scope s.heap.objs.size f cda cc) (I.mod.glob.keeps I.bk) hmg (hm1.keeps I.bk) ((hm2 _ (by decide +kernel)).trans (show bootBuiltins "super" = some (.type "super") by first | decide +kernel | kernel_rfl)) ⟨rfl, ?_⟩
  refine wpAny_loadName_free S.kind S.cls rfl ⟨_, KX1 _ _ lcc, rfl⟩ ?_
  refine wpAny_loadName_local S.kind (S.par _ (List.mem_of_getElem? hp0)) hn (zip_lookup S.nd (by rw [← hl, r.length]) hp0 hu0) ?_
  refine ks_wpAny_isType_cls (KX1 _ _ hC) rfl ⟨rfl, ?_⟩
  refine ks_wpAny_call_super (KX1 _ _ hC) rfl ho rfl (fun c z => by cases z) (PySem.W.looks_mroIn KX1 T.self) (fun h' eso k => ?_)
  have I1 : Inv (cxS CX P w K mg base ps qual scope f cda cc A outer s H E) [] (vs.map some) H { s with heap := h', toks := s.toks + (ps.zip us).length } := I.kept (t' := s.toks + (ps.zip us).length) k
  refine super_init T I1 hxo eso ha hq (fun H1 s1 J q1 => ?_) (hst _) (hpl _)
  refine wpAt_of_wpAny (wpAny_mono (ht.run [] s1 (vs.map some) H1 _ J q1) (fun fl s' hs => ?_) fun e s' hs => hs)
  cases fl with
  | ret u =>
    obtain ⟨v, σ', H', J', rv, q⟩ := hs
    exact fin J' rv q
  | next =>
    obtain ⟨σ', H', J', q⟩ := hs
    exact fin (v := V.non) (u := Value.none) J' rfl q
  | brk =>
    obtain ⟨_, _, _, q⟩ := hs
    exact False.elim q
  | cont =>
    obtain ⟨_, _, _, q⟩ := hs
    exact False.elim q
end K31
set_option maxHeartbeats 2000000
/-! K3: Unfit and Apart, made. -/
namespace K31
open PySem PySem.Spec PyProof.Rows L2

/-- a def that closes over __class__, as it stands behind the top -/
structure FunS (P : Program) (K : PySem.W.Frag) (x qual : Str) (st : Stmt) (f cc : Addr) (fd : FuncData) : Prop where
  ex : ∃ (oc : Value) (od : Option Addr) (kV doc pm : Value) (an : Option Addr) (cda : Addr) (ct : Value) (osl : Array (Option Value)) (ccl : Value) (cdd : Option Addr) (vs5 : Array Value) (ccs : Array (Option Value)) (file : Str) (tf : Tok),
    fd = PySem.W.ksFn x qual (defArgs st) (defBody st) (defScope st) .none kV doc pm an (.ref cda) ct cc ∧ K.lookup f = some ⟨oc, od, .func fd, osl⟩ ∧ PySem.W.codeIn K (.ref cda) qual = true ∧
    K.lookup cda = some ⟨ccl, cdd, .fields vs5, ccs⟩ ∧ vs5[2]? = some (.str file tf) ∧ ((P.main.file : Str) == file) = true

/-- what can stand in the message -/
def Fm (v : V) : Prop := (∃ y : Str, v = .str y ∧ y.length ≤ 100) ∨ ∃ i : Int, v = .int i ∧ i.natAbs.log2 < 1920
def spX2 (C : Addr) (fa fb : Str) : Sp := fun vs H Q _ => ∃ (x : Addr) (a b : V), vs = [.ref x, a, b] ∧ H x = some (exo x C none) ∧ Fm a ∧ Fm b ∧
  ∀ d, H d = none → d ≠ x → Q .non (upd (upd (upd H d (exd d [(fa, a)])) x (exo x C (some d))) d (exd d [(fb, b), (fa, a)]))

theorem fm_len {v : V} (h : Fm v) : (∃ y : Str, v = .str y ∧ y.length ≤ 1921 ∧ (∀ {Q : VK} {H : Hp}, Q (.str y) H → (∃ z : Str, v = .str z ∧ z.length ≤ sizeLine ∧ Q (.str z) H) ∨ ∃ i : Int, v = .int i ∧ i.natAbs.log2 < 1920 ∧ Q (.str (toString i)) H)) ∨
    ∃ i : Int, v = .int i ∧ (Str.ofString (toString i)).length ≤ 1921 ∧ (∀ {Q : VK} {H : Hp}, Q (.str (toString i)) H → (∃ z : Str, v = .str z ∧ z.length ≤ sizeLine ∧ Q (.str z) H) ∨ ∃ j : Int, v = .int j ∧ j.natAbs.log2 < 1920 ∧ Q (.str (toString j)) H) := by
  rcases h with ⟨y, rfl, hy⟩ | ⟨i, rfl, hi⟩
  · exact .inl ⟨y, rfl, by omega, fun q => .inl ⟨y, rfl, by rw [sizeLine_eq]; omega, q⟩⟩
  · exact .inr ⟨i, rfl, int_text_len_1921 hi, fun q => .inr ⟨i, rfl, hi, q⟩⟩
/-- the text of a value in the message -/
theorem fm_txt {v : V} (h : Fm v) : ∃ y : Str, y.length ≤ 1921 ∧ ∀ {te : TE} {σ : L2.St} {H : Hp} {Q : VK}, te σ H (fun x H1 => x = v ∧ H1 = H) → (∀ Q' Q'' : VK, (∀ x H, Q' x H → Q'' x H) → te σ H Q' → te σ H Q'') → Q (.str y) H → tFmt te σ H Q := by
  rcases h with ⟨y, rfl, hy⟩ | ⟨i, rfl, hi⟩
  · refine ⟨y, by omega, fun h1 h2 q => ?_⟩
    refine h2 _ _ (fun x H1 h => ?_) h1
    obtain ⟨rfl, rfl⟩ := h
    exact .inl ⟨y, rfl, by rw [sizeLine_eq]; omega, q⟩
  · refine ⟨Str.ofString (toString i), int_text_len_1921 hi, fun h1 h2 q => ?_⟩
    refine h2 _ _ (fun x H1 h => ?_) h1
    obtain ⟨rfl, rfl⟩ := h
    exact .inr ⟨i, rfl, hi, q⟩
theorem app_len {a b : Str} {n m : Nat} (h1 : a.length ≤ n) (h2 : b.length ≤ m) : (a ++ b).length ≤ n + m := by
  rw [Str.length_append]
  omega

section
variable {P : Program} {w : World} {K : PySem.W.Frag} {mg : Str → Option Value} {base : Heap} {CX : CXT}
theorem scUnfit : SupScope ["self", "at", "what"] (defScope sUnfit) :=
  ⟨rfl, rfl, rfl, by decide +kernel, by decide +kernel, by decide +kernel, by decide +kernel, by decide +kernel, fun x h => by
    have := PySem.mem_of_lookup h
    revert this
    simp only [show (defScope sUnfit).names = [(("self" : Str), NameKind.local), ("at", .local), ("what", .local), ("__class__", .free), ("super", .globalImplicit)] from rfl]
    intro hm
    simp at hm
    exact hm⟩
theorem scApart : SupScope ["self", "at", "other"] (defScope sApart) :=
  ⟨rfl, rfl, rfl, by decide +kernel, by decide +kernel, by decide +kernel, by decide +kernel, by decide +kernel, fun x h => by
    have := PySem.mem_of_lookup h
    revert this
    simp only [show (defScope sApart).names = [(("self" : Str), NameKind.local), ("at", .local), ("other", .local), ("__class__", .free), ("super", .globalImplicit)] from rfl]
    intro hm
    simp at hm
    exact hm⟩

theorem ok_unfit_init {f C cc : Addr} {fd : FuncData} (F : FunS P K "__init__" "Unfit.__init__" sUnfit f cc fd) (htop : (P.main.scope.names.lookup ("super" : Str)).isSome = false) (hmg : mg "super" = none) (T : SupC K C cc)
    (n1 : PySem.W.findIn K (.ref C) "at" = some none) (n2 : PySem.W.findIn K (.ref C) "what" = some none) : FnOk P w K mg base CX 1 f fd ["self", "at", "what"] (spX2 C "at" "what") := by
  obtain ⟨oc, od, kV, doc, pm, an, cda, ct, osl, ccl, cdd, vs5, ccs, file, tf, rfl, lk, hcd, hcode, hvs, hfile⟩ := F.ex
  refine fn_super (k := 0) (rest := (defBody sUnfit).tail) (e := (match defBody sUnfit with | .Expr (.Call _ [e] _ _) _ :: _ => e | _ => .Constant .none 0 default)) (es := []) lk hcd hcode hvs hfile htop hmg scUnfit T rfl rfl (fun vs H Q E h => ?_) (fun env => ⟨_, rfl⟩) (fun env => rfl) (fun env => rfl) (fun A outer s H vs Q E hr h => ?_)
  · obtain ⟨x, a, b, rfl, _⟩ := h
    rfl
  · obtain ⟨x, a, b, rfl, hx, fa, fb, k⟩ := h
    refine ⟨x, _, _, pa_cons (pe_joined (.cons pe_str (.cons (pe_fmt (pv 1)) (.cons pe_str (.cons (pe_fmt (pv 2)) .nil))))) pa_nil, pss_cons (ps_ost (pv 0) (pv 1)) (pss_one (ps_ost (pv 0) (pv 2))), rfl, hx, ?_⟩
    obtain ⟨ya, la, qa⟩ := fm_txt fa
    obtain ⟨yb, lb, qb⟩ := fm_txt fb
    have e0 : (Str.empty ++ ("line " : Str)).length ≤ 5 := by decide +kernel
    have l1 : ((Str.empty ++ ("line " : Str)) ++ ya).length ≤ 5 + 1921 := app_len e0 la
    have l2 : (((Str.empty ++ ("line " : Str)) ++ ya) ++ (": " : Str)).length ≤ 5 + 1921 + 2 := app_len l1 (by decide +kernel)
    have l3 : ((((Str.empty ++ ("line " : Str)) ++ ya) ++ (": " : Str)) ++ yb).length ≤ 5 + 1921 + 2 + 1921 := app_len l2 lb
    refine ⟨_, rfl, by rw [sizeLine_eq]; omega, ?_⟩
    refine qa ⟨_, rfl, rfl, rfl⟩ (fun Q' Q'' hq ⟨v, e, z⟩ => ⟨v, e, hq _ _ z⟩) ⟨_, rfl, by rw [sizeLine_eq]; omega, ?_⟩
    refine ⟨_, rfl, by rw [sizeLine_eq]; omega, ?_⟩
    refine qb ⟨_, rfl, rfl, rfl⟩ (fun Q' Q'' hq ⟨v, e, z⟩ => ⟨v, e, hq _ _ z⟩) ⟨_, rfl, by rw [sizeLine_eq]; omega, ?_⟩
    refine ⟨by show 1 ≤ 1000; decide, hx, ?_⟩
    refine ⟨_, rfl, _, rfl, x, C, rfl, T.oex, n1, .inl ⟨hx, fun d hd hdx => ?_⟩⟩
    refine ⟨_, rfl, _, rfl, x, C, rfl, T.oex, n2, .inr ⟨d, _, upd_same, (by rw [upd_ne hdx]; exact upd_same), by show 1 ≤ 900; decide, ?_⟩⟩
    exact k d hd hdx
theorem ok_apart_init {f C cc : Addr} {fd : FuncData} (F : FunS P K "__init__" "Apart.__init__" sApart f cc fd) (htop : (P.main.scope.names.lookup ("super" : Str)).isSome = false) (hmg : mg "super" = none) (T : SupC K C cc)
    (n1 : PySem.W.findIn K (.ref C) "at" = some none) (n2 : PySem.W.findIn K (.ref C) "other" = some none) : FnOk P w K mg base CX 1 f fd ["self", "at", "other"] (spX2 C "at" "other") := by
  obtain ⟨oc, od, kV, doc, pm, an, cda, ct, osl, ccl, cdd, vs5, ccs, file, tf, rfl, lk, hcd, hcode, hvs, hfile⟩ := F.ex
  refine fn_super (k := 0) (rest := (defBody sApart).tail) (e := (match defBody sApart with | .Expr (.Call _ [e] _ _) _ :: _ => e | _ => .Constant .none 0 default)) (es := []) lk hcd hcode hvs hfile htop hmg scApart T rfl rfl (fun vs H Q E h => ?_) (fun env => ⟨_, rfl⟩) (fun env => rfl) (fun env => rfl) (fun A outer s H vs Q E hr h => ?_)
  · obtain ⟨x, a, b, rfl, _⟩ := h
    rfl
  · obtain ⟨x, a, b, rfl, hx, fa, fb, k⟩ := h
    refine ⟨x, _, _, pa_cons (pe_joined (.cons pe_str (.cons (pe_fmt (pv 1)) (.cons pe_str (.cons (pe_fmt (pv 2)) .nil))))) pa_nil, pss_cons (ps_ost (pv 0) (pv 1)) (pss_one (ps_ost (pv 0) (pv 2))), rfl, hx, ?_⟩
    obtain ⟨ya, la, qa⟩ := fm_txt fa
    obtain ⟨yb, lb, qb⟩ := fm_txt fb
    have e0 : (Str.empty ++ ("line " : Str)).length ≤ 5 := by decide +kernel
    have l1 : ((Str.empty ++ ("line " : Str)) ++ ya).length ≤ 5 + 1921 := app_len e0 la
    have l2 : (((Str.empty ++ ("line " : Str)) ++ ya) ++ (" is edited unlike line " : Str)).length ≤ 5 + 1921 + 23 := app_len l1 (by decide +kernel)
    have l3 : ((((Str.empty ++ ("line " : Str)) ++ ya) ++ (" is edited unlike line " : Str)) ++ yb).length ≤ 5 + 1921 + 23 + 1921 := app_len l2 lb
    refine ⟨_, rfl, by rw [sizeLine_eq]; omega, ?_⟩
    refine qa ⟨_, rfl, rfl, rfl⟩ (fun Q' Q'' hq ⟨v, e, z⟩ => ⟨v, e, hq _ _ z⟩) ⟨_, rfl, by rw [sizeLine_eq]; omega, ?_⟩
    refine ⟨_, rfl, by rw [sizeLine_eq]; omega, ?_⟩
    refine qb ⟨_, rfl, rfl, rfl⟩ (fun Q' Q'' hq ⟨v, e, z⟩ => ⟨v, e, hq _ _ z⟩) ⟨_, rfl, by rw [sizeLine_eq]; omega, ?_⟩
    refine ⟨by show 1 ≤ 1000; decide, hx, ?_⟩
    refine ⟨_, rfl, _, rfl, x, C, rfl, T.oex, n1, .inl ⟨hx, fun d hd hdx => ?_⟩⟩
    refine ⟨_, rfl, _, rfl, x, C, rfl, T.oex, n2, .inr ⟨d, _, upd_same, (by rw [upd_ne hdx]; exact upd_same), by show 1 ≤ 900; decide, ?_⟩⟩
    exact k d hd hdx
end

/-- C(a, b), of such a class -/
def tMkX (C : Addr) (fa fb : Str) (ta : TA) : L2.St → Hp → XK → Prop := fun σ H Q => ta σ H fun vs H1 => ∃ a b : V, vs = [a, b] ∧ Fm a ∧ Fm b ∧ ∀ d, H1 d = none → Q (.ref C) (some d) (upd H1 d (.xd [(fb, b), (fa, a)]))
theorem pmk_x2 {X : Cx} {CX : CXT} {x fa fb : Str} {C fI cc : Addr} {k : Nat} {fd : FuncData} {ps : List Str} {e : Expr} {es : List Expr} {ta : TA} {p pos : Pos} (T : SupC X.K C cc) (iC : PySem.W.findIn X.K (.ref C) "__init__" = some (some (.ref fI))) (tI : PySem.W.typeIn X.K (.ref fI) = some (.type "function"))
    (F1 : FnOk X.prog X.w X.K X.mg X.base CX k fI fd ps (spX2 C fa fb)) (hr : Room (k + 1) X.A) (hb : Binds X.K fd ps []) (hx : Passes CX X (fun _ _ _ => False)) (hg : Gl X x) (hm : X.mg x = some (.ref C)) (ha : PA X (e :: es) ta)
    (mono : ∀ (σ : L2.St) (H : Hp) (Q Q' : List V → Hp → Prop), (∀ vs H, Q vs H → Q' vs H) → ta σ H Q → ta σ H Q')
    (hdb : (x == ("__debug__" : Str)) = false := by decide) (he : starEach (e :: es) X.env = (false, eval e X.env) :: starEach es X.env := by rfl) (hpl : (backTo pos (starEach es X.env)).any (·.1) = false := by rfl) :
    PMk X (.Call (.Name x p) (e :: es) [] pos) (tMkX C fa fb ta) := by
  intro pins s σ H Q I h
  refine pmk_oex (dvs := []) T.oex iC tI F1 hr hb .nil hx hg hm ha hdb he hpl pins s σ H Q I (mono _ _ _ _ (fun vs H1 q => ?_) h)
  obtain ⟨a, b, rfl, fma, fmb, q⟩ := q
  refine ⟨by show 2 ≤ 1000; decide, fun o ho => ?_⟩
  refine ⟨o, a, b, rfl, upd_same, fma, fmb, fun d hd hdo => ?_⟩
  have hd1 : H1 d = none := by rw [upd_ne hdo] at hd; exact hd
  refine ⟨rfl, d, [(fb, b), (fa, a)], by rw [upd_ne (Ne.symm hdo)]; exact upd_same, upd_same, hd1, ?_⟩
  have e1 : upd (del (upd (upd (upd (upd H1 o (exo o C none)) d (exd d [(fa, a)])) o (exo o C (some d))) d (exd d [(fb, b), (fa, a)])) o) d (.xd [(fb, b), (fa, a)]) = upd H1 d (.xd [(fb, b), (fa, a)]) := by
    funext z
    by_cases hz : z = d
    · rw [hz, upd_same, upd_same]
    · rw [upd_ne hz, upd_ne hz]
      by_cases hzo : z = o
      · rw [hzo, del_same, ho]
      · rw [del_ne hzo, upd_ne hz, upd_ne hzo, upd_ne hz, upd_ne hzo]
  rw [e1]
  exact q d hd1
end K31
set_option maxHeartbeats 2000000
/-! K4: a list comprehension whose element is a call that may raise. -/
namespace K31
open PySem PySem.Spec PyProof.Rows L2

/-- the block's context, an exception of its element wished for as the def wishes -/
abbrev blkW (X : Cx) (s : Shared) (H : Hp) (scope : Scope) (cenv : Env) (fp : List Addr) : Cx := (X.blk s H scope cenv fp).wish (notedBy (model X.prog X.w) X.A cenv (CompFails (model X.prog X.w) X.A X.xe cenv))

section
variable {X : Cx} {pins pins' : List (Addr × Obj)} {σ σ' : L2.St} {H3 H' : Hp} {s3 s s1 : Shared} {W : WX} {E : XK}
/-- out of the block -/
theorem blk_out {scope : Scope} {cenv : Env} {fp : List Addr} (hs : X.stack = X.env :: X.outer) (hf : X.env.frame = some X.env.locals) (tk : Takes X W) (I3 : Inv X pins σ H3 s3) (f3 : ∀ b ∈ fp, FpOk X pins H3 b ∧ b < s3.heap.objs.size)
    (cL : cenv.locals = s3.heap.objs.size) (cF : cenv.frame = X.env.frame) (hW : ∀ cls d H, E cls d H → W cls d σ H) (I : Inv (blkW X s3 H3 scope cenv fp) pins' σ' H' s) {u : Value} (c : L2.CX X.prog X.w X.stack H' s E u s1) :
    notedBy (model X.prog X.w) X.A cenv (CompFails (model X.prog X.w) X.A X.xe cenv) u s1 := by
  obtain ⟨a, B, H1, cls, d, rfl, fl, hok, ub, na, os, ag, hE⟩ := c
  -- the state without the exception, as XE.of_call has it
  obtain ⟨G, g1, g2⟩ := restrict s1.heap fun b => (B.get? b).isSome || decide (b ∈ frs X.stack)
  have st : B.StaysIn s1.heap := fl.1
  have gB : ∀ b o, B.get? b = some o → G.get? b = some o := fun b o e => by
    rw [g1 b (by simp [e])]
    exact st b o e
  have gF : ∀ b, b ∈ frs X.stack → G.get? b = s1.heap.get? b := fun b hb => g1 b (by simp [hb])
  have og : ∀ b o, G.get? b = some o → s1.heap.get? b = some o ∧ ((B.get? b).isSome = true ∨ b ∈ frs X.stack) := fun b o e => by
    cases q : ((B.get? b).isSome || decide (b ∈ frs X.stack)) with
    | false => rw [g2 b q] at e; cases e
    | true =>
      rw [g1 b q] at e
      exact ⟨e, by simpa [Bool.or_eq_true] using q⟩
  have nb0 : ∀ b o, G.get? b = some o → b ∉ frs X.stack → B.get? b = some o := fun b o e hb => by
    obtain ⟨e', h⟩ := og b o e
    rcases h with h | h
    · obtain ⟨o', q⟩ := Option.isSome_iff_exists.mp h
      have z := st b o' q
      rw [e'] at z; cases z
      exact q
    · exact absurd h hb
  have IY : Inv (blkW X s3 H3 scope cenv fp) pins' σ' H1 { s with heap := G, gens := s1.gens, drawn := s1.drawn, toks := s1.toks } := by
    refine I.call (ch := []) ⟨fun b o e n hb _ => gB b o (ub.keep b o e n hb), fun b o e n hb _ => ?_, fun b o e n _ => ub.free b o e n, fun b o e _ => ?_, ub.tups, ub.frzs, ub.tbls⟩ (hok.kept gB) ag (fun _ z => nomatch z)
    · obtain ⟨sl, q⟩ := ub.slot b o e hb
      exact ⟨sl, by rw [gF b hb]; exact q⟩
    · by_cases hb : b ∈ frs X.stack
      · obtain ⟨sl, q⟩ := ub.slot b o e hb
        exact ⟨_, by rw [gF b hb]; exact q⟩
      · obtain ⟨o', q⟩ := ub.there b o e hb
        exact ⟨o', gB b o' q⟩
  -- back in the def's context
  have J : Inv X pins σ H1 { s with heap := G, gens := s1.gens, drawn := s1.drawn, toks := s1.toks } := I3.call' (ch := fp) IY.os IY.base IY.hok IY.bare fun b hb => ⟨(f3 b hb).1.2.2.2.1, (f3 b hb).1.2.1, (f3 b hb).1.2.2.2.2.1, (f3 b hb).1.2.2.2.2.2⟩
  have nC : H1 s3.heap.objs.size = none := by
    have z : H1 cenv.locals = none := IY.free
    rw [cL] at z
    exact z
  have fC : FpOk X pins H1 s3.heap.objs.size := I3.fpOk (Nat.le_refl _) nC
  obtain ⟨f0, f1, f2, f3', f4, f5⟩ := fC
  have cNs : s3.heap.objs.size ∉ frs X.stack := fun hm => by
    rcases List.mem_cons.mp (I3.stkSub _ hm) with z | z
    · exact f1 z
    · exact f2 z
  obtain ⟨m0, hn0, _⟩ := IY.loc
  have hn0 : G.Ns s3.heap.objs.size m0 := by rw [← cL]; exact hn0
  have hn1 : s1.heap.Ns s3.heap.objs.size m0 := by
    obtain ⟨o, es, ep, e, d0, r⟩ := hn0
    exact ⟨o, es, ep, (og _ _ e).1, d0, r⟩
  have hfr : X.A.frames = some (X.env :: X.outer) := by rw [I3.ok.frames, hs]
  have fl' : HandSPX.FlyingZ B (X.env :: X.outer) a (Zc cls d) s1.heap := by rw [← hs]; exact fl
  have fl0 := fl
  -- the ground without C
  obtain ⟨B', b1, b2⟩ := restrict B fun b => decide (b ≠ s3.heap.objs.size)
  have bne : ∀ b, b ≠ s3.heap.objs.size → B'.get? b = B.get? b := fun b hb => b1 b (decide_eq_true hb)
  have bC : B'.get? s3.heap.objs.size = none := b2 _ (by simp)
  have bof : ∀ b o, B'.get? b = some o → B.get? b = some o ∧ b ≠ s3.heap.objs.size := fun b o e => by
    by_cases hb : b = s3.heap.objs.size
    · rw [hb, bC] at e; cases e
    · exact ⟨by rw [← bne b hb]; exact e, hb⟩
  obtain ⟨G', h1, h2⟩ := restrict G fun b => decide (b ≠ s3.heap.objs.size)
  have gne : ∀ b, b ≠ s3.heap.objs.size → G'.get? b = G.get? b := fun b hb => h1 b (decide_eq_true hb)
  have gof : ∀ b o, G'.get? b = some o → G.get? b = some o ∧ b ≠ s3.heap.objs.size := fun b o e => by
    by_cases hb : b = s3.heap.objs.size
    · rw [hb, h2 _ (by simp)] at e; cases e
    · exact ⟨by rw [← gne b hb]; exact e, hb⟩
  have J' : Inv X pins σ H1 { s with heap := G', gens := s1.gens, drawn := s1.drawn, toks := s1.toks } := J.turned (t' := s1.toks) (h' := G') (fun b o hb e => by rw [gne b hb]; exact e) f0 f1 f3' f4 f5
  -- the walk
  show wpAny (model X.prog X.w) X.A (noteFrame (.ref a) cenv) _ _ s1
  rw [noteFrame_env _ cF]
  refine HandSPX.looks_onZ Zc.steady hfr hf fl' fun h3 hh up3 => ?_
  have hn3 : h3.Ns s3.heap.objs.size m0 := by
    obtain ⟨o, es, ep, e, d0, r⟩ := hn1
    obtain ⟨sl, e2⟩ := up3 _ _ e (fun vs z => by rw [d0] at z; cases z)
    exact ⟨_, es, ep, e2, d0, r⟩
  refine ⟨m0, by show h3.Ns cenv.locals m0; rw [cL]; exact hn3, fun h4 m4 hn4 sb => ?_⟩
  have hn4 : h4.Ns s3.heap.objs.size m4 := by rw [← cL]; exact hn4
  have sb : Heap.SameBut s3.heap.objs.size h3 h4 := by
    have z : Heap.SameBut cenv.locals h3 h4 := sb
    rw [cL] at z
    exact z
  obtain ⟨k1, k2, k3, k4⟩ := hh
  have k3' : h4.FunFrames B (X.env :: X.outer) := Heap.FunFrames.sameBut sb hn4 k3
  have held : HandSPX.HeldZ B' (X.env :: X.outer) a (Zc cls d) X.env.locals h4 := by
    obtain ⟨oe, vs, T, oT, ts, he, hz, hd, hv1, hnT, hTe, hT, hdT, hv3⟩ := k4
    have notC : ∀ {b : Addr} {o : Obj} {vs : Array Value}, h3.get? b = some o → o.data = .fields vs → b ≠ s3.heap.objs.size := fun {b o vs} e dd z => by
      obtain ⟨o', es, ep, e', d0, r⟩ := hn3
      rw [z, e'] at e
      cases e
      rw [d0] at dd
      cases dd
    refine ⟨fun b o e => ?_, ?_, funFrames_none k3' fun L hL => ?_, oe, vs, T, oT, ts, (sb.2 a (notC he hd)).trans he, hz, hd, hv1, ?_, hTe, (sb.2 T (notC hT hdT)).trans hT, hdT, hv3⟩
    · obtain ⟨e1, hb⟩ := bof b o e
      exact (sb.2 b hb).trans (k1 b o e1)
    · cases q : B'.get? a with
      | none => rfl
      | some o =>
        rw [(bof a o q).1] at k2
        cases k2
    · cases q : B'.get? L with
      | none => rfl
      | some o =>
        have z := (k3'.mem hL).1
        rw [(bof L o q).1] at z
        cases z
    · cases q : B'.get? T with
      | none => rfl
      | some o =>
        rw [(bof T o q).1] at hnT
        cases hnT
  obtain ⟨oe, vs, T, oT, ts, he, hz, hd, hv1, hr⟩ := held.2.2.2
  unfold PySem.passOn
  refine wpAny_bind (wpAny_field he hd hv1 ?_)
  rw [if_neg (show ¬ ((Value.ref T == Value.none) = true) from by simp)]
  rw [show cenv.frame = some X.env.locals from cF.trans hf]
  have fin : wpAny (model X.prog X.w) X.A (setFlight (.ref a) (some X.env.locals)) (fun _ s4 => wpAny (model X.prog X.w) X.A (throw (.ref a) : Sem Value) (fun _ _ => False) X.xe s4) X.xe { s1 with heap := h4 } := by
    refine HandSPX.setFlight_onZ held fun h5 hh5 up5 => wpAny_throw (tk _ _ ?_)
    refine ⟨a, B', { s with heap := G', gens := s1.gens, drawn := s1.drawn, toks := s1.toks }, pins, σ, H1, cls, d, rfl, J', fun b o e hb => ?_, fun b o e hnf => ?_, .inr (.inr (by rw [hs]; exact hh5)), na, os, ag, hW _ _ _ hE⟩
    · obtain ⟨e1, hbC⟩ := gof b o e
      rw [bne b hbC]
      exact nb0 b o e1 hb
    · obtain ⟨e1, hbC⟩ := gof b o e
      obtain ⟨sl, e2⟩ := up3 b o (og b o e1).1 hnf
      have e3 := (sb.2 b hbC).trans e2
      obtain ⟨sl5, e5⟩ := up5 b _ e3 hnf
      exact ⟨sl5, e5⟩
  first
    | exact wpAny_bind (wpAny_pure (wpAny_bind fin))
    | exact wpAny_bind fin
end
end K31
set_option maxHeartbeats 2000000
/-! K5: the rule for it. -/
namespace K31
open PySem PySem.Spec PyProof.Rows L2

section
variable {X : Cx} {W : WX}
/-- [elt for target in iter if ..], elt may raise: W' what is wished of it at the slots of the def -/
theorem pe_lcX {elt tg iter : Expr} {ifs : List Expr} {scope : Scope} {own : List (Str × Nat)} {pos : Pos} {wi : TI} {g : TG} {tt : TT} {te : XK → TE} {E : XK} (hs0 : X.stack = X.env :: X.outer) (hf0 : X.env.frame = some X.env.locals) (tk : Takes X W) (hW : ∀ cls d σ H, E cls d H → W cls d σ H)
    (hc : X.calm = true) (hN : X.N.Nodup) (hi : PI X tg iter wi) (ok : BlkOk X.N X.env.scope scope own)
    (hg : ∀ (s : Shared) (H : Hp) (C : Addr) (cl : List (Str × Addr)) (fp : List Addr), PG (blkW X s H scope (compEnvC scope cl C X.env) fp) tg g) (ht : ∀ (s : Shared) (H : Hp) (C : Addr) (cl : List (Str × Addr)) (fp : List Addr), PTs (blkW X s H scope (compEnvC scope cl C X.env) fp) ifs tt)
    (he : ∀ (s : Shared) (H : Hp) (C : Addr) (cl : List (Str × Addr)) (fp : List Addr), Passes (L2.CX X.prog X.w) (blkW X s H scope (compEnvC scope cl C X.env) fp) E → PE (blkW X s H scope (compEnvC scope cl C X.env) fp) elt (te E)) (hs : ∀ x, foldedSetIterable iter X.env x = pure x := by intro _; rfl) :
    PE X (.ListComp elt [⟨tg, iter, ifs, 0⟩] scope pos) (tLc wi g tt (te E) (own.map (·.2))) := by
  refine ⟨fun pins s σ H Q I h => ?_⟩
  rw [eval_ListComp]
  have hfree : ∀ y ∈ scope.names, y.2 = .free → ∃ c, X.env.cells.lookup y.1 = some c := fun y hy e => by
    rcases ok.free y hy e with k | k
    · exact I.ok.has _ (.inl k)
    · exact I.ok.has _ (.inr k)
  refine comprehension_at (use := none) rfl hs (closure_ok hfree) ok.kind (fun y hy e => by rw [ok.uniq y hy, e])
    (thn (hi.run pins s σ H _ I h) fun xv s1 hx => thn hx fun itv s2 h2 => ?_)
  obtain ⟨it, fp, tn, J, H2, e, I2, T, st2, f2, q⟩ := h2
  subst e
  refine wpAny_newObj_type (newEnv_comp ?_) (by show 0 ≤ sizeLine; decide)
  generalize hD : s2.heap.objs.size = D
  have hDn : H2 D = none := I2.hok.fresh (Nat.le_of_eq hD)
  obtain ⟨W', ⟨m0, w0⟩, turn⟩ := q D hDn
  -- the new list
  generalize hs3 : ({ s2 with heap := s2.heap.push { cls := .type "list", data := .seq ([] : List Value).toArray } } : Shared) = s3
  have I3 : Inv X pins σ (upd H2 D (.lst [])) s3 := by
    rw [← hs3]
    refine I2.laid (t' := s2.toks) (fun b o e => Heap.get?_push_of_some _ e) (Nat.le_of_eq hD) ⟨Nat.zero_le _, [], 0, .nil, ?_⟩
    rw [← hD]
    exact Heap.get?_push_size _ rfl
  have h3 : s3.heap = s2.heap.push { cls := .type "list", data := .seq ([] : List Value).toArray } := by rw [← hs3]
  have sz : ∀ b ∈ fp, b < s2.heap.objs.size := fun b hb => by
    obtain ⟨o, e, _⟩ := T.obj _ _ st2 b hb
    exact Heap.lt_size e
  have f3 : ∀ b ∈ fp, FpOk X pins (upd H2 D (.lst [])) b ∧ b < s3.heap.objs.size := fun b hb => by
    have hlt := sz b hb
    refine ⟨⟨?_, (f2 b hb).2⟩, by rw [h3, Heap.size_push]; exact Nat.lt_succ_of_lt hlt⟩
    rw [upd_ne (by rw [← hD]; exact Nat.ne_of_lt hlt)]
    exact (f2 b hb).1
  have st3 : tn 0 s3.heap := T.keep _ _ _ st2 fun b _ o e => by rw [h3]; exact Heap.get?_push_of_some _ e
  have I4 := (block_start I3 ok hN f3).wish (notedBy (model X.prog X.w) X.A (compEnvC scope (cellsFrom (s3.heap.objs.size + 1) scope.names (cloFrom X.env.cells scope.names [])) s3.heap.objs.size X.env) (CompFails (model X.prog X.w) X.A X.xe (compEnvC scope (cellsFrom (s3.heap.objs.size + 1) scope.names (cloFrom X.env.cells scope.names [])) s3.heap.objs.size X.env)))
  have pg := hg s3 (upd H2 D (.lst [])) s3.heap.objs.size (cellsFrom (s3.heap.objs.size + 1) scope.names (cloFrom X.env.cells scope.names [])) fp
  have pt := ht s3 (upd H2 D (.lst [])) s3.heap.objs.size (cellsFrom (s3.heap.objs.size + 1) scope.names (cloFrom X.env.cells scope.names [])) fp
  have pe := he s3 (upd H2 D (.lst [])) s3.heap.objs.size (cellsFrom (s3.heap.objs.size + 1) scope.names (cloFrom X.env.cells scope.names [])) fp fun pinsY σY HY sY eY s1Y IY cY => blk_out (scope := scope) (cenv := compEnvC scope (cellsFrom (s3.heap.objs.size + 1) scope.names (cloFrom X.env.cells scope.names [])) s3.heap.objs.size X.env) (fp := fp) hs0 hf0 tk I3 f3 rfl rfl (fun cls d H z => hW cls d σ H z) IY cY
  show codeAny _ _ (.compStart (.ListComp elt [⟨tg, iter, ifs, 0⟩] scope pos) 0 (.ref it) (.ref D) (compEnvC scope (cellsFrom (s3.heap.objs.size + 1) scope.names (cloFrom X.env.cells scope.names [])) s3.heap.objs.size X.env)) (compEnds (model X.prog X.w) X.A X.xe none _ (.ref D) (compEnvC scope (cellsFrom (s3.heap.objs.size + 1) scope.names (cloFrom X.env.cells scope.names [])) s3.heap.objs.size X.env)) { s3 with heap := pushCells (s3.heap.push { cls := .type "dict", data := .dict #[] }) scope.names }
  have nfp : ∀ b ∈ fp, (upd H2 D (.lst [])) b = none := fun b hb => (f3 b hb).1.1
  generalize hce : compEnvC scope (cellsFrom (s3.heap.objs.size + 1) scope.names (cloFrom X.env.cells scope.names [])) s3.heap.objs.size X.env = ce at I4 pg pt pe ⊢
  have cL : ce.locals = s3.heap.objs.size := by subst hce; rfl
  generalize hH3 : upd H2 D (.lst []) = H3 at I3 I4 pg pt pe w0 nfp f3
  generalize hs4 : ({ s3 with heap := pushCells (s3.heap.push { cls := .type "dict", data := .dict #[] }) scope.names } : Shared) = s4 at I4 ⊢
  have st4 : tn 0 s4.heap := T.keep _ _ _ st3 fun b _ o e => by rw [← hs4]; exact pushCells_keeps _ _ _ _ (Heap.get?_push_of_some _ e)
  have stat : ∀ {σ' : L2.St} {H' : Hp} {s' : Shared}, Inv (blkW X s3 H3 scope ce fp) [] σ' H' s' → (∀ b ∈ fp, H' b = none) → ∀ b ∈ fp, FpOk (blkW X s3 H3 scope ce fp) [] H' b := fun {σ' H' s'} I' hn b hb =>
    ⟨hn b hb, (I'.ok.exf b hb).1, I'.ok.exfs b hb, .inl hb, fun x c e => (I'.ok.exf b hb).2 x c e, fun p hp => absurd (show p ∈ ([] : List (Addr × Obj)) ++ [] from hp) (by simp)⟩
  have loop : codeAny (model X.prog X.w) X.A (.compLoop (.ListComp elt [⟨tg, iter, ifs, 0⟩] scope pos) 0 (.ref it) (.ref D) ce) (compEnds (model X.prog X.w) X.A X.xe none (EP X pins σ Q) (.ref D) ce) s4 := by
    refine compLoop_any (fun n s' => ∃ i H', Inv (blkW X s3 H3 scope ce fp) [] (wipe σ (own.map (·.2))) H' s' ∧ tn i s'.heap ∧ (∀ b ∈ fp, H' b = none) ∧ W' i n H') ?_ m0 ⟨0, H3, I4, st4, nfp, w0⟩
    rintro n s5 ⟨i, H5, I5, st5, n5, w5⟩
    rcases turn i n H5 w5 with ⟨stop, qq⟩ | ⟨go, Nx, hNx, step⟩
    · have td := T.done (blkW X s3 H3 scope ce fp) rfl rfl rfl hc i [] s5 _ H5 (fun _ _ => False) I5 (stat I5 n5) st5 stop
      refine thnF td fun r s6 ⟨hr, I6⟩ => ?_
      subst hr
      -- back in the def's context
      have I7 : Inv X pins σ H5 s6 := I3.call' (ch := fp) I6.os I6.base I6.hok I6.bare fun b hb => ⟨(f3 b hb).1.2.2.2.1, (f3 b hb).1.2.1, (f3 b hb).1.2.2.2.2.1, (f3 b hb).1.2.2.2.2.2⟩
      have nC : H5 s3.heap.objs.size = none := by
        have z : H5 ce.locals = none := I6.free
        rw [cL] at z
        exact z
      obtain ⟨m, hn, _⟩ := I6.loc
      have hn : s6.heap.Ns ce.locals m := hn
      refine ⟨m, hn, fun h'' sb => ?_⟩
      have sb : Heap.SameBut s3.heap.objs.size s6.heap h'' := by
        have z : Heap.SameBut ce.locals s6.heap h'' := sb
        rw [cL] at z
        exact z
      obtain ⟨f0, f1, f2, f3', f4, f5⟩ := I3.fpOk (Nat.le_refl _) nC
      exact ⟨.ref D, H5, I7.turned (t' := s6.toks) (fun b o hb e => (sb.2 b hb).trans e) f0 f1 f3' f4 f5, rfl, qq⟩
    · have ti := T.item (blkW X s3 H3 scope ce fp) rfl rfl rfl hc i [] s5 _ H5 (fun _ _ => False) I5 (stat I5 n5) st5 go
      refine thnF ti fun r s6 ⟨u, hr, h6⟩ => ?_
      subst hr
      refine thnF h6 fun _ s7 ⟨x, H7, I7, r7, y7, st7, n7⟩ => ?_
      have I7' := I7.pinned (stat I7 n7) (T.obj _ _ st7)
      refine thn (pg.run _ s7 _ H7 x u _ I7' r7 (step x H7 y7)) fun _ s8 ⟨σ8, H8, I8, hw8, q8⟩ => ?_
      refine thn (pt.run _ s8 σ8 H8 _ I8 q8) fun b s9 ⟨H9, I9, q9⟩ => ?_
      -- the turn's end
      have fin : ∀ {s' : Shared} {H' : Hp}, Inv (blkW X s3 H3 scope ce fp) ([] ++ pinsAt fp s7.heap) σ8 H' s' → Nx H' → ∃ m, m < n ∧ ∃ i H', Inv (blkW X s3 H3 scope ce fp) [] (wipe σ (own.map (·.2))) H' s' ∧ tn i s'.heap ∧ (∀ b ∈ fp, H' b = none) ∧ W' i m H' := fun {s' H'} I' nx => by
        obtain ⟨m', hm, w'⟩ := hNx H' nx
        have pin' : ∀ b ∈ fp, ∀ o, s7.heap.get? b = some o → s'.heap.get? b = some o ∧ H' b = none := fun b hb o e =>
          let z := I'.pin (b, o) (List.mem_append_right _ (List.mem_append_right _ (mem_pinsAt hb e)))
          ⟨z.1, z.2.1⟩
        have hl : (wipe σ (own.map (·.2))).length = σ8.length := by rw [← hw8, wipe_length]
        refine ⟨m', hm, i + 1, H', (I'.unpinned (pins := [])).weak hl (fun j v e => ?_), T.keep _ _ _ st7 fun b hb o e => (pin' b hb o e).1, fun b hb => ?_, w'⟩
        · rw [← hw8] at e
          exact (wipe_some e).1
        · obtain ⟨o, e, _⟩ := T.obj _ _ st7 b hb
          exact (pin' b hb o e).2
      cases b with
      | false =>
        simp only [Bool.false_eq_true, if_false] at q9 ⊢
        exact fin I9 q9
      | true =>
        simp only [if_true] at q9 ⊢
        refine thn (pe.run _ s9 σ8 H9 _ I9 q9) fun z s10 ⟨yv, H10, I10, r10, acc, hD10, hz10, nx⟩ => ?_
        exact app_ok (X := blkW X s3 H3 scope ce fp) I10 hD10 hz10 r10 fun s11 I11 => fin I11 nx
  exact codeAny_compStart_list loop (T.self X.A 0 _ _ _ st4 loop)
end
end K31
set_option maxHeartbeats 4000000
/-! K6: several clauses 'except x as n'; isinstance of a caught error that has a dict. -/
namespace K31
open PySem PySem.Spec PyProof.Rows L2

/-- what the clauses (each 'as n', slot i) wish of an exception of the body, one after the other -/
def wManyAs (K : PySem.W.Frag) (i : Nat) (Wout : WX) (D : Ends) : List (Value × (Addr → Value → Option Addr → TS)) → WX
  | [] => Wout
  | (c, ts) :: r => fun cls d σ H => ∃ b, PySem.W.exmOne K cls c = some b ∧
      (b = true → ∀ a, H a = none → ts a cls d { nx := fun σ' H' => D.nx (σ'.set i none) H', rt := D.rt, bk := fun σ' H' => D.bk (σ'.set i none) H', ct := fun σ' H' => D.ct (σ'.set i none) H' } (σ.set i (some (.ref a))) H) ∧
      (b = false → wManyAs K i Wout D r cls d σ H)
inductive HdsAs (X : Cx) (n : Str) : List ExceptHandler → List (Value × (Addr → Value → Option Addr → TS)) → Prop
  | nil : HdsAs X n [] []
  | cons {x : Str} {c : Value} {ts : Addr → Value → Option Addr → TS} {b₀ : Stmt} {suite : List Stmt} {np pos' : Pos} {hds : List ExceptHandler} {l : List (Value × (Addr → Value → Option Addr → TS))} (hc : Names X x c)
      (hsu : ∀ (a : Addr) (oe : Obj) (cls : Value) (d : Option Addr) (pn : List (Addr × Obj)), Zc cls d oe → (∃ vs, oe.data = .fields vs) → PSs (X.suite a ((a, oe) :: pn)) (b₀ :: suite) (ts a cls d)) (r : HdsAs X n hds l) :
      HdsAs X n (.ExceptHandler (some (.Name x np)) (some n) (b₀ :: suite) pos' :: hds) ((c, ts) :: l)
section
variable {X : Cx} {n : Str} {i : Nat} {body : List Stmt} {h₀ : ExceptHandler} {hds : List ExceptHandler} {l : List (Value × (Addr → Value → Option Addr → TS))} {pos : Pos} {tb : WX → TS} {Wout : WX}
theorem ps_try_manyAs (hs : X.stack = X.env :: X.outer) (hf : X.env.frame = some X.env.locals) (hN : X.N.Nodup) (hi : X.N[i]? = some n) (hln : X.env.kindOf n = some .local) (tk : Takes X Wout)
    (hb : ∀ (W : WX) (pn : List (Addr × Obj)) (xe : Value → Shared → Prop), Takes (X.tr pn xe) W → PassesOwn (model X.prog X.w) X.A X.env xe → PSs (X.tr pn xe) body (tb W))
    (hh : HdsAs X n (h₀ :: hds) l) : PS X (.Try body (h₀ :: hds) [] [] pos) (fun D σ H => tb (wManyAs X.K i Wout D l) D σ H) := by
  refine ⟨fun pins s σ H D I h => ?_⟩
  have ok := I.ok
  have hfr : X.A.frames = some (X.env :: X.outer) := by rw [ok.frames, hs]
  have hloc : Loc X.env.scope n := .inl hln
  refine wpAny_Try_except ?_
  refine wpAny_mono ((hb (wManyAs X.K i Wout D l) (X.pn ++ pins) (fun e s₁ => wpAny (model X.prog X.w) X.A (noteFrame e X.env) (fun _ s₂ => wpAny (model X.prog X.w) X.A (setFlight e none) (fun _ s₃ =>
    wpAny (model X.prog X.w) X.A (handleBy e X.env (h₀ :: hds)) (SP X pins D) X.xe s₃) X.xe s₂) X.xe s₁) (fun u s' xx => ?_) PassesOwn.looking).run [] s σ H D (I.toTry _) h) (fun f s1 hsp => ?_) (fun e s1 he => he)
  · -- the catch
    obtain ⟨a, B, sI, pins', σ', H', cls, d, rfl, J', nb, up, sky, na, os, ag, w⟩ := xx
    have J : Inv X pins σ' H' sI := J'.ofTry ok
    have sky' : Sky B (X.env :: X.outer) a (Zc cls d) X.env.locals s'.heap := by rw [← hs]; exact sky
    show wpAny (model X.prog X.w) X.A (noteFrame (.ref a) X.env) _ _ _
    refine Sky.land Zc.steady hfr hf sky' fun h3 fl3 up3 => ?_
    have J3 : Inv X pins σ' H' { s' with heap := h3 } := J.landed nb fl3.1 (up.trans up3) os ag
    obtain ⟨oe3, vs3, he3, hz3, hd3⟩ := fl3.there
    have notFr : ∀ {h : Heap} {o : Obj} {vs : Array Value}, h.FunFrames B (X.env :: X.outer) → h.get? a = some o → o.data = .fields vs → a ∉ frs (X.env :: X.outer) := fun {h o vs} ff e dd hm => by
      obtain ⟨_, o', e', hnf⟩ := ff.mem hm
      rw [e] at e'; cases e'
      exact hnf _ dd
    have nfr := notFr fl3.2.2.1 he3 hd3
    have nL : a ≠ X.env.locals := fun z => nfr (List.mem_filterMap.mpr ⟨X.env, List.mem_cons_self, by rw [hf, z]⟩)
    have nF : a ∉ X.fs := fun hm => by
      obtain ⟨e, he, q⟩ := List.mem_filterMap.mp hm
      exact nfr (List.mem_filterMap.mpr ⟨e, List.mem_cons_of_mem _ he, q⟩)
    have S3 := J3.suite he3 hd3 na nL nF
    have go : ∀ {hds' : List ExceptHandler} {l' : List (Value × (Addr → Value → Option Addr → TS))}, HdsAs X n hds' l' → wManyAs X.K i Wout D l' cls d σ' H' →
        wpAny (model X.prog X.w) X.A (handleBy (.ref a) X.env hds') (SP X pins D) X.xe { s' with heap := h3 } := by
      intro hds' l' hk
      induction hk with
      | nil =>
        intro w
        refine wpAny_handleBy_nil ?_
        obtain ⟨k1, k2, k3, oe, vs, T, oT, ts', he, hz, hd, h1, hr⟩ := id fl3
        unfold PySem.passOn
        refine wpAny_bind (wpAny_field he hd h1 ?_)
        rw [if_neg (show ¬ ((Value.ref T == Value.none) = true) from by simp)]
        have fin : wpAny (model X.prog X.w) X.A (setFlight (.ref a) X.env.frame) (fun _ s4 => wpAny (model X.prog X.w) X.A (throw (.ref a) : Sem Flow) (SP X pins D) X.xe s4) X.xe { s' with heap := h3 } := by
          rw [hf]
          refine HandSPX.setFlight_upZ fl3 fun h4 hh4 up4 => wpAny_throw (tk _ _ ?_)
          exact ⟨a, B, sI, pins, σ', H', cls, d, rfl, J, nb, (up.trans up3).trans up4, .inr (.inr (by rw [hs]; exact hh4)), na, os, ag, w⟩
        first
          | exact wpAny_bind (wpAny_pure (wpAny_bind fin))
          | exact wpAny_bind fin
      | @cons x c ts b₀ suite np pos' hds2 l2 hc hsu r ih =>
        intro w
        obtain ⟨b, hb1, hyes, hno⟩ := w
        refine wpAny_handleBy_cons (codeAny_handlers_test ?_) (by intro q; cases q)
        have LT : PySem.W.Looks (model X.prog X.w) h3 (typeOf (.ref a)) cls := fun A Q E s k q => wpAny_typeOf_ref (k _ _ he3) (by rw [hz3.1]; exact q)
        have LM := PySem.W.exm_one (M := model X.prog X.w) (J3.kIn) LT hb1
        have test : ∀ {Q : Value → Shared → Prop} {E : Value → Shared → Prop}, Q c { s' with heap := h3 } → wpAny (model X.prog X.w) (X.A.mark (some (.ref a))) (eval (.Name x np) X.env) Q E { s' with heap := h3 } := fun {Q E} q => by
          obtain ⟨hg, hdbg, hm | ⟨hm, hv, hnn⟩⟩ := hc
          · exact ld_glob (X := X.suite a ((a, oe3) :: (X.pn ++ pins))) S3 hg hm q hdbg
          · exact ld_blt (X := X.suite a ((a, oe3) :: (X.pn ++ pins))) S3 hg hm hv q hnn hdbg
        refine test (LM.here ?_)
        cases b with
        | true =>
          refine codeAny_handlers_suite_as ?_
          refine HandSPX.lands_againZ fl3 fun h4 fl4 up4 => ?_
          have J4 : Inv X pins σ' H' { s' with heap := h4 } := J.landed nb fl4.1 ((up.trans up3).trans up4) os ag
          obtain ⟨oe4, vs4, he4, hz4, hd4⟩ := fl4.there
          have S4 := J4.suite he4 hd4 na nL nF
          refine store_ok (X := X.suite a ((a, oe4) :: (X.pn ++ pins))) (v := .ref a) S4 hN hi hloc rfl (fun s5 S5 => ?_) (.inr hln)
          refine wpAny_mono ((hsu a oe4 cls d (X.pn ++ pins) hz4 ⟨_, hd4⟩).run [] s5 _ H' _ S5 (hyes rfl a na)) (fun f s6 hsp => ?_) (fun _ _ z => False.elim z)
          have end_ : ∀ {σ6 : L2.St} {H6 : Hp} {Q : Shared → Prop}, Inv (X.suite a ((a, oe4) :: (X.pn ++ pins))) [] σ6 H6 s6 → (∀ s7, Inv X pins (σ6.set i none) H6 s7 → Q s7) →
              wpAny (model X.prog X.w) X.A (do bindName X.env n .none; unbindBehindTheSuite X.env n pos') (fun _ s7 => Q s7) X.xe s6 := fun {σ6 H6 Q} S6 hq => gone_ok (S6.unsuite ok) hN hi hln hq
          cases f with
          | next =>
            obtain ⟨σ6, H6, S6, q6⟩ := hsp
            exact end_ S6 fun s7 J7 => ⟨_, _, J7, q6⟩
          | brk =>
            obtain ⟨σ6, H6, S6, q6⟩ := hsp
            exact end_ S6 fun s7 J7 => ⟨_, _, J7, q6⟩
          | cont =>
            obtain ⟨σ6, H6, S6, q6⟩ := hsp
            exact end_ S6 fun s7 J7 => ⟨_, _, J7, q6⟩
          | ret u =>
            obtain ⟨v6, σ6, H6, S6, r6, q6⟩ := hsp
            exact end_ S6 fun s7 J7 => ⟨_, _, _, J7, r6, q6⟩
        | false =>
          show wpAny _ X.A (handleBy (.ref a) X.env hds2) _ _ _
          exact ih (hno rfl)
    exact go hh w
  · cases f with
    | next =>
      obtain ⟨σ', H', J', q⟩ := hsp
      exact wpAny_execs_nil ⟨σ', H', J'.ofTry ok, q⟩
    | brk =>
      obtain ⟨σ', H', J', q⟩ := hsp
      exact ⟨σ', H', J'.ofTry ok, q⟩
    | cont =>
      obtain ⟨σ', H', J', q⟩ := hsp
      exact ⟨σ', H', J'.ofTry ok, q⟩
    | ret u =>
      obtain ⟨v, σ', H', J', r, q⟩ := hsp
      exact ⟨v, σ', H', J'.ofTry ok, r, q⟩
end
end K31
namespace K31
open PySem PySem.Spec PyProof.Rows L2
/-- what the class D must say, so that isinstance asks its instances rightly -/
structure IsaC (K : PySem.W.Frag) (D : Addr) : Prop where
  cl : (PySem.W.clsIn K D).isSome = true
  hg : PySem.W.findIn K (.ref D) "__getattribute__" = some (some (.builtin "BaseException.__getattribute__"))
  hk : PySem.W.findIn K (.ref D) "__getattr__" = some none
  hs : PySem.W.subIn K (.ref D) (.type "BaseException") = some true
  ha : PySem.W.findIn K (.ref D) "__class__" = some (some (.builtin "object.__class__"))
  hn : PySem.W.specialIn K (.builtin "object.__class__") "__get__" = some (some (.builtin "getset_descriptor.__get__"))
  ht : PySem.W.takesIn K (.builtin "object.__class__") = some true
  hm : PySem.W.mroIn K D (.type "object") = some true
/-- isinstance(e, c), e the exception that the suite holds -/
def rIsX (K : PySem.W.Frag) (D a : Addr) (d : Option Addr) : List V → Hp → VK → Prop := fun xs H Q => ∃ (c : V) (cv : Value) (b : Bool) (dd : Addr) (fs : List (Str × V)), xs = [.ref a, c] ∧ (∀ u, RelV c u → u = cv) ∧ d = some dd ∧ H dd = some (.xd fs) ∧ PySem.W.kitOne K (.ref D) cv = some b ∧ Q (.bl b) H
theorem call_isX {X : Cx} {a D : Addr} {oe : Obj} {d : Option Addr} {pn : List (Addr × Obj)} (C : IsaC X.K D) (hz : Zc (.ref D) d oe) (hf : ∃ vs, oe.data = .fields vs) : CallR (X.suite a ((a, oe) :: pn)) (.builtin "isinstance") (rIsX X.K D a d) := by
  intro pins s σ H xs us Q I r h
  obtain ⟨c, cv, b, dd, fs, rfl, hcv, rfl, hdd, e, q⟩ := h
  cases r with
  | cons rx rr =>
    cases rr with
    | cons rt rr =>
      cases rr
      cases rx
      have ec := hcv _ rt
      subst ec
      obtain ⟨hget, _⟩ := I.pin (a, oe) (List.mem_append.mpr (.inl List.mem_cons_self))
      obtain ⟨vs, hv⟩ := hf
      obtain ⟨mA, hns, _⟩ : ObjOk X.prog X.w H s.heap dd (.xd fs) := I.hok dd _ hdd
      obtain ⟨od, es, ep, hod, _⟩ := hns
      have J : PySem.W.InstAt s.heap a oe D (some od) := by
        obtain ⟨oc, ob, oda, osl⟩ := oe
        obtain ⟨h1, h2⟩ := hz
        dsimp only at h1 h2 hv
        subst h1 h2 hv
        exact ⟨hget, rfl, rfl, hod⟩
      exact PySem.W.kia_one (PySem.W.kitx_exc C.cl C.hg C.hk C.hs C.ha C.hn C.ht C.hm) I.kIn J e (fun z => nomatch z) fun tk => ⟨.bl b, H, I.kept (t' := tk) fun _ _ z => z, rfl, q⟩
end K31
set_option maxHeartbeats 2000000
/-! K7: all(f(x) for x in text), f a small def: its call by hand, the generator expression over it. -/
namespace K31
open PySem PySem.Spec PyProof.Rows L2
abbrev sSign : Stmt := top 14
/-- can c be in a name -/
def goodSign (c : Nat) : Bool := Txt.isalnum ⟨#[c]⟩ || decide (c ∈ ("-_." : Str).cps.toList)
def oneSign (c : Nat) : Str := ⟨#[c]⟩
theorem keeps_trans {s s' s'' : Shared} (a : Keeps s s') (b : Keeps s' s'') : Keeps s s'' := by
  obtain ⟨h1, t1, rfl, k1⟩ := a
  obtain ⟨h2, t2, rfl, k2⟩ := b
  exact ⟨h2, t2, rfl, fun b o e => k2 b o (k1 b o e)⟩
theorem keeps_toks (s : Shared) (k : Nat) : Keeps s { s with toks := k } := ⟨s.heap, k, rfl, fun _ _ e => e⟩

/-- what such an element is, at every state of the generator: base is part of the heap -/
def EltD (prog : Program) (w : World) (base : Heap) (D U : Nat) (scope : Scope) (x : Str) (elt : Expr) (pb : Nat → Bool) : Prop :=
  ∀ (cenv : Env) (A' : Around) (E' : Value → Shared → Prop) (c : Nat) (t : Tok) (s₂ : Shared) (m₂ : Str → Option Value), A'.handled = none → A'.depth ≤ D → A'.units ≤ U → cenv.scope = scope → cenv.globals = mainGlobals → (∀ b o, base.get? b = some o → s₂.heap.get? b = some o) →
    s₂.heap.Ns cenv.locals m₂ → m₂ x = some (.str ⟨#[c]⟩ t) → wpAny (model prog w) A' (eval elt cenv) (fun y s₃ => y = .bool (pb c) ∧ Keeps s₂ s₃) E' s₂

/-- the scope of the generator expression -/
def gScope : Scope := { kind := .function, names := [(".0", .local), ("sign", .local), ("is_name_sign", .globalImplicit)], isGenerator := true, isCoroutine := false, more := [] }

theorem elt_sign {P : Program} {w : World} {K : PySem.W.Frag} {mg : Str → Option Value} {base : Heap} {f : Addr} {fd : FuncData} {p1 p2 p3 : Pos} {D U : Nat} {tn : Tok} (F : Fun K "is_name_sign" "is_name_sign" sSign f fd) (M : Mod K mg base)
    (mgF : mg "is_name_sign" = some (.ref f)) (mgN : mg "NAME_SIGNS" = some (.str "-_." tn)) (hD : D < recursionLimit) :
    EltD P w base D U gScope "sign" (.Call (.Name "is_name_sign" p1) [.Name "sign" p2] [] p3) goodSign := by
  intro cenv A' E' c t s₂ m₂ hh hdp hun hs hgl kb hn hm
  obtain ⟨oc, od, kV, doc, pm, an, cdv, ct, osl, rfl, lk, hcd⟩ := F.ex
  have KX : K.In s₂.heap := M.kin.keeps kb
  have lim : s₂.heap.NoLimit := M.nolimit.keeps kb
  have hk : cenv.scope.kind = .function := by rw [hs]; rfl
  refine wpAny_Call_Name_kw (Calls.Name_function_global hk (by show cenv.scope.names.lookup _ = _; rw [hs]; decide +kernel) (Calls.loadGlobal_global (by rw [hgl]; exact M.glob.keeps kb) mgF ?_) (by decide +kernel))
  refine PySem.W.callWith_K (h₀ := base) M.kin F.kp ?_ (by rfl) (by rfl)
  show wpAny _ _ (spliced ((false, eval (.Name "sign" p2) cenv) :: backTo p3 (starEach [] cenv))) _ _ _
  refine Calls.spliced_cons (wpAny_Name (wpAny_loadName_local hk (by show cenv.scope.names.lookup _ = _; rw [hs]; decide +kernel) hn hm (Calls.spliced_nil ⟨KX, ?_⟩)) (by decide +kernel))
  refine wpAny_call (Att.call_fn (binds := [("sign", .str ⟨#[c]⟩ t)]) KX lim lk hcd (Nat.lt_of_le_of_lt hdp hD) (.of_eq rfl) (by rfl) (fun s₁ x => ?_) rfl rfl rfl)
  obtain ⟨h1, tk, rfl, k1⟩ := x.done
  have kb1 : ∀ b o, base.get? b = some o → h1.get? b = some o := fun b o e => k1 b o (kb b o e)
  have hv : bindL (envOfC "is_name_sign" (defScope sSign) s₂.heap.objs.size f cdv).kindOf [("sign", .str ⟨#[c]⟩ t)] (fun _ => none) "sign" = some (.str ⟨#[c]⟩ t) := by
    exact bindL_get (P := ["sign"]) (vs := [.str ⟨#[c]⟩ t]) (i := 0) (by decide +kernel) rfl rfl (by show (defScope sSign).names.lookup _ = _; decide +kernel)
  have name : ∀ {Q : Value → Shared → Prop} {E : Value → Shared → Prop} {pos : Pos} {tk' : Nat}, Q (.str ⟨#[c]⟩ t) { s₂ with heap := h1, toks := tk' } →
      wpAny (model P w) (A'.deeper (envOfC "is_name_sign" (defScope sSign) s₂.heap.objs.size f cdv)) (eval (.Name "sign" pos) (envOfC "is_name_sign" (defScope sSign) s₂.heap.objs.size f cdv)) Q E { s₂ with heap := h1, toks := tk' } := fun {Q E pos tk'} q =>
    wpAny_Name (wpAny_loadName_local rfl (by show (defScope sSign).names.lookup _ = _; decide +kernel) x.toInCall.ns hv q) (by decide +kernel)
  refine wpAny_execs_cons (wpAny_Return_some (BoolOp_or ?_))
  refine PySem.Call_method0 rfl rfl (name (PySem.SB.isalnum (wpAny_truthy_bool ?_)))
  cases hb : Txt.isalnum ⟨#[c]⟩ with
  | true =>
    simp only [if_true]
    exact ⟨by simp [goodSign, hb], ⟨h1, tk, rfl, k1⟩⟩
  | false =>
    simp only [Bool.false_eq_true, if_false]
    refine BoolOp_one (wpAny_Compare1 (name ?_) (by rfl))
    refine Calls.Name_function_global rfl (by show (defScope sSign).names.lookup _ = _; decide +kernel) (Calls.loadGlobal_global (M.glob.keeps kb1) mgN ?_) (by decide +kernel)
    refine PyProof.Rows.in_str ?_
    rw [PySem.StrLaws.found_one]
    exact ⟨by simp [goodSign, hb], ⟨h1, tk, rfl, k1⟩⟩
end K31
namespace K31
open PySem PySem.Spec PyProof.Rows L2 GxR
section
variable {X : Cx} {pins : List (Addr × Obj)} {σ : L2.St} {H : Hp} {s : Shared}
theorem gen_strD {c P : Addr} {elt iter : Expr} {x : Str} {px gpos : Pos} {scope : Scope} {pb : Nat → Bool} {te : TE} {k : Nat} {Q' : Value → Shared → Prop} {R : Str → Hp → Prop}
    (hr : Room k X.A) (TB : GxR.TabB X.base X.mg c P) (hcode : X.env.code = .ref c) (S : GenS X.env scope x) (hi : PE X iter te) (hel : EltD X.prog X.w X.base (X.A.depth + 1) (X.A.units + 8) scope x elt pb)
    (hs : ∀ v, genFold iter X.env v = pure v) (I : Inv X pins σ H s) (h : te σ H fun v H1 => ∃ a : Str, v = .str a ∧ TabG H1 P ∧ R a H1)
    (hQ : ∀ a H1 g s5, R a H1 → Ready X pins σ H1 P a pb g s5 → Q' (.ref g) s5) :
    wpAny (model X.prog X.w) X.A (eval (.GeneratorExp elt [⟨.Name x px, iter, [], 0⟩] scope gpos) X.env) Q' X.xe s := by
  refine wpAny_GeneratorExp_walksQD hr.hd S.co (closure_ok S.free) S.cell S.dot S.loc S.kind (by have := hr.dp; omega) ?_ hs
  refine thn (hi.run pins s σ H _ I h) fun xv s1 ⟨v, H1, I1, r1, q1⟩ => ?_
  obtain ⟨a, rfl, ⟨ps, hP, ht⟩, q1⟩ := q1
  obtain ⟨t, rfl⟩ := _root_.id r1
  refine wpAny_pyIter_str fun o St W hst => ?_
  have hPs : s1.heap.get? P = some { cls := .none, data := .fields ps } := I1.hok P _ hP
  have hPlt : P < s1.heap.objs.size := Heap.lt_size hPs
  have hP2 : (s1.heap.push o).get? P = some { cls := .none, data := .fields ps } := Heap.get?_push_of_some _ hPs
  have cd : PySem.W.CodeHd (s1.heap.push o) c P := TB.code.keeps fun b u e => Heap.get?_push_of_some _ (I1.bk b u e)
  have lim2 : (s1.heap.push o).NoLimit := I1.nolimit.push o
  have cont : ∀ (code : Value) (h3 : Heap) (tk : Nat) (ps' : Array Value), Heap.ExtBut P (s1.heap.push o) h3 → (s1.heap.push o).objs.size ≤ h3.objs.size → h3.get? P = some { cls := .none, data := .fields ps' } → (∃ more, ps' = ps ++ more) → TriplesOk ps'.toList →
      wpAny (model X.prog X.w) X.A (builtinsFor X.env.globals X.env.builtins) (fun bi s₄ =>
        ∃ Ia fp wr n₀ Pf St₀ pz F, Value.ref s1.heap.objs.size = .ref Ia ∧ (∀ A' : Around, A'.handled = none → Walks X.prog X.w A' Ia fp wr n₀ Pf St₀) ∧ St₀ 0 s₄.heap ∧ (∀ b ∈ fp, b < s₄.heap.objs.size) ∧ s₄.heap.NoLimit ∧ cStatics ∉ wr ∧
          (∀ href : Heap, (∀ b o, s₄.heap.get? b = some o → href.get? b = some o) →
            QuietGenD X.prog X.w (genEnv scope (cloFrom X.env.cells scope.names []) s₄.heap.objs.size code bi X.env) x [] elt (List.range s₄.heap.objs.size) wr Pf pz F href (X.A.depth + 1) (X.A.units + 8)) ∧
          (∀ a h₅ tk gs, gs.bare = true → s₄.heap.objs.size < a → h₅.objs.size = a + 1 → (∀ b o, s₄.heap.get? b = some o → h₅.get? b = some o) →
            WalksS X.prog X.w X.A.in4 a (a :: s₄.heap.objs.size :: List.range s₄.heap.objs.size) (s₄.heap.objs.size :: wr) (GenOnlyQ s₄.gens.size) (passing pz n₀ 0).length
              (fun j y => ∃ i, (passing pz n₀ 0)[j]? = some i ∧ F i y) (GenAt X.prog X.w X.A.in4 a s₄.gens.size s₄.heap.objs.size (List.range s₄.heap.objs.size) wr pz n₀ F) →
            GenAt X.prog X.w X.A.in4 a s₄.gens.size s₄.heap.objs.size (List.range s₄.heap.objs.size) wr pz n₀ F 0 { s₄ with gens := s₄.gens.push gs, toks := tk, heap := h₅ } →
            Q' (.ref a) { s₄ with gens := s₄.gens.push gs, toks := tk, heap := h₅ })) X.xe { s1 with heap := h3, toks := tk } := by
    intro code h3 tk ps' hx hsz hP3 hmore ht3
    obtain ⟨bm, ob, e1, e2, e3, e4, e5, e6, e7, e8⟩ := TB.bm
    have hcP : cStatics ≠ P := fun e => by
      obtain ⟨_, hns, _⟩ := I1.nolimit
      obtain ⟨o', es, ep, ho, hd, _⟩ := hns
      rw [e, hPs] at ho
      cases ho
      cases hd
    have hcl : cStatics < s1.heap.objs.size := let ⟨_, hns, _⟩ := I1.nolimit; hns.lt
    have sz2 : (s1.heap.push o).objs.size = s1.heap.objs.size + 1 := Heap.size_push ..
    have keep3 : ∀ b u, b ≠ P → s1.heap.get? b = some u → h3.get? b = some u := fun b u hb e => hx b u hb (Heap.get?_push_of_some _ e)
    refine wpAny_builtinsFor (m := X.mg) (by rw [I1.ok.glob]; exact ((I1.mod.glob.keeps I1.bk).push o).extBut hx TB.gP) e1 e2 (keep3 _ _ e4 (I1.bk _ _ e5)) e6 e7 e8 ?_
    refine ⟨s1.heap.objs.size, [s1.heap.objs.size], [s1.heap.objs.size], a.cps.size, SignAt a, St, (fun _ => true), (fun i y => ∃ cc, a.cps[i]? = some cc ∧ y = .bool (pb cc)), rfl, W, ?_, ?_, lim2.extBut hx hcP, ?_, ?_, ?_⟩
    · refine (W X.A hr.hd).frame _ _ _ hst fun b hb u e => hx b u (fun z => ?_) e
      rcases List.mem_cons.mp hb with z2 | z2
      · exact Nat.ne_of_lt hPlt (z.symm.trans z2)
      · cases z2
    · intro b hb
      rcases List.mem_cons.mp hb with z | z
      · rw [z]
        show s1.heap.objs.size < h3.objs.size
        omega
      · cases z
    · intro z
      rcases List.mem_cons.mp z with z | z
      · exact Nat.ne_of_lt hcl z
      · cases z
    · intro href hhref
      refine ⟨fun A' E' i v s₂ m₂ hA hdp hun hPv hn hm hk => ?_, fun A' E' i v s₂ m₂ hA hdp hun hPv hp hn hm hk => ?_⟩
      · simp only [List.forIn_nil]
        exact wpAny_pure ⟨rfl, keeps_toks _ _⟩
      · obtain ⟨cc, u, hcc, rfl⟩ := hPv
        have kb : ∀ b o, X.base.get? b = some o → s₂.heap.get? b = some o := fun b o e => by
          have hs1 := I1.bk b o e
          have hb : b ≠ P := fun z => by
            have y := (I1.bs b o e).2
            rw [z, hP] at y
            cases y
          have h3b := keep3 b o hb hs1
          refine hk b (List.mem_range.mpr (Heap.lt_size h3b)) (fun z => ?_) o (hhref b o h3b)
          rcases List.mem_cons.mp z with z | z
          · have y := Heap.lt_size hs1
            rw [z] at y
            exact Nat.lt_irrefl _ y
          · cases z
        exact wpAny_mono (hel _ A' E' cc u s₂ m₂ hA hdp hun rfl I1.ok.glob kb hn hm) (fun y s3 r => ⟨⟨cc, hcc, r.1⟩, r.2⟩) fun _ _ e => e
    · intro g h5 tk5 gs hgb hag hsz5 hk5 W5 hat
      simp only [GxR.passing_true, List.length_range] at W5
      refine hQ a H1 g _ q1 ⟨_, _, _, _, _, W5.in4_1, hat, ?_, fun s' hm => ?_⟩
      · intro j y sj Qj Ej hy hQj
        obtain ⟨i, hij, cc, hcc, rfl⟩ := hy
        obtain ⟨hj, ej⟩ := List.getElem?_eq_some_iff.mp hij
        rw [List.getElem_range] at ej
        subst ej
        have e9 : a.cps.toList[j]? = some cc := by rw [Array.getElem?_toList]; exact hcc
        have hQ2 : Qj (trF pb a.cps.toList j) sj := hQj
        rw [trF_some e9] at hQ2
        exact wpAny_truthy_bool hQ2
      · obtain ⟨more, em⟩ := hmore
        have nwr : ∀ b u, s1.heap.get? b = some u → b ∉ h3.objs.size :: [s1.heap.objs.size] := fun b u e hb => by
          have hl := Heap.lt_size e
          rcases List.mem_cons.mp hb with z | z
          · rw [z] at hl
            have h9 : (h3.objs.size : Nat) < s1.heap.objs.size := hl
            omega
          · rcases List.mem_cons.mp z with z | z
            · rw [z] at hl
              exact Nat.lt_irrefl _ hl
            · cases z
        have J := inv_tab (more := more) (h' := s'.heap) (g' := s'.gens) (d' := s'.drawn) (t' := s'.toks) I1 hP (fun b u hb e => hm.heap b u (nwr b u e) (hk5 b u (keep3 b u hb e)))
          (by rw [← em]; exact hm.heap P _ (nwr P _ hPs) (hk5 P _ hP3)) (AllBare.movedS (I1.bare.push hgb) hm)
        rw [sh_eta s1 s' hm.os] at J
        refine ⟨upd H1 P (.tbl (ps ++ more)), ⟨⟨ps ++ more, upd_same, by rw [← em]; exact ht3⟩, fun b hb => upd_ne hb⟩, J⟩
  refine ⟨lim2, ?_⟩
  cases hf : codeAmong gpos ps.toList with
  | none =>
    refine wpAny_genexprCodeX hcode (cd.code hP2 ht) (cd.tab hP2) hf fun c' h' tk hx hge hlt hco' _ htab' _ => ?_
    obtain ⟨o1, vs, f1, tf, fl, tg, inF, tx, tt, op, _, _, _, _, _, _, _, _, _, htr, _⟩ := hco'
    exact cont _ h' tk _ hx (Nat.le_trans hge (Nat.le_of_lt hlt)) htab'.2 ⟨_, rfl⟩ htr
  | some cv =>
    refine wpAny_genexprCode_hit hcode (cd.code hP2 ht) hf ?_
    exact cont cv (s1.heap.push o) s1.toks ps (Heap.ExtBut.refl _ _) (Nat.le_refl _) hP2 ⟨#[], by simp⟩ ht

theorem pe_allD {c P : Addr} {elt iter : Expr} {x : Str} {px p pos gpos : Pos} {scope : Scope} {pb : Nat → Bool} {te : TE} {k : Nat}
    (hr : Room k X.A) (hg : Gl X "all") (hm : X.mg "all" = none) (hb : bootBuiltins "all" = some (.builtin "all")) (TB : GxR.TabB X.base X.mg c P) (hcode : X.env.code = .ref c) (S : GenS X.env scope x) (hi : PE X iter te) (hel : Mod X.K X.mg X.base → EltD X.prog X.w X.base (X.A.depth + 1) (X.A.units + 8) scope x elt pb)
    (hs : ∀ v, genFold iter X.env v = pure v)
    (he : starEach [.GeneratorExp elt [⟨.Name x px, iter, [], 0⟩] scope gpos] X.env = (false, eval (.GeneratorExp elt [⟨.Name x px, iter, [], 0⟩] scope gpos) X.env) :: starEach [] X.env := by rfl) :
    PE X (.Call (.Name "all" p) [.GeneratorExp elt [⟨.Name x px, iter, [], 0⟩] scope gpos] [] pos) (tAllS P pb te) := by
  refine ⟨fun pins s σ H Q I h => ?_⟩
  refine wpAny_Call_Name_kw (ld_blt I hg hm hb ?_)
  refine PyProof.Rows.callWith_builtin1 ?_ he (by rfl)
  rw [he]
  show wpAny _ _ (spliced ((false, eval (.GeneratorExp elt [⟨.Name x px, iter, [], 0⟩] scope gpos) X.env) :: backTo pos (starEach [] X.env))) _ _ s
  refine Calls.spliced_cons (gen_strD (R := fun a H1 => ∀ H2, Tabbed P H1 H2 → Q (.bl (a.cps.toList.all pb)) H2) hr TB hcode S hi (hel I.mod) hs I h fun a H1 g s5 hR hG => ?_)
  obtain ⟨fp, wr, G, F, St, W, hst, htr, hI⟩ := hG
  refine Calls.spliced_nil ?_
  refine call_all_walkS (W.self 0 _ _ _ hst ⟨g, fp, wr, G, _, F, St, _, rfl, W, hst, htr, fun s' hmv => ?_⟩)
  obtain ⟨H2, hT, J⟩ := hI s' hmv
  refine ⟨.bl _, H2, J, rfl, ?_⟩
  rw [all_signs a pb]
  exact hR H2 hT
end
end K31
set_option maxHeartbeats 2000000
/-! K8: small rules: enumerate(tuple), text * int, sorted(dict of ints), == of dicts whose values are data. -/
namespace K31
open PySem PySem.Spec PyProof.Rows L2

/-! ### enumerate(tuple) -/
theorem meets_enum1 {v : Value} {o : Obj} {H : Heap → Prop} (B : Begins v o H) :
    Meets (Builtin.«enumerate.__new__» ⟨[.type "enumerate", v], []⟩) (fun _ R s => H s.heap ∧
      R (.ok (.ret (.ref (s.heap.push o).objs.size))) { s with heap := (s.heap.push o).push { cls := .type "enumerate", data := .fields #[.none, .bool false, .ref s.heap.objs.size, rawInt 0, .none, .none] } }) :=
  .of_wp fun prog w A R s h => by
    obtain ⟨hp, g, d, tk, os⟩ := s; obtain ⟨h1, h⟩ := h
    have hsub := sub_enumerate
    have q1 : ∀ {A' : Around} {E : Value → Shared → Prop} {Q : Value → Shared → Prop}, Q (.ref hp.objs.size) ⟨hp.push o, g, d, tk, os⟩ → wpAny (model prog w) A' (pyIter v) Q E ⟨hp, g, d, tk, os⟩ :=
      fun q => B.iter prog w _ _ ⟨hp, g, d, tk, os⟩ _ h1 q
    wp_walk using q1
    refine wpAny_stack_any fun st => wpAny_pure ?_
    split
    · rename_i c _ _ _ _ _
      cases (c == Value.type "enumerate")
      · wp_walk using q1
        exact ⟨_, rfl, h⟩
      · wp_walk using q1
        exact ⟨_, rfl, h⟩
    · wp_walk using q1
      exact ⟨_, rfl, h⟩
theorem enum_begins1 {prog : Program} {w : World} {A : Around} {E : Value → Shared → Prop} {s : Shared} {v : Value} {o : Obj} {H : Heap → Prop} {Q : Value → Shared → Prop} (B : Begins v o H) (h1 : H s.heap)
    (h : ∀ h', IsEnum h' (s.heap.objs.size + 1) s.heap.objs.size 0 .none → h'.get? s.heap.objs.size = some o → h'.objs.size = s.heap.objs.size + 2 →
      (∀ b o, s.heap.get? b = some o → h'.get? b = some o) → Q (.ref (s.heap.objs.size + 1)) { s with heap := h' }) :
    wpAny (model prog w) A (call (.type "enumerate") [v]) Q E s := by
  refine callType_new F.called_enumerate (by decide) (F.typeCall_enumerate_1 _) (F.newCall_enumerate_1 _) (fun obj => F.args_object_init_2 obj _) F.entry_enumerate_new
    (meets_enum1 B) ⟨h1, ?_⟩
  have hz : (s.heap.push o).objs.size = s.heap.objs.size + 1 := Heap.size_push ..
  show _ ∧ _
  rw [hz]
  have he : IsEnum ((s.heap.push o).push { cls := .type "enumerate", data := .fields #[.none, .bool false, .ref s.heap.objs.size, rawInt 0, .none, .none] }) (s.heap.objs.size + 1) s.heap.objs.size 0 .none := by
    have := Heap.get?_push_size (s.heap.push o) (o := { cls := .type "enumerate", data := .fields #[.none, .bool false, .ref s.heap.objs.size, rawInt 0, .none, .none] }) rfl
    rw [hz] at this; exact this
  refine ⟨⟨_, he, rfl⟩, h _ he (Heap.get?_push_of_some _ (Heap.get?_push_size _ B.free)) (by rw [Heap.size_push, hz]) fun b o x => Heap.get?_push_of_some _ (Heap.get?_push_of_some _ x)⟩
/-- the tuple at a, each item in a new pair -/
def IteT (K : PySem.W.Frag) (a : Addr) : It :=
  ⟨fun i H => ∃ (xs : List V) (x : V), SqT K H a xs ∧ xs[i]? = some x, fun i H v H' => ∃ T x, v = .ref T ∧ H T = none ∧ H' = upd H T (.tup [.int (i : Nat), x]) ∧ ∀ xs, SqT K H a xs → xs[i]? = some x, fun i H => ∃ xs : List V, SqT K H a xs ∧ xs.length = i⟩
theorem turn_enumT {P : Program} {w : World} {K : PySem.W.Frag} {elts : List Expr} {kk : Nat} {tpos : Pos} (a e it : Addr) (hia : a ≠ it) (hea : a ≠ e) :
    Turn P w K (.Tuple elts kk tpos) (IteT K a) [e, it] e (fun i h => (∃ old, IsEnum h e it ((i : Nat) : Int) old) ∧ h.IsTupleIter it a i ∧ e ≠ it) where
  mem := by simp
  obj := fun i h st b hb => by
    obtain ⟨⟨old, he⟩, ⟨o, ho, hc, hd⟩, _⟩ := st
    have e' : b = e ∨ b = it := by simpa using hb
    rcases e' with z | z
    · rw [z]; exact ⟨_, he, fun v q => nomatch q⟩
    · rw [z]; exact ⟨o, ho, fun v q => by rw [hd] at q; cases q⟩
  keep := fun i h h' st k => let ⟨⟨old, he⟩, hi, hne⟩ := st; ⟨⟨old, k e (by simp) _ he⟩, hi.at fun o q => k it (by simp) o q, hne⟩
  item := by
    intro X hP hw hK hc i pins s σ H E I hf st hg
    subst hP hw hK
    obtain ⟨⟨old, he⟩, hit, hne⟩ := st
    obtain ⟨xs, x, hq, hx⟩ := hg
    obtain ⟨its, rv, p, hz⟩ := I.tuple hq
    obtain ⟨u, hu, ru⟩ := rv.get hx
    have hel : e < s.heap.objs.size := Heap.lt_size he
    have hil : it < s.heap.objs.size := by obtain ⟨_, q, _⟩ := hit; exact Heap.lt_size q
    have hlt : i < its.toArray.size := by
      have := (List.getElem?_eq_some_iff.mp hu).1
      simpa using this
    refine wpAny_pyNext_enum_itemC (Draws.tuple (A := X.A.in1) (I.ok.hd hc) it a hia its.toArray) he ⟨hit, p⟩ hlt hne (by simp [hne, Ne.symm hea]) fun x' h' tk hP ho hit' hT hsz hk => ?_
    have ex : x' = u := by
      have z : its.toArray[i]? = some x' := hP
      rw [List.getElem?_toArray, hu] at z
      exact (Option.some.inj z).symm
    subst ex
    refine ⟨_, rfl, wpAny_letOwnedTupleGo_enum (s := { s with heap := h', toks := tk + 1 }) ho fun h'' he' sb => ?_⟩
    have hT2 : h''.get? s.heap.objs.size = some { cls := .type "tuple", data := .seq #[.int i tk, x'] } := (sb.2 _ (Nat.ne_of_gt hel)).trans hT
    have new : ObjOk X.prog X.w (upd H s.heap.objs.size (.tup [.int (i : Nat), x])) h'' s.heap.objs.size (.tup [.int (i : Nat), x]) :=
      ⟨by show 2 ≤ sizeLine; decide, [.int i tk, x'], .cons ⟨_, rfl⟩ (.cons ru .nil), ⟨_, hT2, rfl, _, rfl⟩⟩
    have I1 : Inv X pins σ (upd H s.heap.objs.size (.tup [.int (i : Nat), x])) { s with heap := h'', toks := tk + 1 } :=
      I.turnedNew (ch := [e, it]) (fun b ob hb q => (sb.2 b (fun z => hb (by simp [z]))).trans (hk b ob (fun z => hb (by simp [z])) (fun z => hb (by simp [z])) q)) hf (Nat.le_refl _) new
    refine ⟨.ref s.heap.objs.size, _, I1, rfl, ⟨_, x, rfl, I.hok.fresh (Nat.le_refl _), rfl, fun ys hy => by rw [I.tuple_inj hy hq]; exact hx⟩, ⟨⟨x', ?_⟩, hit'.1.at fun o q => (sb.2 it (Ne.symm hne)).trans q, hne⟩, fun b hb => ?_⟩
    · have e1 : ((i + 1 : Nat) : Int) = (i : Int) + 1 := by omega
      rw [e1]; exact he'
    · have hb' : b < s.heap.objs.size := by
        have e' : b = e ∨ b = it := by simpa using hb
        rcases e' with z | z
        · rw [z]; exact hel
        · rw [z]; exact hil
      rw [upd_ne (Nat.ne_of_lt hb')]
      exact (hf b hb).1
  done := by
    intro X hP hw hK hc i pins s σ H E I hf st hg
    subst hP hw hK
    obtain ⟨⟨old, he⟩, hit, hne⟩ := st
    obtain ⟨xs, hq, hx⟩ := hg
    obtain ⟨its, rv, p, hz⟩ := I.tuple hq
    obtain ⟨f0, f1, f2, f3, f4, f5⟩ := hf it (by simp)
    have hl := rv.length
    have ei : its.toArray.size = i := by rw [List.size_toArray]; omega
    subst ei
    exact wpAny_pyNext_enum_endD (Draws.tuple (A := X.A.in1) (I.ok.hd hc) it a hia its.toArray) he ⟨hit, p⟩ fun h' eb => ⟨rfl, I.turned (t' := s.toks) (fun b o hb q => eb b o hb q) f0 f1 f3 f4 f5⟩
  self := fun A i s Q E st h => let ⟨⟨_, he⟩, _⟩ := st; wpAny_pyIter_enum he h
def iEnumT (K : PySem.W.Frag) (ta : TA) : TI := fun σ H R => ta σ H fun vs H1 => ∃ a xs, vs = [.ref a] ∧ SqT K H1 a xs ∧ R (IteT K a) H1
theorem pi_enumT {X : Cx} {e : Expr} {ta : TA} {p pos tpos : Pos} {elts : List Expr} {kk : Nat} (hg : Gl X "enumerate") (hm : X.mg "enumerate" = none) (ha : PA X [e] ta) (hs : starEach [e] X.env = [(false, eval e X.env)] := by rfl) :
    PI X (.Tuple elts kk tpos) (.Call (.Name "enumerate" p) [e] [] pos) (iEnumT X.K ta) := by
  refine ⟨fun pins s σ H R I h => ?_⟩
  refine Call_ (ld_blt I hg hm boot_enumerate (PyProof.Rows.callWith_type1 (thn (ha.run pos pins s σ H _ I h) fun us s1 ⟨vs, H1, I1, r1, q1⟩ => ?_) hs rfl))
  obtain ⟨a, xs, ex, hq, q⟩ := q1
  subst ex
  cases r1 with
  | cons r rr =>
    cases rr
    cases r
    obtain ⟨its, rv, p', hz⟩ := I1.tuple hq
    have ha : a < s1.heap.objs.size := p'.lt
    refine enum_begins1 (begins_tuple a its.toArray) p' fun h' he hit hsz hk => wpAny_pyIter_enum he ?_
    have I2 : Inv X pins σ H1 { s1 with heap := h' } := I1.kept (t' := s1.toks) hk
    refine ⟨s1.heap.objs.size + 1, [s1.heap.objs.size + 1, s1.heap.objs.size], _, _, H1, rfl, I2, turn_enumT a (s1.heap.objs.size + 1) s1.heap.objs.size (Nat.ne_of_lt ha) (Nat.ne_of_lt (Nat.lt_succ_of_lt ha)), ⟨⟨.none, he⟩, ⟨_, hit, rfl, rfl⟩, Nat.succ_ne_self _⟩, fun b hb => ?_, q⟩
    have e' : b = s1.heap.objs.size + 1 ∨ b = s1.heap.objs.size := by simpa using hb
    have hle : s1.heap.objs.size ≤ b := by
      rcases e' with z | z
      · rw [z]; exact Nat.le_add_right _ _
      · rw [z]; exact Nat.le_refl _
    exact I1.fpOk hle (I1.hok.fresh hle)
/-- for i, x in enumerate(t) -/
theorem for_enT {K : PySem.W.Frag} {a : Addr} {xs : List V} {g : TG} {tb : TS} {D : Ends} {σ : L2.St} {H : Hp} (Pv : Nat → L2.St → Hp → Prop) (h0 : Pv 0 σ H) (hl : ∀ i σ H, i ≤ xs.length → Pv i σ H → SqT K H a xs)
    (hs : ∀ i x T σ H, xs[i]? = some x → H T = none → Pv i σ H → g (.ref T) σ (upd H T (.tup [.int (i : Nat), x])) fun σ2 H2 => tb { D with nx := Pv (i + 1), ct := Pv (i + 1), bk := D.nx } σ2 H2) (hd : ∀ σ H, Pv xs.length σ H → D.nx σ H) :
    ∃ W : Nat → Nat → L2.St → Hp → Prop, (∃ m, W 0 m σ H) ∧ ∀ i m σ H, W i m σ H →
      ((IteT K a).stop i H ∧ D.nx σ H) ∨ ((IteT K a).go i H ∧ ∃ N : L2.St → Hp → Prop, (∀ σ' H', N σ' H' → ∃ m', m' < m ∧ W (i + 1) m' σ' H') ∧ ∀ x H', (IteT K a).yld i H x H' → g x σ H' fun σ2 H2 => tb { D with nx := N, ct := N, bk := D.nx } σ2 H2) := by
  refine ⟨fun i m σ H => m = xs.length - i ∧ i ≤ xs.length ∧ Pv i σ H, ⟨xs.length, by simp, Nat.zero_le _, h0⟩, ?_⟩
  rintro i m σ H ⟨rfl, hi, p⟩
  have q := hl i σ H hi p
  by_cases hlt : i < xs.length
  · refine .inr ⟨⟨xs, xs[i], q, by simp [hlt]⟩, Pv (i + 1), fun σ' H' p' => ⟨xs.length - (i + 1), by omega, rfl, hlt, p'⟩, fun x H' y => ?_⟩
    obtain ⟨T, z, rfl, hT, rfl, hz⟩ := y
    exact hs i z T σ H (hz xs q) hT p
  · have e : i = xs.length := by omega
    subst e
    exact .inl ⟨⟨xs, q, rfl⟩, hd σ H p⟩
/-- for i, x in enumerate(l), the list left as it is -/
theorem for_enL {K : PySem.W.Frag} {a : Addr} {xs : List V} {g : TG} {tb : TS} {D : Ends} {σ : L2.St} {H : Hp} (Pv : Nat → L2.St → Hp → Prop) (h0 : Pv 0 σ H) (hl : ∀ i σ H, i ≤ xs.length → Pv i σ H → SqL K H a xs)
    (hs : ∀ i x T σ H, xs[i]? = some x → H T = none → Pv i σ H → g (.ref T) σ (upd H T (.tup [.int (i : Nat), x])) fun σ2 H2 => tb { D with nx := Pv (i + 1), ct := Pv (i + 1), bk := D.nx } σ2 H2) (hd : ∀ σ H, Pv xs.length σ H → D.nx σ H) :
    ∃ W : Nat → Nat → L2.St → Hp → Prop, (∃ m, W 0 m σ H) ∧ ∀ i m σ H, W i m σ H →
      ((Ite K a).stop i H ∧ D.nx σ H) ∨ ((Ite K a).go i H ∧ ∃ N : L2.St → Hp → Prop, (∀ σ' H', N σ' H' → ∃ m', m' < m ∧ W (i + 1) m' σ' H') ∧ ∀ x H', (Ite K a).yld i H x H' → g x σ H' fun σ2 H2 => tb { D with nx := N, ct := N, bk := D.nx } σ2 H2) := by
  refine ⟨fun i m σ H => m = xs.length - i ∧ i ≤ xs.length ∧ Pv i σ H, ⟨xs.length, by simp, Nat.zero_le _, h0⟩, ?_⟩
  rintro i m σ H ⟨rfl, hi, p⟩
  have q := hl i σ H hi p
  by_cases hlt : i < xs.length
  · refine .inr ⟨⟨xs, xs[i], q, by simp [hlt]⟩, Pv (i + 1), fun σ' H' p' => ⟨xs.length - (i + 1), by omega, rfl, hlt, p'⟩, fun x H' y => ?_⟩
    obtain ⟨T, z, rfl, hT, rfl, hz⟩ := y
    exact hs i z T σ H (hz xs q) hT p
  · have e : i = xs.length := by omega
    subst e
    exact .inl ⟨⟨xs, q, Nat.le_refl _⟩, hd σ H p⟩

/-! ### text * int -/
theorem op_mul_str {X : Cx} : OpR X (binaryOp .Mult) (fun x y H Q => ∃ (n : Nat) (z : Str), x = .str z ∧ y = .int n ∧ z.length = 1 ∧ n ≤ 100000 ∧ Q (.str ⟨(List.replicate n (z.cps.getD 0 0)).toArray⟩) H) := by
  intro pins s σ H x y v u Q I rx ry h
  obtain ⟨n, z, rfl, rfl, hz, hn, q⟩ := h
  obtain ⟨t, rfl⟩ := rx
  obtain ⟨t', rfl⟩ := ry
  obtain ⟨c, rfl⟩ : ∃ c, z = ⟨#[c]⟩ := by
    obtain ⟨⟨l⟩⟩ := z
    match l, hz with
    | [c], _ => exact ⟨c, rfl⟩
  have fold : ∀ (k : Nat) (acc : Array Nat), ((List.replicate k #[c]).foldl (· ++ ·) acc).toList = acc.toList ++ List.replicate k c := PyProof.Rows.foldl_rep c
  refine PySem.P.mul_str (by
      rw [decide_eq_false (show ¬ ((n : Int) < -(2 ^ 63)) by omega), decide_eq_false (show ¬ ((n : Int) ≥ 2 ^ 63) by omega)]
      rfl) (fun h1 h2 h3 => ?_) (fun h1 h2 => ?_) ?_
  · have h4 : (1 : Int) > (2 ^ 63 - 1) / (n : Int) := h3
    have h5 : (0 : Int) < (n : Int) := by omega
    have h6 : (1 : Int) ≤ (2 ^ 63 - 1) / (n : Int) := by
      refine (Int.le_ediv_iff_mul_le h5).mpr ?_
      omega
    omega
  · have e : (⟨#[c]⟩ : Str).length * (n : Int).toNat = n := by
      show 1 * (n : Int).toNat = n
      rw [Int.toNat_natCast]
      omega
    rw [e]
    exact decide_eq_false (by rw [sizeLine_eq]; omega)
  · by_cases h0 : (n : Int) < 1
    · rw [if_pos h0]
      have e : n = 0 := by omega
      subst e
      exact ⟨Nat.zero_le _, .str ⟨#[]⟩, H, I.tok _, ⟨_, rfl⟩, q⟩
    · rw [if_neg h0]
      by_cases h1 : ((n : Int) == 1 || (⟨#[c]⟩ : Str).length == 0) = true
      · rw [if_pos h1]
        have e : n = 1 := by
          have h2 : (n : Int) = 1 := by simpa [Str.length] using h1
          omega
        subst e
        exact ⟨.str ⟨#[c]⟩, H, I, ⟨_, rfl⟩, q⟩
      · rw [if_neg h1]
        have e : (⟨(List.replicate (n : Int).toNat #[c]).foldl (· ++ ·) #[]⟩ : Str) = ⟨(List.replicate n c).toArray⟩ := by
          refine Str.ext' ?_
          show (List.replicate (n : Int).toNat #[c]).foldl (· ++ ·) #[] = (List.replicate n c).toArray
          have e2 := fold (n : Int).toNat #[]
          rw [Int.toNat_natCast] at e2 ⊢
          exact Array.ext' (by rw [e2]; simp)
        rw [e]
        exact ⟨by show (List.replicate n c).toArray.size ≤ sizeLine; rw [List.size_toArray, List.length_replicate, sizeLine_eq]; omega, .str ⟨(List.replicate n c).toArray⟩, H, I.tok _, ⟨_, rfl⟩, q⟩
end K31
set_option maxHeartbeats 2000000
/-! K9: sorted(d) of a dict whose keys are ints; == of two dicts whose values are data. -/
namespace K31
open PySem PySem.Spec PyProof.Rows L2

theorem ints_at : ∀ {us : List Value} {ks : List Int}, us.length = ks.length → (∀ (j : Nat) (v : Value), us[j]? = some v → ∃ (x : Int) (t : Tok), ks[j]? = some x ∧ v = Value.int x t) → IntsAre us ks
  | [], [], _, _ => .nil
  | u :: us, k :: ks, hl, h => by
    obtain ⟨x, t, e1, e2⟩ := h 0 u rfl
    have e1' : k = x := Option.some.inj e1
    subst e1'
    subst e2
    refine .cons _ _ (ints_at (by simpa using hl) fun j v e => ?_)
    obtain ⟨x, t, a, b⟩ := h (j + 1) v (by simpa using e)
    exact ⟨x, t, by simpa using a, b⟩
  | [], _ :: _, hl, _ => by simp at hl
  | _ :: _, [], hl, _ => by simp at hl
theorem call_sortedDI {X : Cx} (hcalm : X.calm = true) : CallR X (.builtin "sorted") (fun xs H Q => ∃ (a : Addr) (kvs : List (Key × V)) (ks : List Int), xs = [.ref a] ∧ Rd H a (.dK kvs) ∧ kvs.map (·.1) = ks.map Sum.inl ∧
    ∀ (ys : List Int) (p : Addr), ys.Perm ks → ys.Pairwise (· ≤ ·) → H p = none → Q (.ref p) (upd H p (.lst (ys.map V.int)))) := by
  intro pins s σ H xs us Q I r q
  obtain ⟨a, kvs, ks, ex, hd, hks, q⟩ := q
  subst ex
  obtain ⟨u, eu, rx⟩ := vals1 r
  subst eu
  cases rx
  obtain ⟨z, lo, vs, rel, dd⟩ := dk_rd I.hok hd
  obtain ⟨ep, hat⟩ := dd.dictAt
  have hkeys : vs.map (·.1) = ks.map Sum.inl := rel.keys.symm.trans hks
  have hl : vs.length = ks.length := by
    have e := congrArg List.length hkeys
    rw [List.length_map, List.length_map] at e
    exact e
  have h16 : vs.length ≤ sizeLine := by rw [← rel.length]; exact z
  refine Calls.call_function_entry PyProof.Rows.kind_sorted PyProof.Rows.plain_sorted PyProof.Rows.entry_sorted (PyProof.Rows.args_sorted1 _) ?_
  unfold Builtin.«sorted»
  refine wpAny_bind (m := checkCount "sorted" 1 1 _) (wpAny_pure ?_)
  refine wpAny_bind (PySem.W.kdu_collect (A := X.A.in1) (PySem.W.kdl_dict (knd := mixKind X.prog X.w) (kvs := vs) (ep := ep) lo) (I.ok.hd hcalm) hat h16 fun h' tk acc hk hacc => ?_)
  have hal : acc.toList.length = ks.length := by rw [Array.length_toList, hacc.1, hl]
  have hS : IntsAre acc.toList ks := ints_at hal fun j v e => by
    obtain ⟨k, x, e1, e2⟩ := hacc.2 j v (by rw [← Array.getElem?_toList]; exact e)
    have e3 : (vs.map (·.1))[j]? = some k := by rw [List.getElem?_map, e1]; all_goals rfl
    rw [hkeys, List.getElem?_map] at e3
    cases e4 : ks[j]? with
    | none => rw [e4] at e3; cases e3
    | some y =>
      rw [e4] at e3
      have e5 : Sum.inl y = k := Option.some.inj e3
      subst e5
      obtain ⟨t, ev⟩ := Value.isInt_shape (k := y) (v := v) e2
      exact ⟨y, t, rfl, ev⟩
  have I1 : Inv X pins σ H { s with heap := h', toks := tk } := I.kept hk
  have hfit : acc.toList.length ≤ sizeLine := by rw [hal, ← hl]; exact h16
  refine wpAny_bind (wpAny_newList ?_ hfit)
  have hoL : (h'.push (seqObj "list" acc.toList.toArray 0)).get? h'.objs.size = some (seqObj "list" acc.toList.toArray 0) := Heap.get?_push_size _ rfl
  show wpAny _ _ _ _ _ { s with heap := h'.push (seqObj "list" acc.toList.toArray 0), toks := tk }
  refine wpAny_bind (wpAny_holding (wpAny_call_entry PyProof.Rows.slot_list_sort ⟨_, hoL, rfl⟩ PyProof.Rows.entry_list_sort
    (list_sort_treeAny (s := { s with heap := h'.push (seqObj "list" acc.toList.toArray 0), toks := tk }) hoL hS hfit fun out ys g1 g2 g3 => ⟨_, rfl, ?_⟩)
    (PyProof.Rows.args_list_sort _)))
  obtain ⟨e', he'⟩ := PyProof.Rows.sortedHeap_at (vs := acc.toList) (out := out) hoL
  have hlen : (ys.map V.int).length ≤ sizeLine := by
    rw [List.length_map, g2.length_eq, ← hal]
    exact hfit
  refine wpAny_pure ⟨_, rfl, .ref h'.objs.size, upd H h'.objs.size (.lst (ys.map V.int)), I1.laid (t' := tk) (fun b u e => ?_) (Nat.le_refl _)
    (show ObjOk X.prog X.w _ _ _ (.lst (ys.map V.int)) from ⟨hlen, out.toList, e', vals_of_ints g1, by rw [Array.toArray_toList]; exact he'⟩), rfl, q ys _ g2 g3 (I1.hok.fresh (Nat.le_refl _))⟩
  have hb : b < h'.objs.size := Heap.lt_size e
  rw [PyProof.Rows.sortedHeap_old (Nat.ne_of_lt hb) (by rw [size_push']; exact Nat.lt_succ_of_lt hb)]
  exact Heap.get?_push_of_some _ e

/-! ### == of two dicts that are equal, their values data -/
def rEqDD (K : PySem.W.Frag) : R2 := fun x y H Q => ∃ (a b : Addr) (ks ls : List (Key × V)), x = .ref a ∧ y = .ref b ∧ H a = some (.dK ks) ∧ H b = some (.dK ls) ∧ ks.length = ls.length ∧
  (∀ p ∈ ks, ∃ u d e, valV ls p.1 = some u ∧ Dp K H p.2 d ∧ Dp K H u e ∧ SeqAt.shaped d = true ∧ SeqAt.shaped e = true ∧ PyData.eqv d e = true) ∧ Q (.bl true) H
theorem op_eqDD {X : Cx} (hu : X.A.units + 80 < cLine) : OpR X (compareOp .Eq) (rEqDD X.K) := by
  intro pins s σ H x y v u Q I rx ry h
  obtain ⟨a, b, ks, ls, rfl, rfl, ha, hb, hl, hp, q⟩ := h
  cases (show v = Value.ref a from rx)
  cases (show u = Value.ref b from ry)
  obtain ⟨_, ya, va, ra, da⟩ := (show ObjOk X.prog X.w H s.heap a (.dK ks) from I.hok a _ ha)
  obtain ⟨_, yb, vb, rb, db⟩ := (show ObjOk X.prog X.w H s.heap b (.dK ls) from I.hok b _ hb)
  have ih : ∀ (x y : V) (v u : Value), (∃ d e, Dp X.K H x d ∧ Dp X.K H y e ∧ SeqAt.shaped d = true ∧ SeqAt.shaped e = true ∧ PyData.eqv d e = true) → RelV x v → RelV y u → SeqAt.EqP X.prog X.w X.A.in1 s v u true := fun x y v u ⟨d, e, hd, he, sd, se, eq⟩ r1 r2 => by
    obtain ⟨as, q1⟩ := Dp.reads I d x v hd r1
    obtain ⟨bs, q2⟩ := Dp.reads I e y u he r2
    have z := SeqAt.eqAt_reads d e X.A.in1 s v u as bs q1 q2 (SeqAt.canLay_of_shaped sd) (SeqAt.canLay_of_shaped se)
      (SeqAt.room_of_shaped sd (by show X.A.units + 1 + 64 < cLine; omega))
    rw [eq] at z
    exact z.eqP
  refine PySem.W.rcP_dicts (knd := mixKind X.prog X.w) (r := true) ya yb da db (by omega) (fun _ => hits_run (F := fun x y => ∃ d e, Dp X.K H x d ∧ Dp X.K H y e ∧ SeqAt.shaped d = true ∧ SeqAt.shaped e = true ∧ PyData.eqv d e = true) ih rb ra fun p hm => ?_) _ _ ?_
  · obtain ⟨u, d, e, h1, h2, h3, h4, h5, h6⟩ := hp p hm
    exact ⟨u, h1, d, e, h2, h3, h4, h5, h6⟩
  · have e : va.length = vb.length := by rw [← ra.length, ← rb.length]; exact hl
    rw [show (va.length == vb.length && true) = true from by rw [e]; simp]
    exact ⟨.bl true, H, I, rfl, q⟩
end K31
set_option maxHeartbeats 2000000
/-! D0: the data: lines, edits, program lines, and how the heap bears them. -/
namespace K31
open PySem PySem.Spec PyProof.Rows L2

/-! ### pairs of lists -/
theorem Pg1 {α β : Type} {F : α → β → Prop} : ∀ {xs : List α} {ys : List β} {i : Nat} {x : α}, Paired F xs ys → xs[i]? = some x → ∃ y, ys[i]? = some y ∧ F x y
  | _, _, _, _, .nil, e => by simp at e
  | _, _, 0, _, .cons r _, e => by simp at e; subst e; exact ⟨_, rfl, r⟩
  | _, _, i + 1, x, .cons _ t, e => by
    obtain ⟨u, h1, h2⟩ := Pg1 (i := i) (x := x) t (by simpa using e)
    exact ⟨u, by simpa using h1, h2⟩
theorem Pg2 {α β : Type} {F : α → β → Prop} : ∀ {xs : List α} {ys : List β} {i : Nat} {y : β}, Paired F xs ys → ys[i]? = some y → ∃ x, xs[i]? = some x ∧ F x y
  | _, _, _, _, .nil, e => by simp at e
  | _, _, 0, _, .cons r _, e => by simp at e; subst e; exact ⟨_, rfl, r⟩
  | _, _, i + 1, x, .cons _ t, e => by
    obtain ⟨u, h1, h2⟩ := Pg2 (i := i) (y := x) t (by simpa using e)
    exact ⟨u, by simpa using h1, h2⟩
theorem Pmap {α β : Type} {F G : α → β → Prop} {xs : List α} {ys : List β} (h : Paired F xs ys) (k : ∀ a b, F a b → G a b) : Paired G xs ys := Paired.mapP h k
theorem Pset {α β : Type} {F : α → β → Prop} {x : α} {y : β} (r : F x y) : ∀ {xs : List α} {ys : List β} (i : Nat), Paired F xs ys → Paired F (xs.set i x) (ys.set i y)
  | _, _, _, .nil => .nil
  | _, _, 0, .cons _ t => .cons r t
  | _, _, i + 1, .cons q t => .cons q (Pset r i t)
theorem Papp {α β : Type} {F : α → β → Prop} : ∀ {xs xs' : List α} {ys ys' : List β}, Paired F xs ys → Paired F xs' ys' → Paired F (xs ++ xs') (ys ++ ys')
  | _, _, _, _, .nil, h => h
  | _, _, _, _, .cons r t, h => .cons r (Papp t h)
theorem Pof {α β : Type} {F : α → β → Prop} (f : β → α) (h : ∀ b, F (f b) b) : ∀ (l : List β), Paired F (l.map f) l
  | [] => .nil
  | b :: r => .cons (h b) (Pof f h r)
theorem Pmem {α β : Type} {F : α → β → Prop} {xs : List α} {ys : List β} (h : Paired F xs ys) {x : α} (hx : x ∈ xs) : ∃ y ∈ ys, F x y := by
  obtain ⟨i, hi, e⟩ := List.mem_iff_getElem.mp hx
  obtain ⟨y, h1, h2⟩ := Pg1 h (show xs[i]? = some x by rw [List.getElem?_eq_getElem hi, e])
  exact ⟨y, List.mem_of_getElem? h1, h2⟩

/-! ### heaps: tuples stand -/
def TT (K : PySem.W.Frag) (H H' : Hp) : Prop := ∀ a xs, SqT K H a xs → SqT K H' a xs
section
variable {K : PySem.W.Frag} {H H1 H2 : Hp} {p : Addr} {o : HO}
theorem TT.refl (H : Hp) : TT K H H := fun _ _ h => h
theorem TT.trans (a : TT K H H1) (b : TT K H1 H2) : TT K H H2 := fun x xs h => b x xs (a x xs h)
theorem TT.up (h1 : ∀ xs, H p ≠ some (.tup xs)) (h2 : ∀ ob xs, H p ≠ some (.frz ob (.tup xs))) : TT K H (upd H p o) := fun a xs h => by
  rcases h with (h | ⟨ob, h⟩) | h
  · exact .inl (.inl (by rw [upd_ne (fun e => h1 xs (by rw [← e]; exact h))]; exact h))
  · exact .inl (.inr ⟨ob, by rw [upd_ne (fun e => h2 ob xs (by rw [← e]; exact h))]; exact h⟩)
  · exact .inr h
theorem TT.new (h : H p = none) : TT K H (upd H p o) := TT.up (fun xs e => by rw [h] at e; cases e) fun ob xs e => by rw [h] at e; cases e
theorem TT.lst {l : List V} (h : H p = some (.lst l)) : TT K H (upd H p o) := TT.up (fun xs e => by rw [h] at e; cases e) fun ob xs e => by rw [h] at e; cases e
theorem TT.dk {l : List (Key × V)} (h : H p = some (.dK l)) : TT K H (upd H p o) := TT.up (fun xs e => by rw [h] at e; cases e) fun ob xs e => by rw [h] at e; cases e
theorem TT.frzd {ob : Obj} {l : List (Key × V)} (h : H p = some (.frz ob (.dK l))) : TT K H (upd H p o) := TT.up (fun xs e => by rw [h] at e; cases e) fun ob' xs e => by rw [h] at e; cases e
theorem TT.of_same (s : Same H H1) : TT K H H1 := fun a xs h => by
  rcases h with (h | ⟨ob, h⟩) | h
  · exact .inl (.inl (s _ _ h))
  · exact .inl (.inr ⟨ob, s _ _ h⟩)
  · exact .inr h
theorem Same.new (h : H p = none) : Same H (upd H p o) := fun b ob e => by rw [upd_ne (ne_of_none e h)]; exact e
/-- what was new at H stays out of its way -/
theorem Same.upn (s : Same H H1) (h : H p = none) : Same H (upd H1 p o) := fun b ob e => by rw [upd_ne (ne_of_none e h)]; exact s b ob e

/-- all stands but code tables, which may grow -/
structure Sm (H H' : Hp) : Prop where
  old : ∀ b o, H b = some o → (∀ ps, o ≠ .tbl ps) → H' b = some o
  there : ∀ b o, H b = some o → ∃ o', H' b = some o'
  tab : ∀ P, GxR.TabG H P → GxR.TabG H' P
theorem Same.sm (s : Same H H1) : Sm H H1 := ⟨fun b o e _ => s b o e, fun b o e => ⟨o, s b o e⟩, fun P ⟨ps, h, t⟩ => ⟨ps, s _ _ h, t⟩⟩
theorem Sm.refl (H : Hp) : Sm H H := Same.sm (Same.refl H)
theorem Sm.trans (a : Sm H H1) (b : Sm H1 H2) : Sm H H2 :=
  ⟨fun x o e n => b.old x o (a.old x o e n) n, fun x o e => let ⟨o', e'⟩ := a.there x o e; b.there x o' e', fun P h => b.tab P (a.tab P h)⟩
theorem Sm.free (s : Sm H H1) (h : H1 p = none) : H p = none := by
  cases q : H p with
  | none => rfl
  | some o =>
    obtain ⟨o', e⟩ := s.there p o q
    rw [h] at e
    cases e
theorem Sm.lst (s : Sm H H1) {l : List V} (h : H p = some (.lst l)) : H1 p = some (.lst l) := s.old _ _ h fun _ e => by cases e
theorem Sm.dk (s : Sm H H1) {l : List (Key × V)} (h : H p = some (.dK l)) : H1 p = some (.dK l) := s.old _ _ h fun _ e => by cases e
theorem Sm.up (s : Sm H H1) (h : H p = none) (hp : ∀ P, GxR.TabG H P → p ≠ P) : Sm H (upd H1 p o) :=
  ⟨fun b ob e n => by rw [upd_ne (ne_of_none e h)]; exact s.old b ob e n, fun b ob e => by rw [upd_ne (ne_of_none e h)]; exact s.there b ob e, fun P t => by
    obtain ⟨ps, e, k⟩ := s.tab P t
    exact ⟨ps, by rw [upd_ne (Ne.symm (hp P t))]; exact e, k⟩⟩
theorem Sm.upn (s : Sm H H1) (h : H p = none) : Sm H (upd H1 p o) := s.up h fun P ⟨ps, e, _⟩ z => by rw [← z, h] at e; cases e
theorem TT.of_sm (s : Sm H H1) : TT K H H1 := fun a xs h => by
  rcases h with (h | ⟨ob, h⟩) | h
  · exact .inl (.inl (s.old _ _ h fun _ e => by cases e))
  · exact .inl (.inr ⟨ob, s.old _ _ h fun _ e => by cases e⟩)
  · exact .inr h
theorem Sm.sql (s : Sm H H1) {a : Addr} {xs : List V} (h : SqL K H a xs) : SqL K H1 a xs := by
  rcases h with (h | ⟨ob, h⟩) | h
  · exact .inl (.inl (s.old _ _ h fun _ e => by cases e))
  · exact .inl (.inr ⟨ob, s.old _ _ h fun _ e => by cases e⟩)
  · exact .inr h
end

/-! ### lines -/
inductive Ln where
  | prose (t : Str)
  | head (n : Str)
  | use (i : Nat) (n : Str)
  | code (t : Str)
def lnV : Ln → List V
  | .prose t => [.str "prose", .str t]
  | .head n => [.str "head", .str n]
  | .use i n => [.str "use", .int i, .str n]
  | .code t => [.str "code", .str t]
def Ln.kind : Ln → Str
  | .prose _ => "prose"
  | .head _ => "head"
  | .use _ _ => "use"
  | .code _ => "code"
theorem lnV_0 (l : Ln) : (lnV l)[0]? = some (.str l.kind) := by cases l <;> rfl
def IsLn (K : PySem.W.Frag) (H : Hp) (v : V) (l : Ln) : Prop := ∃ a, v = .ref a ∧ SqT K H a (lnV l)
def IsDoc (K : PySem.W.Frag) (H : Hp) (d : Addr) (D : List Ln) : Prop := ∃ vs, SqT K H d vs ∧ Paired (IsLn K H) vs D
section
variable {K : PySem.W.Frag} {H H1 : Hp}
theorem IsLn.mono (t : TT K H H1) {v : V} {l : Ln} (h : IsLn K H v l) : IsLn K H1 v l := let ⟨a, e, q⟩ := h; ⟨a, e, t _ _ q⟩
theorem IsDoc.mono (t : TT K H H1) {d : Addr} {D : List Ln} (h : IsDoc K H d D) : IsDoc K H1 d D := let ⟨vs, q, p⟩ := h; ⟨vs, t _ _ q, Pmap p fun _ _ z => z.mono t⟩
end

/-! ### program lines -/
abbrev PL := Nat × List Nat
def plP (p : List Nat) : List V := p.map fun (n : Nat) => V.int (n : Int)
def IsPl (K : PySem.W.Frag) (H : Hp) (v : V) (x : PL) : Prop := ∃ (a b : Addr) (t : Str), v = .ref a ∧ SqT K H a [.str t, .int x.1, .ref b] ∧ SqT K H b (plP x.2)
def IsProg (K : PySem.W.Frag) (H : Hp) (p : Addr) (P : List PL) : Prop := ∃ vs, H p = some (.lst vs) ∧ Paired (IsPl K H) vs P
section
variable {K : PySem.W.Frag} {H H1 : Hp}
theorem IsPl.mono (t : TT K H H1) {v : V} {x : PL} (h : IsPl K H v x) : IsPl K H1 v x := let ⟨a, b, s, e, q, q2⟩ := h; ⟨a, b, s, e, t _ _ q, t _ _ q2⟩
theorem IsProg.mono (t : TT K H H1) {p : Addr} {P : List PL} (h : IsProg K H p P) (k : ∀ l, H p = some (.lst l) → H1 p = some (.lst l)) : IsProg K H1 p P := let ⟨vs, q, z⟩ := h; ⟨vs, k _ q, Pmap z fun _ _ y => y.mono t⟩
theorem IsProg.sm (s : Sm H H1) {p : Addr} {P : List PL} (h : IsProg K H p P) : IsProg K H1 p P := h.mono (TT.of_sm s) fun _ q => s.lst q
end

/-! ### edits -/
inductive Chg where
  | keep | drop
  | text (t : Str)
  deriving DecidableEq
structure Ed where
  ahead : List Str
  chg : Chg
  behind : List Str
  deriving DecidableEq
def chgV : Chg → List V
  | .keep => [.str "keep"]
  | .drop => [.str "drop"]
  | .text t => [.str "text", .str t]
def strsV (l : List Str) : List V := l.map V.str
def IsChg (K : PySem.W.Frag) (H : Hp) (v : V) (c : Chg) : Prop := ∃ a, v = .ref a ∧ SqT K H a (chgV c)
def IsStrs (K : PySem.W.Frag) (H : Hp) (v : V) (l : List Str) : Prop := ∃ a, v = .ref a ∧ SqT K H a (strsV l)
def IsEd (K : PySem.W.Frag) (H : Hp) (v : V) (e : Ed) : Prop := ∃ (a : Addr) (x c z : V), v = .ref a ∧ SqT K H a [x, c, z] ∧ IsStrs K H x e.ahead ∧ IsChg K H c e.chg ∧ IsStrs K H z e.behind
def IsEds (K : PySem.W.Frag) (H : Hp) (p : Addr) (es : List Ed) : Prop := ∃ vs, H p = some (.lst vs) ∧ Paired (IsEd K H) vs es
section
variable {K : PySem.W.Frag} {H H1 : Hp}
theorem IsChg.mono (t : TT K H H1) {v : V} {c : Chg} (h : IsChg K H v c) : IsChg K H1 v c := let ⟨a, e, q⟩ := h; ⟨a, e, t _ _ q⟩
theorem IsStrs.mono (t : TT K H H1) {v : V} {l : List Str} (h : IsStrs K H v l) : IsStrs K H1 v l := let ⟨a, e, q⟩ := h; ⟨a, e, t _ _ q⟩
theorem IsEd.mono (t : TT K H H1) {v : V} {e : Ed} (h : IsEd K H v e) : IsEd K H1 v e := let ⟨a, x, c, z, q1, q2, q3, q4, q5⟩ := h; ⟨a, x, c, z, q1, t _ _ q2, q3.mono t, q4.mono t, q5.mono t⟩
theorem IsEds.mono (t : TT K H H1) {p : Addr} {es : List Ed} (h : IsEds K H p es) (k : ∀ l, H p = some (.lst l) → H1 p = some (.lst l)) : IsEds K H1 p es := let ⟨vs, q, z⟩ := h; ⟨vs, k _ q, Pmap z fun _ _ y => y.mono t⟩
theorem IsEds.sm (s : Sm H H1) {p : Addr} {es : List Ed} (h : IsEds K H p es) : IsEds K H1 p es := h.mono (TT.of_sm s) fun _ q => s.lst q
end

/-! ### as data -/
def strD (l : List Str) : PyData := .tuple (l.map .str)
def chgD : Chg → PyData
  | .keep => .tuple [.str "keep"]
  | .drop => .tuple [.str "drop"]
  | .text t => .tuple [.str "text", .str t]
def edD (e : Ed) : PyData := .tuple [strD e.ahead, chgD e.chg, strD e.behind]
section
variable {K : PySem.W.Frag} {H : Hp}
theorem dp_strs : ∀ (l : List Str), DpAll K H (strsV l) (l.map .str)
  | [] => .nil
  | x :: r => .cons (.str x) (dp_strs r)
theorem IsStrs.dp {v : V} {l : List Str} (h : IsStrs K H v l) : Dp K H v (strD l) := let ⟨a, e, q⟩ := h; by subst e; exact .tup q (dp_strs l)
theorem IsChg.dp {v : V} {c : Chg} (h : IsChg K H v c) : Dp K H v (chgD c) := by
  obtain ⟨a, e, q⟩ := h
  subst e
  cases c with
  | keep => exact .tup q (.cons (.str _) .nil)
  | drop => exact .tup q (.cons (.str _) .nil)
  | text t => exact .tup q (.cons (.str _) (.cons (.str _) .nil))
theorem IsEd.dp {v : V} {e : Ed} (h : IsEd K H v e) : Dp K H v (edD e) := by
  obtain ⟨a, x, c, z, q1, q2, q3, q4, q5⟩ := h
  subst q1
  exact .tup q2 (.cons q3.dp (.cons q4.dp (.cons q5.dp .nil)))
end
theorem eqv_str (x y : Str) : PyData.eqv (.str x) (.str y) = (x == y) := rfl
theorem eqvAll_strs : ∀ (l r : List Str), PyData.eqvAll (l.map .str) (r.map .str) = decide (l = r)
  | [], [] => rfl
  | [], _ :: _ => rfl
  | _ :: _, [] => rfl
  | x :: l, y :: r => by
    show (PyData.eqv (.str x) (.str y) && PyData.eqvAll (l.map .str) (r.map .str)) = _
    rw [eqvAll_strs l r, eqv_str]
    by_cases h1 : x = y
    · subst h1
      by_cases h2 : l = r
      · subst h2
        simp
      · simp [h2]
    · simp [h1]
theorem eqv_chg (c d : Chg) : PyData.eqv (chgD c) (chgD d) = decide (c = d) := by
  cases c with
  | keep => cases d with
    | keep => decide +kernel
    | drop => decide +kernel
    | text t => rfl
  | drop => cases d with
    | keep => decide +kernel
    | drop => decide +kernel
    | text t => rfl
  | text s => cases d with
    | keep => rfl
    | drop => rfl
    | text t =>
      show (PyData.eqv (.str "text") (.str "text") && (PyData.eqv (.str s) (.str t) && true)) = _
      rw [show PyData.eqv (.str "text") (.str "text") = true from by decide +kernel, eqv_str]
      by_cases h : s = t
      · subst h; simp
      · simp [h]
theorem eqv_ed (e f : Ed) : PyData.eqv (edD e) (edD f) = decide (e = f) := by
  show (PyData.eqvAll (e.ahead.map .str) (f.ahead.map .str) && (PyData.eqv (chgD e.chg) (chgD f.chg) && (PyData.eqvAll (e.behind.map .str) (f.behind.map .str) && true))) = _
  rw [eqvAll_strs, eqvAll_strs, eqv_chg]
  obtain ⟨a, c, b⟩ := e
  obtain ⟨a', c', b'⟩ := f
  by_cases h1 : a = a' <;> by_cases h2 : c = c' <;> by_cases h3 : b = b' <;> simp [h1, h2, h3]
/-- printable signs alone -/
def Asc (z : Str) : Prop := ∀ c ∈ z.cps.toList, 32 ≤ c ∧ c < 127
def Chg.Asc : Chg → Prop
  | .text t => K31.Asc t
  | _ => True
def Ed.Asc (e : Ed) : Prop := (∀ t ∈ e.ahead, K31.Asc t) ∧ e.chg.Asc ∧ ∀ t ∈ e.behind, K31.Asc t
end K31
set_option maxHeartbeats 2000000
/-! C0: a def with all that its callers want. -/
namespace K31
open PySem PySem.Spec PyProof.Rows L2
structure Cal (P : Program) (w : World) (K : PySem.W.Frag) (mg : Str → Option Value) (base : Heap) (CX : CXT) (k : Nat) (x : Str) (ps : List Str) (sp : Sp) : Prop where
  ex : ∃ f fd, FnOk P w K mg base CX k f fd ps sp ∧ mg x = some (.ref f) ∧ PySem.W.keepIn K (.ref f) = true ∧ Binds K fd ps []
section
variable {X : Cx} {CX : CXT} {k : Nat} {ps : List Str} {sp : Sp} {E : XK} {x : Str} {p pos : Pos} {e : Expr} {es : List Expr} {t : TA}
theorem pe_cal0 (F : Cal X.prog X.w X.K X.mg X.base CX0 k x ps sp) (hr : Room k X.A) (ha : PA X (e :: es) t) (hg : Gl X x := by rfl) (hdb : (x == ("__debug__" : Str)) = false := by decide)
    (he : starEach (e :: es) X.env = (false, eval e X.env) :: starEach es X.env := by rfl) (hpl : (backTo pos (starEach es X.env)).any (·.1) = false := by rfl) : PE X (.Call (.Name x p) (e :: es) [] pos) (tCall sp [] E0 t) := by
  obtain ⟨f, fd, F1, hm, hk, hb⟩ := F.ex
  exact pe_call F1 hr hg hm hk hb .nil pass0 ha hdb he hpl
theorem pe_calX {W : WX} (F : Cal X.prog X.w X.K X.mg X.base (L2.CX X.prog X.w) k x ps sp) (hr : Room k X.A) (tk : Takes X W) (ha : PA X (e :: es) t) (hg : Gl X x := by rfl) (hdb : (x == ("__debug__" : Str)) = false := by decide)
    (he : starEach (e :: es) X.env = (false, eval e X.env) :: starEach es X.env := by rfl) (hpl : (backTo pos (starEach es X.env)).any (·.1) = false := by rfl) : PE X (.Call (.Name x p) (e :: es) [] pos) (tCallS sp (WE W) t) := by
  obtain ⟨f, fd, F1, hm, hk, hb⟩ := F.ex
  exact pe_callS F1 hr hg hm hk hb (fun σ => passAt tk σ) ha hdb he hpl
end
section
variable {P : Program} {w : World} {K : PySem.W.Frag} {mg : Str → Option Value} {base : Heap}
theorem Cal.mk0 {CX : CXT} {k : Nat} {x qual : Str} {st : Stmt} {ps : List Str} {sp : Sp} {f : Addr} {fd : FuncData} (F : Fun K x qual st f fd) (m : mg x = some (.ref f)) (h : FnOk P w K mg base CX k f fd ps sp)
    (b : ∀ (kV doc pm : Value) (an : Option Addr) (cdv ct : Value) (us : List Value), us.length = ps.length → bindArgs (PySem.W.fnOf x qual (defArgs st) (defBody st) (defScope st) .none kV doc pm an cdv ct) ⟨us, []⟩ = pure (ps.zip us)) :
    Cal P w K mg base CX k x ps sp := ⟨f, fd, h, m, F.kp, F.binds b⟩
/-- a def of the text: at an address, named so -/
structure At (K : PySem.W.Frag) (mg : Str → Option Value) (x : Str) (st : Stmt) : Prop where
  ex : ∃ f fd, Fun K x x st f fd ∧ mg x = some (.ref f)
theorem At.cal {x : Str} {st : Stmt} {N ps : List Str} {k : Nat} {sp : Sp} (F : At K mg x st) (S : FnScope N ps (defScope st)) (len : ∀ vs H Q E, sp vs H Q E → vs.length = ps.length)
    (b : ∀ (kV doc pm : Value) (an : Option Addr) (cdv ct : Value) (us : List Value), us.length = ps.length → bindArgs (PySem.W.fnOf x x (defArgs st) (defBody st) (defScope st) .none kV doc pm an cdv ct) ⟨us, []⟩ = pure (ps.zip us))
    (hbody : ∀ (f : Addr) (cdv : Value) (A : Around) (outer : List Env) (s : Shared) (H : Hp) (vs : List V) (Q : VK) (E : XK), Room k (A.deeper (envOfC x (defScope st) s.heap.objs.size f cdv)) → sp vs H Q E →
      ∃ t, PSs (cxOf CX0 P w K mg base N x (defScope st) f cdv A outer s H E).nox (defBody st) t ∧ t { nx := fun _ H' => Q .non H', rt := Q } (start N vs) H) : Cal P w K mg base CX0 (k + 1) x ps sp := by
  obtain ⟨f, fd, F1, m⟩ := F.ex
  exact Cal.mk0 F1 m (F1.ok S len fun cdv A outer s H vs Q E hr h => hbody f cdv A outer s H vs Q E hr h) b
theorem At.calX {x : Str} {st : Stmt} {N ps : List Str} {k : Nat} {sp : Sp} (F : At K mg x st) (S : FnScope N ps (defScope st)) (len : ∀ vs H Q E, sp vs H Q E → vs.length = ps.length)
    (b : ∀ (kV doc pm : Value) (an : Option Addr) (cdv ct : Value) (us : List Value), us.length = ps.length → bindArgs (PySem.W.fnOf x x (defArgs st) (defBody st) (defScope st) .none kV doc pm an cdv ct) ⟨us, []⟩ = pure (ps.zip us))
    (hbody : ∀ (f : Addr) (cdv : Value) (A : Around) (outer : List Env) (s : Shared) (H : Hp) (vs : List V) (Q : VK) (E : XK), Room k (A.deeper (envOfC x (defScope st) s.heap.objs.size f cdv)) → sp vs H Q E →
      ∃ t, PSs (cxOf (L2.CX P w) P w K mg base N x (defScope st) f cdv A outer s H E) (defBody st) t ∧ t { nx := fun _ H' => Q .non H', rt := Q } (start N vs) H) : Cal P w K mg base (L2.CX P w) (k + 1) x ps sp := by
  obtain ⟨f, fd, F1, m⟩ := F.ex
  exact Cal.mk0 F1 m (F1.okX S len fun cdv A outer s H vs Q E hr h => hbody f cdv A outer s H vs Q E hr h) b
end
theorem small5 {n : Nat} (h : n ≤ 100000) : n ≤ sizeLine := Nat.le_trans h (by decide)
theorem small5' {n : Nat} (h : n ≤ 100000) : n < sizeLine := Nat.lt_of_le_of_lt h (by decide)
end K31
set_option maxHeartbeats 2000000
/-! A1: cells, draws, texts of the law. -/
namespace K31
open PySem PySem.Spec PyProof.Rows L2
abbrev sCell : Stmt := top 41
abbrev sDraws : Stmt := top 42
abbrev sBig : Stmt := top 43
abbrev sText : Stmt := top 44
abbrev sPut : Stmt := top 51
abbrev sNewText : Stmt := top 52
theorem scCell : FnScope ["_law_script", "_law_k"] ["_law_script", "_law_k"] (defScope sCell) := ⟨rfl, rfl, rfl, by decide +kernel, rfl, by decide +kernel, by decide +kernel⟩
theorem scDraws : FnScope ["_law_cell_here", "_law_count", "_law_found", "_law_is_wide", "_law_k", "_law_mixed"] ["_law_cell_here", "_law_count"] (defScope sDraws) := ⟨rfl, rfl, rfl, by decide +kernel, rfl, by decide +kernel, by decide +kernel⟩
theorem scBig : FnScope ["_law_cell_here", "_law_draws_here"] ["_law_cell_here"] (defScope sBig) := ⟨rfl, rfl, rfl, by decide +kernel, rfl, by decide +kernel, by decide +kernel⟩
theorem scText : FnScope ["_law_draw"] ["_law_draw"] (defScope sText) := ⟨rfl, rfl, rfl, by decide +kernel, rfl, by decide +kernel, by decide +kernel⟩
theorem scPut : FnScope ["_law_indent_here", "_law_text_here"] ["_law_indent_here", "_law_text_here"] (defScope sPut) := ⟨rfl, rfl, rfl, by decide +kernel, rfl, by decide +kernel, by decide +kernel⟩
theorem scNewText : FnScope ["_law_draw"] ["_law_draw"] (defScope sNewText) := ⟨rfl, rfl, rfl, by decide +kernel, rfl, by decide +kernel, by decide +kernel⟩
section
variable {P : Program} {w : World} {K : PySem.W.Frag} {mg : Str → Option Value} {base : Heap}
/-- a cell of the script: some int -/
def spC (K : PySem.W.Frag) : Sp := fun vs H Q _ => ∃ (l : Addr) (ns : List Int) (j : Nat), vs = [.ref l, .int (j : Int)] ∧ SqL K H l (ns.map V.int) ∧ ∀ i : Int, Q (.int i) H
theorem cal_cell (F : At K mg "_law_cell" sCell) (mL : mg "len" = none) : Cal P w K mg base CX0 1 "_law_cell" ["_law_script", "_law_k"] (spC K) := by
  refine F.cal scCell (fun vs H Q E h => ?_) (fun _ _ _ _ _ _ us hl => match us, hl with | [_, _], _ => rfl) (fun f cdv A outer s H vs Q E hr h => ?_)
  · obtain ⟨l, ns, j, rfl, _⟩ := h
    rfl
  · obtain ⟨l, ns, j, rfl, hs, q⟩ := h
    refine ⟨_, pss_cons (ps_if (pt_cmpR op_lt (pv 1) (pe_callB call_len_seq (by rfl) mL PySem.boot_len (pa_cons (pv 0) pa_nil)) (nomark _)) (pss_one (ps_ret (pe_ix ix_list (pv 0) (pv 1) (fun _ _ => rfl)))) pss_nil)
      (pss_one (ps_ret pe_int)), ?_⟩
    refine ⟨_, rfl, _, rfl, l, _, rfl, .inl hs, _, _, rfl, rfl, _, rfl, ite2 (fun e => ?_) (fun e => ?_)⟩
    · have e1 : (j : Int) < ((ns.map V.int).length : Int) := of_decide_eq_true e
      rw [List.length_map] at e1
      have e2 : j < ns.length := by omega
      refine ⟨_, rfl, _, rfl, l, _, _, _, rfl, rfl, hs, atI_nat (j := j) ?_, q ns[j]⟩
      rw [List.getElem?_map, List.getElem?_eq_getElem e2]
      rfl
    · exact q 0
/-- some n whole numbers, none negative, in a new list -/
def spDr : Sp := fun vs H Q _ => ∃ (c : Int) (n : Nat), vs = [.int c, .int (n : Int)] ∧ n ≤ 1000 ∧ ∀ (H' : Hp) (p : Addr) (ds : List Nat), Same H H' → H p = none → ds.length = n → H' p = some (.lst (plP ds)) → Q (.ref p) H'
theorem nat_of {i : Int} (h : 0 ≤ i) : ∃ n : Nat, i = (n : Int) := ⟨i.toNat, (Int.toNat_of_nonneg h).symm⟩
theorem plP_app (a : List Nat) (b : Nat) : plP (a ++ [b]) = plP a ++ [.int (b : Int)] := by simp [plP]
theorem plP_len (a : List Nat) : (plP a).length = a.length := by simp [plP]
theorem plP_get {a : List Nat} {i x : Nat} (h : a[i]? = some x) : (plP a)[i]? = some (.int (x : Int)) := by simp [plP, h]
theorem cal_draws (F : At K mg "_law_draws" sDraws) (mR : mg "range" = none) : Cal P w K mg base CX0 1 "_law_draws" ["_law_cell_here", "_law_count"] spDr := by
  refine F.cal scDraws (fun vs H Q E h => ?_) (fun _ _ _ _ _ _ us hl => match us, hl with | [_, _], _ => rfl) (fun f cdv A outer s H vs Q E hr h => ?_)
  · obtain ⟨c, n, rfl, _⟩ := h
    rfl
  · obtain ⟨c, n, rfl, hn, q⟩ := h
    refine ⟨_, pss_cons (ps_set (i := 2) scDraws.nd rfl (.inl rfl) (pe_lst pa_nil))
      (pss_cons (ps_set (i := 3) scDraws.nd rfl (.inl rfl) (pe_cmpR op_ge (pv 0) (pe_op op_pow pe_int pe_int) (nomark _)))
      (pss_cons (ps_for PassesOwn.never rfl (pi_range1 (by rfl) mR (pa_cons (pv 1) pa_nil)) (pg_name (i := 4) scDraws.nd rfl (.inl rfl))
        (pss_one (ps_if (pt_val (pv 3))
          (pss_cons (ps_expr (pe_bm PySem.F.plainAttrs_list PySem.F.slot_list_append PySem.F.type_list_append mt_append (pv 2) (pa_cons (pe_op op_mod (pv 0) pe_int) pa_nil)))
            (pss_one (ps_set (i := 0) scDraws.nd rfl (.inl rfl) (pe_op op_fdiv (pv 0) pe_int))))
          (pss_cons (ps_set (i := 5) scDraws.nd rfl (.inl rfl) (pe_op op_mod (pe_op op_add (pe_op op_mul (pv 0) pe_int) (pe_op op_mul (pv 4) pe_int)) pe_int))
            (pss_one (ps_expr (pe_bm PySem.F.plainAttrs_list PySem.F.slot_list_append PySem.F.type_list_append mt_append (pv 2) (pa_cons (pe_op op_mod (pe_op op_add (pe_op op_add (pe_op op_mul (pv 5) (pv 5)) (pe_op op_mul (pv 0) pe_int)) (pv 4)) pe_int) pa_nil))))))))
      (pss_one (ps_ret (pv 2))))), ?_⟩
    refine ⟨Nat.zero_le _, fun o no => ?_⟩
    refine ⟨_, rfl, _, _, rfl, rfl, ⟨by decide, by decide, by decide⟩, _, _, rfl, rfl, ?_⟩
    refine ⟨_, rfl, n, rfl, by omega, by omega, ?_⟩
    refine for_range (n := n) (fun i σ H3 => ∃ c y4 y5 y6 ds, σ = [some (.int c), some (.int (n : Int)), some (.ref o), y4, y5, y6] ∧ (∃ b, y4 = some (.bl b)) ∧ Same H H3 ∧ ds.length = i ∧ H3 o = some (.lst (plP ds))) ?_ ?_ ?_
    · exact ⟨c, _, _, _, [], rfl, ⟨_, rfl⟩, Same.new no, rfl, upd_same⟩
    · intro i σ H3 hi hP
      obtain ⟨c, y4, y5, y6, ds, rfl, ⟨b, rfl⟩, sm, hl, ho⟩ := hP
      have hlen : (plP ds).length < sizeLine := by rw [plP_len, hl]; exact small1000 (by omega)
      refine ⟨_, rfl, _, rfl, ite2 (fun e => ?_) (fun e => ?_)⟩
      · obtain ⟨m, hm⟩ := nat_of (show 0 ≤ c % 1009 from Int.emod_nonneg _ (by decide))
        refine ⟨_, rfl, .inl ⟨rfl, _, .inl (.inl ho)⟩, _, rfl, _, _, rfl, rfl, (by show (0 : Int) < 1009; decide), o, _, _, rfl, rfl, ho, hlen, ?_⟩
        refine ⟨_, rfl, _, _, rfl, rfl, ⟨by decide, by decide⟩, ?_⟩
        refine ⟨_, _, _, _, ds ++ [m], rfl, ⟨_, rfl⟩, ?_, by simp [hl], ?_⟩
        · exact fun b ob e => by rw [upd_ne (ne_of_none e no)]; exact sm b ob e
        · rw [upd_same, plP_app]
          show some (HO.lst (plP ds ++ [.int (c % 1009)])) = _
          rw [hm]
      · refine ⟨_, rfl, _, _, rfl, rfl, .inr ⟨by decide, by decide⟩, _, rfl, _, _, rfl, rfl, .inr ⟨by decide, by decide⟩, _, _, rfl, rfl, _, _, rfl, rfl, (by show (0 : Int) < 2147483647; decide), ?_⟩
        have h1 : 0 ≤ (c * 48271 + (0 + (i : Int)) * 69621) % 2147483647 := Int.emod_nonneg _ (by decide)
        have h2 : (c * 48271 + (0 + (i : Int)) * 69621) % 2147483647 < 2147483647 := Int.emod_lt_of_pos _ (by decide)
        obtain ⟨m, hm⟩ := nat_of (show 0 ≤ (((c * 48271 + (0 + (i : Int)) * 69621) % 2147483647) * ((c * 48271 + (0 + (i : Int)) * 69621) % 2147483647) + c * 31 + (0 + (i : Int))) % 1000003 from Int.emod_nonneg _ (by decide))
        refine ⟨_, rfl, .inl ⟨rfl, _, .inl (.inl ho)⟩, _, rfl, _, rfl, _, _, rfl, rfl, .inl ⟨by omega, by omega⟩, _, rfl, _, _, rfl, rfl, .inr ⟨by decide, by decide⟩, _, _, rfl, rfl, _, rfl, _, _, rfl, rfl, _, _, rfl, rfl, (by show (0 : Int) < 1000003; decide), o, _, _, rfl, rfl, ho, hlen, ?_⟩
        refine ⟨_, _, _, _, ds ++ [m], rfl, ⟨_, rfl⟩, ?_, by simp [hl], ?_⟩
        · exact fun b ob e => by rw [upd_ne (ne_of_none e no)]; exact sm b ob e
        · rw [upd_same, plP_app]
          show some (HO.lst (plP ds ++ [.int ((((c * 48271 + (0 + (i : Int)) * 69621) % 2147483647) * ((c * 48271 + (0 + (i : Int)) * 69621) % 2147483647) + c * 31 + (0 + (i : Int))) % 1000003)])) = _
          rw [hm]
    · intro σ H3 hP
      obtain ⟨c, y4, y5, y6, ds, rfl, _, sm, hl, ho⟩ := hP
      exact ⟨_, rfl, q H3 o ds sm no hl ho⟩
/-- a number from three draws -/
def spBig : Sp := fun vs H Q _ => ∃ (c : Int), vs = [.int c] ∧ ∀ (H' : Hp) (n : Nat), Same H H' → Q (.int (n : Int)) H'
theorem cal_big (F : At K mg "_law_big" sBig) (D : Cal P w K mg base CX0 1 "_law_draws" ["_law_cell_here", "_law_count"] spDr) : Cal P w K mg base CX0 2 "_law_big" ["_law_cell_here"] spBig := by
  refine F.cal scBig (fun vs H Q E h => ?_) (fun _ _ _ _ _ _ us hl => match us, hl with | [_], _ => rfl) (fun f cdv A outer s H vs Q E hr h => ?_)
  · obtain ⟨c, rfl, _⟩ := h
    rfl
  · obtain ⟨c, rfl, q⟩ := h
    refine ⟨_, pss_cons (ps_set (i := 1) scBig.nd rfl (.inl rfl) (pe_cal0 D hr (pa_cons (pv 0) (pa_cons pe_int pa_nil))))
      (pss_one (ps_ret (pe_op op_add (pe_op op_add (pe_op op_mod (pe_ix ix_list (pv 1) pe_int (fun _ _ => rfl)) pe_int) (pe_op op_mul pe_int (pe_op op_mod (pe_ix ix_list (pv 1) pe_int (fun _ _ => rfl)) pe_int)))
        (pe_op op_mul (pe_op op_mul pe_int pe_int) (pe_op op_mod (pe_ix ix_list (pv 1) pe_int (fun _ _ => rfl)) pe_int))))), ?_⟩
    refine ⟨_, rfl, c, 3, rfl, by decide, fun H1 p ds sm hp hl e => ?_⟩
    obtain ⟨d0, d1, d2, rfl⟩ : ∃ d0 d1 d2, ds = [d0, d1, d2] := by
      match ds, hl with
      | [a, b, c], _ => exact ⟨a, b, c, rfl⟩
    have S : SqL K H1 p (plP [d0, d1, d2]) := SqL.of e
    refine ⟨_, rfl, p, _, _, _, rfl, rfl, S, atI_nat (j := 0) rfl, _, _, rfl, rfl, (by show (0 : Int) < 1009; decide), _, rfl, p, _, _, _, rfl, rfl, S, atI_nat (j := 1) rfl, _, _, rfl, rfl, (by show (0 : Int) < 1009; decide), _, _, rfl, rfl, .inl ⟨by decide, by decide⟩, _, _, rfl, rfl,
      _, _, rfl, rfl, .inl ⟨by decide, by decide⟩, _, rfl, p, _, _, _, rfl, rfl, S, atI_nat (j := 2) rfl, _, _, rfl, rfl, (by show (0 : Int) < 1009; decide), _, _, rfl, rfl, .inl ⟨by decide, by decide⟩, _, _, rfl, rfl, ?_⟩
    obtain ⟨n, hn⟩ := nat_of (show 0 ≤ (d0 : Int) % 1009 + 1009 * ((d1 : Int) % 1009) + 1009 * 1009 * ((d2 : Int) % 1009) by omega)
    show Q (.int ((d0 : Int) % 1009 + 1009 * ((d1 : Int) % 1009) + 1009 * 1009 * ((d2 : Int) % 1009))) H1
    rw [hn]
    exact q H1 n sm
end
end K31
set_option maxHeartbeats 2000000
/-! A2: the law's edits: texts, fates, edits, broken edits. -/
namespace K31
open PySem PySem.Spec PyProof.Rows L2
def okB (z : Str) : Bool := (z.cps.toList.all fun c => decide (32 ≤ c) && decide (c < 127)) && decide (z.length ≤ 10)
theorem okB_asc {z : Str} (h : okB z = true) : Asc z ∧ z.length ≤ 10 := by
  unfold okB at h
  simp only [Bool.and_eq_true, List.all_eq_true, decide_eq_true_eq] at h
  exact ⟨h.1, h.2⟩
theorem Asc.app {a b : Str} (ha : Asc a) (hb : Asc b) : Asc (a ++ b) := by
  intro c hc
  have : c ∈ a.cps.toList ++ b.cps.toList := by
    have e : (a ++ b).cps.toList = a.cps.toList ++ b.cps.toList := by show (a.cps ++ b.cps).toList = _; simp
    rw [e] at hc
    exact hc
  rcases List.mem_append.mp this with h | h
  · exact ha c h
  · exact hb c h
/-- n blanks -/
def sp (n : Nat) : Str := ⟨(List.replicate n 32).toArray⟩
theorem sp_asc (n : Nat) : Asc (sp n) := by
  intro c hc
  have : c ∈ List.replicate n 32 := hc
  rw [List.eq_of_mem_replicate this]
  decide
theorem sp_len (n : Nat) : (sp n).length = n := by
  show (List.replicate n 32).toArray.size = n
  simp
/-- a text of the law -/
def TxOk (m : Nat) (t : Str) : Prop := Asc t ∧ t.length ≤ m
theorem TxOk.mono {m n : Nat} {t : Str} (h : TxOk m t) (l : m ≤ n) : TxOk n t := ⟨h.1, Nat.le_trans h.2 l⟩
def CgOk (m : Nat) : Chg → Prop
  | .text t => TxOk m t
  | _ => True
structure EdOk (m na nb : Nat) (e : Ed) : Prop where
  a : ∀ t ∈ e.ahead, TxOk m t
  c : CgOk m e.chg
  b : ∀ t ∈ e.behind, TxOk m t
  la : e.ahead.length ≤ na
  lb : e.behind.length ≤ nb
theorem CgOk.mono {m n : Nat} {c : Chg} (h : CgOk m c) (l : m ≤ n) : CgOk n c := by
  cases c with
  | text t => exact TxOk.mono h l
  | keep => trivial
  | drop => trivial
theorem EdOk.mono {m na nb m' na' nb' : Nat} {e : Ed} (h : EdOk m na nb e) (l1 : m ≤ m') (l2 : na ≤ na') (l3 : nb ≤ nb') : EdOk m' na' nb' e :=
  ⟨fun t ht => (h.a t ht).mono l1, h.c.mono l1, fun t ht => (h.b t ht).mono l1, Nat.le_trans h.la l2, Nat.le_trans h.lb l3⟩
section
variable {P : Program} {w : World} {K : PySem.W.Frag} {mg : Str → Option Value} {base : Heap}
theorem lit_pick {L : List Str} (h : L.all okB = true) {j : Nat} (hj : j < L.length) : ∃ t, (L.map V.str)[j]? = some (.str t) ∧ TxOk 10 t := by
  refine ⟨L[j], by rw [List.getElem?_map, List.getElem?_eq_getElem hj]; rfl, okB_asc ?_⟩
  exact (List.all_eq_true.mp h) _ (List.getElem_mem hj)
theorem mod_nat (n : Nat) {m : Nat} (h : 0 < m) : ∃ j : Nat, (n : Int) % (m : Int) = (j : Int) ∧ j < m := ⟨n % m, by simp, Nat.mod_lt _ h⟩
/-- a text by a draw -/
def spTx : Sp := fun vs H Q _ => ∃ (n : Nat), vs = [.int (n : Int)] ∧ ∀ (H' : Hp) (t : Str), Same H H' → TxOk 10 t → Q (.str t) H'
theorem cal_text (F : At K mg "_law_text" sText) : Cal P w K mg base CX0 1 "_law_text" ["_law_draw"] spTx := by
  refine F.cal scText (fun vs H Q E h => ?_) (fun _ _ _ _ _ _ us hl => match us, hl with | [_], _ => rfl) (fun f cdv A outer s H vs Q E hr h => ?_)
  · obtain ⟨c, rfl, _⟩ := h
    rfl
  · obtain ⟨n, rfl, q⟩ := h
    refine ⟨_, pss_one (ps_ret (pe_ix ix_list (pe_lst (pa_cons pe_str (pa_cons pe_str (pa_cons pe_str (pa_cons pe_str (pa_cons pe_str (pa_cons pe_str (pa_cons pe_str (pa_cons pe_str (pa_cons pe_str (pa_cons pe_str (pa_cons pe_str (pa_cons pe_str pa_nil)))))))))))))
      (pe_op op_mod (pv 0) pe_int) (fun _ _ => rfl))), ?_⟩
    refine ⟨by show 12 ≤ sizeLine; decide, fun o no => ?_⟩
    obtain ⟨j, ej, hj⟩ := mod_nat n (m := 12) (by decide)
    obtain ⟨t, e1, e2⟩ := lit_pick (L := ["", "x", "  y", "x y", "<a", "z>", " ", "if <b> x", "    ", "w", "x", "=q"]) (by decide +kernel) (j := j) hj
    refine ⟨_, rfl, _, _, rfl, rfl, (by show (0 : Int) < 12; decide), o, _, (n : Int) % 12, .str t, rfl, rfl, SqL.of upd_same, ?_, q _ t (Same.new no) e2⟩
    rw [show (n : Int) % 12 = (j : Int) from ej]
    exact atI_nat e1
theorem cal_newText (F : At K mg "_law_new_text" sNewText) : Cal P w K mg base CX0 1 "_law_new_text" ["_law_draw"] spTx := by
  refine F.cal scNewText (fun vs H Q E h => ?_) (fun _ _ _ _ _ _ us hl => match us, hl with | [_], _ => rfl) (fun f cdv A outer s H vs Q E hr h => ?_)
  · obtain ⟨c, rfl, _⟩ := h
    rfl
  · obtain ⟨n, rfl, q⟩ := h
    refine ⟨_, pss_one (ps_ret (pe_ix ix_list (pe_lst (pa_cons pe_str (pa_cons pe_str (pa_cons pe_str (pa_cons pe_str (pa_cons pe_str (pa_cons pe_str (pa_cons pe_str pa_nil))))))))
      (pe_op op_mod (pv 0) pe_int) (fun _ _ => rfl))), ?_⟩
    refine ⟨by show 7 ≤ sizeLine; decide, fun o no => ?_⟩
    obtain ⟨j, ej, hj⟩ := mod_nat n (m := 7) (by decide)
    obtain ⟨t, e1, e2⟩ := lit_pick (L := ["p", "", "q r", " s", "x", "<a", "w"]) (by decide +kernel) (j := j) hj
    refine ⟨_, rfl, _, _, rfl, rfl, (by show (0 : Int) < 7; decide), o, _, (n : Int) % 7, .str t, rfl, rfl, SqL.of upd_same, ?_, q _ t (Same.new no) e2⟩
    rw [show (n : Int) % 7 = (j : Int) from ej]
    exact atI_nat e1
/-- a text put in -/
def putS (n : Nat) (t : Str) : Str := if t = "" then "" else sp n ++ t
theorem putS_ok {n m : Nat} {t : Str} (h : TxOk m t) : TxOk (n + m) (putS n t) := by
  unfold putS
  by_cases e : t = ""
  · rw [if_pos e]
    exact ⟨fun c hc => absurd hc (by show ¬ c ∈ ([] : List Nat); simp), Nat.zero_le _⟩
  · rw [if_neg e]
    refine ⟨(sp_asc n).app h.1, ?_⟩
    rw [Str.length_append, sp_len]
    exact Nat.add_le_add_left h.2 _
def spPut : Sp := fun vs H Q _ => ∃ (n : Nat) (t : Str), vs = [.int (n : Int), .str t] ∧ n ≤ 1000 ∧ t.length ≤ 1000 ∧ Q (.str (putS n t)) H
theorem mul_sp (n : Nat) : (⟨(List.replicate n ((" " : Str).cps.getD 0 0)).toArray⟩ : Str) = sp n := rfl
theorem cal_put (F : At K mg "_law_put" sPut) : Cal P w K mg base CX0 1 "_law_put" ["_law_indent_here", "_law_text_here"] spPut := by
  refine F.cal scPut (fun vs H Q E h => ?_) (fun _ _ _ _ _ _ us hl => match us, hl with | [_, _], _ => rfl) (fun f cdv A outer s H vs Q E hr h => ?_)
  · obtain ⟨n, t, rfl, _⟩ := h
    rfl
  · obtain ⟨n, t, rfl, hn, hm, q⟩ := h
    refine ⟨_, pss_cons (ps_if (pt_cmpR op_eq (pv 1) pe_str (nomark _)) (pss_one (ps_ret pe_str)) pss_nil)
      (pss_one (ps_ret (pe_op op_add_str (pe_op op_mul_str pe_str (pv 0)) (pv 1)))), ?_⟩
    refine ⟨_, rfl, rfl, _, rfl, ite2 (fun e => ?_) (fun e => ?_)⟩
    · have e1 : t = "" := V.str.inj (of_decide_eq_true e)
      rw [putS, if_pos e1] at q
      exact q
    · have e1 : ¬ t = "" := fun z => e (decide_eq_true (by rw [z]))
      rw [putS, if_neg e1] at q
      refine ⟨_, rfl, n, " ", rfl, rfl, rfl, by omega, ?_⟩
      rw [mul_sp]
      exact ⟨_, rfl, sp n, t, rfl, rfl, small5 (by rw [sp_len]; omega), q⟩
end
end K31
set_option maxHeartbeats 2000000
/-! A3: the law's edits: fates. -/
namespace K31
open PySem PySem.Spec PyProof.Rows L2
abbrev sFate : Stmt := top 53
abbrev nFate : List Str := ["_law_cell_here", "_law_is_first_here", "_law_draws_here", "_law_change", "_law_ahead", "_law_behind", "_law_k"]
theorem scFate : FnScope nFate ["_law_cell_here", "_law_is_first_here"] (defScope sFate) := ⟨rfl, rfl, rfl, by decide +kernel, rfl, by decide +kernel, by decide +kernel⟩
section
variable {P : Program} {w : World} {K : PySem.W.Frag} {mg : Str → Option Value} {base : Heap}
theorem strsV_len (l : List Str) : (strsV l).length = l.length := by simp [strsV]
theorem strsV_app (a : List Str) (b : Str) : strsV (a ++ [b]) = strsV a ++ [.str b] := by simp [strsV]
theorem strsV_get {a : List Str} {i : Nat} {x : Str} (h : a[i]? = some x) : (strsV a)[i]? = some (.str x) := by simp [strsV, h]
theorem draw_at {H : Hp} {K : PySem.W.Frag} {p : Addr} {ds : List Nat} (e : H p = some (.lst (plP ds))) {i : Nat} (hi : i < ds.length) : ∃ d : Nat, SqL K H p (plP ds) ∧ atI (plP ds) (i : Int) = some (.int (d : Int)) :=
  ⟨ds[i], SqL.of e, atI_nat (plP_get (List.getElem?_eq_getElem hi))⟩
theorem int_mod_eq {n : Nat} {m : Nat} : (n : Int) % (m : Int) = ((n % m : Nat) : Int) := by simp
def spFate (K : PySem.W.Frag) : Sp := fun vs H Q _ => ∃ (c : Int) (b : Bool), vs = [.int c, .bl b] ∧ ∀ (H' : Hp) (v : V) (e : Ed), Same H H' → IsEd K H' v e → EdOk 10 1 2 e → Q v H'
theorem cal_fate (F : At K mg "_law_fate" sFate) (D : Cal P w K mg base CX0 1 "_law_draws" ["_law_cell_here", "_law_count"] spDr) (T : Cal P w K mg base CX0 1 "_law_new_text" ["_law_draw"] spTx) (mR : mg "range" = none) (mT : mg "tuple" = none) :
    Cal P w K mg base CX0 2 "_law_fate" ["_law_cell_here", "_law_is_first_here"] (spFate K) := by
  refine F.cal scFate (fun vs H Q E h => ?_) (fun _ _ _ _ _ _ us hl => match us, hl with | [_, _], _ => rfl) (fun f cdv A outer s H vs Q E hr h => ?_)
  · obtain ⟨c, b, rfl, _⟩ := h
    rfl
  · obtain ⟨c, b, rfl, q⟩ := h
    refine ⟨_, pss_cons (ps_set (i := 2) scFate.nd rfl (.inr rfl) (pe_cal0 D hr (pa_cons (pv 0) (pa_cons pe_int pa_nil))))
      (pss_cons (ps_set (i := 3) scFate.nd rfl (.inl rfl) (pe_tup (pa_cons pe_str pa_nil)))
      (C8.pss_cut (ps_if (pt_cmpR op_eq (pe_op op_mod (pe_ix ix_list (pv 2) pe_int (fun _ _ => rfl)) pe_int) pe_int (nomark _)) (pss_one (ps_set (i := 3) scFate.nd rfl (.inl rfl) (pe_tup (pa_cons pe_str pa_nil)))) pss_nil)
      (C8.pss_cut (ps_if (pt_cmpR op_eq (pe_op op_mod (pe_ix ix_list (pv 2) pe_int (fun _ _ => rfl)) pe_int) pe_int (nomark _)) (pss_one (ps_set (i := 3) scFate.nd rfl (.inl rfl) (pe_tup (pa_cons pe_str (pa_cons (pe_cal0 T hr (pa_cons (pe_ix ix_list (pv 2) pe_int (fun _ _ => rfl)) pa_nil)) pa_nil))))) pss_nil)
      (pss_cons (ps_set (i := 4) scFate.nd rfl (.inl rfl) (pe_tup pa_nil))
      (C8.pss_cut (ps_if (PW.pt (pw_and (pt_val (pv 1)) (pw_and1 (pt_cmpR op_eq (pe_op op_mod (pe_ix ix_list (pv 2) pe_int (fun _ _ => rfl)) pe_int) pe_int (nomark _))))) (pss_one (ps_set (i := 4) scFate.nd rfl (.inl rfl) (pe_tup (pa_cons (pe_cal0 T hr (pa_cons (pe_ix ix_list (pv 2) pe_int (fun _ _ => rfl)) pa_nil)) pa_nil)))) pss_nil)
      (pss_cons (ps_set (i := 5) scFate.nd rfl (.inl rfl) (pe_callTy call_tuple_of (by rfl) mT (by decide +kernel) (pa_cons
        (pe_lc (own := [("_law_k", 6)]) (g := gName 6) (by rfl) scFate.nd (pi_range1 (by rfl) mR (pa_cons (pe_ix ix_list (pe_lst (pa_cons pe_int (pa_cons pe_int (pa_cons pe_int (pa_cons pe_int (pa_cons pe_int (pa_cons pe_int pa_nil))))))) (pe_op op_mod (pe_ix ix_list (pv 2) pe_int (fun _ _ => rfl)) pe_int) (fun _ _ => rfl)) pa_nil))
          (blkOk_by (own := [("_law_k", 6)]) (N := nFate) (sc := defScope sFate) (by decide +kernel)) (fun _ _ _ _ _ => pg_name (i := 6) scFate.nd rfl (Or.inl rfl)) (fun _ _ _ _ _ => pts_nil)
          (fun _ _ _ _ _ => pe_cal0 T hr (pa_cons (pe_ix (show IxR _ (rIxL K) from ix_list) (pv 2) (pe_op op_add pe_int (pv 6)) (fun _ _ => rfl)) pa_nil))) pa_nil)))
      (pss_one (ps_ret (pe_tup (pa_cons (pv 4) <| pa_cons (pv 3) <| pa_cons (pv 5) pa_nil)))))))))), ?_⟩
    refine ⟨_, rfl, c, 7, rfl, by decide, fun H1 p ds sm hp hl e => ?_⟩
    have at_ : ∀ {H' : Hp}, Same H1 H' → ∀ {i : Nat}, i < 7 → ∃ d : Nat, SqL K H' p (plP ds) ∧ atI (plP ds) (i : Int) = some (.int (d : Int)) := fun s i hi => draw_at (s _ _ e) (by omega)
    refine ⟨by show 1 ≤ sizeLine; decide, fun k nk => ?_⟩
    have s1 : Same H1 (upd H1 k (.tup [.str "keep"])) := Same.new nk
    -- drop
    refine ⟨fun σ' H' => ∃ (v3 : V) (cg : Chg), σ' = [some (.int c), some (.bl b), some (.ref p), some v3, none, none, none] ∧ Same H1 H' ∧ IsChg K H' v3 cg ∧ CgOk 10 cg, ?_, ?_⟩
    · obtain ⟨d, S, ed⟩ := at_ s1 (i := 0) (by decide)
      refine ⟨_, rfl, p, _, _, _, rfl, rfl, S, ed, _, _, rfl, rfl, (by show (0 : Int) < 6; decide), rfl, _, rfl, ite2 (fun e => ?_) (fun e => ?_)⟩
      · refine ⟨by show 1 ≤ sizeLine; decide, fun k2 nk2 => ?_⟩
        exact ⟨.ref k2, .drop, rfl, s1.trans (Same.new nk2), ⟨k2, rfl, SqT.of upd_same⟩, trivial⟩
      · exact ⟨.ref k, .keep, rfl, s1, ⟨k, rfl, SqT.of upd_same⟩, trivial⟩
    rintro σ1 H2 ⟨v3, cg, rfl, s2, hv3, hc3⟩
    -- text
    refine ⟨fun σ' H' => ∃ (v3 : V) (cg : Chg), σ' = [some (.int c), some (.bl b), some (.ref p), some v3, none, none, none] ∧ Same H1 H' ∧ IsChg K H' v3 cg ∧ CgOk 10 cg, ?_, ?_⟩
    · obtain ⟨d, S, ed⟩ := at_ s2 (i := 0) (by decide)
      refine ⟨_, rfl, p, _, _, _, rfl, rfl, S, ed, _, _, rfl, rfl, (by show (0 : Int) < 6; decide), rfl, _, rfl, ite2 (fun e => ?_) (fun e => ?_)⟩
      · obtain ⟨d, S, ed⟩ := at_ s2 (i := 1) (by decide)
        refine ⟨_, rfl, p, _, _, _, rfl, rfl, S, ed, d, rfl, fun H3 t s3 tk => ?_⟩
        refine ⟨by show 2 ≤ sizeLine; decide, fun k2 nk2 => ?_⟩
        exact ⟨.ref k2, .text t, rfl, (s2.trans s3).trans (Same.new nk2), ⟨k2, rfl, SqT.of upd_same⟩, tk⟩
      · exact ⟨v3, cg, rfl, s2, hv3, hc3⟩
    rintro σ1 H2 ⟨v3, cg, rfl, s2, hv3, hc3⟩
    refine ⟨by show 0 ≤ sizeLine; decide, fun k4 nk4 => ?_⟩
    have s4 : Same H1 (upd H2 k4 (.tup [])) := s2.trans (Same.new nk4)
    -- ahead
    refine ⟨fun σ' H' => ∃ (v4 : V) (l4 : List Str), σ' = [some (.int c), some (.bl b), some (.ref p), some v3, some v4, none, none] ∧ Same H1 H' ∧ IsChg K H' v3 cg ∧ IsStrs K H' v4 l4 ∧ (∀ t ∈ l4, TxOk 10 t) ∧ l4.length ≤ 1, ?_, ?_⟩
    · have no : ∃ (v4 : V) (l4 : List Str), [some (.int c), some (.bl b), some (.ref p), some v3, some (.ref k4), none, none] = [some (.int c), some (.bl b), some (.ref p), some v3, some v4, none, none] ∧ Same H1 (upd H2 k4 (.tup [])) ∧ IsChg K (upd H2 k4 (.tup [])) v3 cg ∧ IsStrs K (upd H2 k4 (.tup [])) v4 l4 ∧ (∀ t ∈ l4, TxOk 10 t) ∧ l4.length ≤ 1 :=
        ⟨.ref k4, [], rfl, s4, hv3.mono (TT.new nk4), ⟨k4, rfl, SqT.of upd_same⟩, fun t h => (by cases h), Nat.zero_le _⟩
      refine ⟨_, rfl, b, rfl, ?_⟩
      cases b with
      | false => exact iteF no
      | true =>
        refine iteT ?_
        obtain ⟨d, S, ed⟩ := at_ s4 (i := 2) (by decide)
        refine ⟨_, rfl, p, _, _, _, rfl, rfl, S, ed, _, _, rfl, rfl, (by show (0 : Int) < 5; decide), rfl, _, rfl, ite2 (fun e => ?_) (fun e => ?_)⟩
        · obtain ⟨d, S, ed⟩ := at_ s4 (i := 3) (by decide)
          refine ⟨_, rfl, p, _, _, _, rfl, rfl, S, ed, d, rfl, fun H3 t s3 tk => ?_⟩
          refine ⟨by show 1 ≤ sizeLine; decide, fun k2 nk2 => ?_⟩
          refine ⟨.ref k2, [t], rfl, (s4.trans s3).trans (Same.new nk2), ((hv3.mono (TT.new nk4)).mono (TT.of_same s3)).mono (TT.new nk2), ⟨k2, rfl, SqT.of upd_same⟩, fun t' h => ?_, Nat.le_refl _⟩
          rw [List.mem_singleton.mp h]
          exact tk
        · exact no
    rintro σ1 H5 ⟨v4, l4, rfl, s5, hv3, hv4, ht4, hl4⟩
    -- behind
    refine ⟨by show 6 ≤ sizeLine; decide, fun k6 nk6 => ?_⟩
    have s6 : Same H1 (upd H5 k6 (.lst [.int 0, .int 0, .int 0, .int 0, .int 1, .int 2])) := s5.trans (Same.new nk6)
    obtain ⟨d, S, ed⟩ := at_ s6 (i := 4) (by decide)
    obtain ⟨j, ej, hj⟩ := mod_nat d (m := 6) (by decide)
    obtain ⟨n, en, hn⟩ : ∃ n : Nat, [V.int 0, .int 0, .int 0, .int 0, .int 1, .int 2][j]? = some (.int (n : Int)) ∧ n ≤ 2 := by
      match j, hj with
      | 0, _ => exact ⟨0, rfl, by decide⟩
      | 1, _ => exact ⟨0, rfl, by decide⟩
      | 2, _ => exact ⟨0, rfl, by decide⟩
      | 3, _ => exact ⟨0, rfl, by decide⟩
      | 4, _ => exact ⟨1, rfl, by decide⟩
      | 5, _ => exact ⟨2, rfl, by decide⟩
    refine ⟨_, rfl, p, _, _, _, rfl, rfl, S, ed, _, _, rfl, rfl, (by show (0 : Int) < 6; decide), k6, _, (d : Int) % 6, _, rfl, rfl, SqL.of upd_same, (by rw [show (d : Int) % 6 = (j : Int) from ej]; exact atI_nat en), (n : Int), rfl, by omega, by omega, fun D nD => ?_⟩
    refine lc_range (lo := 0) (n := n) (fun i H' => ∃ l5 : List Str, l5.length = i ∧ Same H1 H' ∧ IsChg K H' v3 cg ∧ IsStrs K H' v4 l4 ∧ (∀ t ∈ l5, TxOk 10 t) ∧ H' D = some (.lst (strsV l5)) ∧ H1 D = none) ?_ ?_ ?_
    · have tt : TT K H5 (upd (upd H5 k6 (.lst [.int 0, .int 0, .int 0, .int 0, .int 1, .int 2])) D (.lst [])) := (TT.new nk6).trans (TT.new nD)
      exact ⟨[], rfl, s6.trans (Same.new nD), hv3.mono tt, hv4.mono tt, fun t h => (by cases h), upd_same, s6.free nD⟩
    · rintro i H' hi ⟨l5, hl, sm', q3, q4, qt, qD, hD0⟩
      refine ⟨rfl, ?_⟩
      obtain ⟨d, S, ed⟩ := at_ sm' (i := 5 + i) (by omega)
      refine ⟨_, rfl, _, rfl, _, _, rfl, rfl, p, _, _, _, rfl, rfl, S, (by rw [← ed]; congr 1; omega), d, rfl, fun H3 t s3 tk => ?_⟩
      have tt : TT K H' (upd H3 D (.lst (strsV l5 ++ [.str t]))) := (TT.of_same s3).trans (TT.lst (s3 _ _ qD))
      refine ⟨_, s3 _ _ qD, by rw [strsV_len]; exact small5' (by omega), l5 ++ [t], by simp [hl], ?_, q3.mono tt, q4.mono tt, ?_, by rw [upd_same, strsV_app], hD0⟩
      · exact Same.upn (sm'.trans s3) hD0
      · intro t' ht'
        rcases List.mem_append.mp ht' with z | z
        · exact qt _ z
        · rw [List.mem_singleton.mp z]; exact tk
    · rintro H' ⟨l5, hl, sm', q3, q4, qt, qD, hD0⟩
      refine ⟨D, _, rfl, .inl ⟨SqL.of qD, fun u nu => ?_⟩⟩
      refine ⟨_, rfl, _, rfl, _, rfl, by show 3 ≤ sizeLine; decide, fun x nx => ?_⟩
      have tt : TT K H' (upd (upd H' u (.tup (strsV l5))) x (.tup [v4, v3, .ref u])) := (TT.new nu).trans (TT.new nx)
      refine q _ (.ref x) ⟨l4, cg, l5⟩ (((sm.trans sm').trans (Same.new nu)).trans (Same.new nx)) ⟨x, v4, v3, .ref u, rfl, SqT.of upd_same, q4.mono tt, q3.mono tt, ⟨u, rfl, ?_⟩⟩ ⟨ht4, hc3, qt, hl4, by show l5.length ≤ 2; omega⟩
      exact SqT.of (by rw [upd_ne (by rintro rfl; rw [upd_same] at nx; cases nx)]; exact upd_same)
end
end K31
set_option maxHeartbeats 2000000
/-! D1: lines of a document read; data that == takes; a comprehension over texts. -/
namespace K31
open PySem PySem.Spec PyProof.Rows L2
def indAt (D : List Ln) (a : Nat) : Nat := match D[a]? with
  | some (.use i _) => i
  | _ => 0
def ind (D : List Ln) (p : List Nat) : Nat := (p.map (indAt D)).sum
def UseAt (D : List Ln) (a : Nat) : Prop := ∃ i n, D[a]? = some (.use i n)
def CodeAt (D : List Ln) (a : Nat) : Prop := ∃ t, D[a]? = some (.code t)
def HeadAt (D : List Ln) (a : Nat) : Prop := ∃ n, D[a]? = some (.head n)
def headB (D : List Ln) (a : Nat) : Bool := match D[a]? with
  | some (.head _) => true
  | _ => false
theorem headB_iff {D : List Ln} {a : Nat} : headB D a = true ↔ HeadAt D a := by
  unfold headB HeadAt
  cases h : D[a]? with
  | none => simp
  | some l => cases l <;> simp
section
variable {K : PySem.W.Frag} {H : Hp} {d : Addr} {D : List Ln}
theorem IsDoc.at (h : IsDoc K H d D) {i : Nat} {l : Ln} (e : D[i]? = some l) : ∃ vs a, SqT K H d vs ∧ atI vs (i : Int) = some (.ref a) ∧ SqT K H a (lnV l) := by
  obtain ⟨vs, q, p⟩ := h
  obtain ⟨x, h1, a, e1, h2⟩ := Pg2 p e
  subst e1
  exact ⟨vs, a, q, atI_nat h1, h2⟩
end
theorem ind_app (D : List Ln) (p : List Nat) (a : Nat) : ind D (p ++ [a]) = ind D p + indAt D a := by simp [ind]
def Ln.isK : Ln → Nat
  | .prose _ => 0
  | .head _ => 1
  | .use _ _ => 2
  | .code _ => 3
theorem kind_prose (l : Ln) : decide (V.str l.kind = V.str "prose") = decide (l.isK = 0) := by
  cases l with
  | prose t => exact (by decide +kernel : decide (V.str "prose" = V.str "prose") = true)
  | head n => exact (by decide +kernel : decide (V.str "head" = V.str "prose") = false)
  | use i n => exact (by decide +kernel : decide (V.str "use" = V.str "prose") = false)
  | code t => exact (by decide +kernel : decide (V.str "code" = V.str "prose") = false)
theorem kind_head (l : Ln) : decide (V.str l.kind = V.str "head") = decide (l.isK = 1) := by
  cases l with
  | prose t => exact (by decide +kernel : decide (V.str "prose" = V.str "head") = false)
  | head n => exact (by decide +kernel : decide (V.str "head" = V.str "head") = true)
  | use i n => exact (by decide +kernel : decide (V.str "use" = V.str "head") = false)
  | code t => exact (by decide +kernel : decide (V.str "code" = V.str "head") = false)
theorem kind_use (l : Ln) : decide (V.str l.kind = V.str "use") = decide (l.isK = 2) := by
  cases l with
  | prose t => exact (by decide +kernel : decide (V.str "prose" = V.str "use") = false)
  | head n => exact (by decide +kernel : decide (V.str "head" = V.str "use") = false)
  | use i n => exact (by decide +kernel : decide (V.str "use" = V.str "use") = true)
  | code t => exact (by decide +kernel : decide (V.str "code" = V.str "use") = false)
theorem kind_code (l : Ln) : decide (V.str l.kind = V.str "code") = decide (l.isK = 3) := by
  cases l with
  | prose t => exact (by decide +kernel : decide (V.str "prose" = V.str "code") = false)
  | head n => exact (by decide +kernel : decide (V.str "head" = V.str "code") = false)
  | use i n => exact (by decide +kernel : decide (V.str "use" = V.str "code") = false)
  | code t => exact (by decide +kernel : decide (V.str "code" = V.str "code") = true)
theorem headB_of {D : List Ln} {x : Nat} {l : Ln} (h : D[x]? = some l) : headB D x = decide (l.isK = 1) := by
  unfold headB
  rw [h]
  cases l <;> rfl
/-! ### data that == takes -/
theorem strOk_asc {t : Str} (h : Asc t) : PyData.strOk t = true := by
  unfold PyData.strOk
  rw [Array.all_eq_true']
  intro x hx
  have := h x (by simpa using hx)
  simp
  omega
theorem shaped_str {t : Str} (h : Asc t) : SeqAt.shaped (.str t) = true := by
  unfold SeqAt.shaped
  rw [Bool.and_eq_true]
  exact ⟨by simp only [PyData.canLay0]; exact strOk_asc h, by simp [PyData.depth]⟩
theorem canAll_strs : ∀ {l : List Str}, (∀ t ∈ l, Asc t) → PyData.canLayAll0 (l.map .str) = true
  | [], _ => rfl
  | x :: r, h => by
    show (PyData.canLay0 (.str x) && PyData.canLayAll0 (r.map .str)) = true
    rw [canAll_strs fun t ht => h t (List.mem_cons_of_mem _ ht), Bool.and_true]
    simp only [PyData.canLay0]
    exact strOk_asc (h x List.mem_cons_self)
theorem depthAll_strs : ∀ (l : List Str), PyData.depthAll (l.map .str) ≤ 1
  | [] => by simp [PyData.depthAll]
  | x :: r => by
    have := depthAll_strs r
    simp only [List.map_cons, PyData.depthAll, PyData.depth]
    omega
theorem canLay_strs {l : List Str} (h : ∀ t ∈ l, Asc t) : PyData.canLay0 (strD l) = true := by
  unfold strD
  simp only [PyData.canLay0]
  exact canAll_strs h
theorem canLay_chg {c : Chg} (h : c.Asc) : PyData.canLay0 (chgD c) = true := by
  cases c with
  | keep => decide +kernel
  | drop => decide +kernel
  | text t =>
    have e : PyData.canLay0 (.str t) = true := by simp only [PyData.canLay0]; exact strOk_asc h
    show (PyData.canLay0 (.str "text") && (PyData.canLay0 (.str t) && true)) = true
    rw [e]
    decide +kernel
theorem depth_strs (l : List Str) : PyData.depth (strD l) ≤ 2 := by
  unfold strD
  simp only [PyData.depth]
  have := depthAll_strs l
  omega
theorem depth_chg (c : Chg) : PyData.depth (chgD c) ≤ 2 := by
  cases c <;> simp [chgD, PyData.depth, PyData.depthAll]
theorem shaped_chg {c : Chg} (h : c.Asc) : SeqAt.shaped (chgD c) = true := by
  unfold SeqAt.shaped
  rw [canLay_chg h, Bool.true_and]
  exact decide_eq_true (Nat.le_trans (depth_chg c) (by decide))
theorem shaped_ed {e : Ed} (h : e.Asc) : SeqAt.shaped (edD e) = true := by
  unfold SeqAt.shaped
  rw [Bool.and_eq_true]
  constructor
  · show (PyData.canLay0 (strD e.ahead) && (PyData.canLay0 (chgD e.chg) && (PyData.canLay0 (strD e.behind) && true))) = true
    rw [canLay_strs h.1, canLay_chg h.2.1, canLay_strs h.2.2]
    rfl
  · refine decide_eq_true ?_
    have h1 := depth_strs e.ahead
    have h2 := depth_chg e.chg
    have h3 := depth_strs e.behind
    show PyData.depth (.tuple [strD e.ahead, chgD e.chg, strD e.behind]) ≤ 64
    simp only [PyData.depth, PyData.depthAll]
    omega
/-! ### [f(t) for t in texts] -/
theorem lc_mapS {K : PySem.W.Frag} {a : Addr} {xs : List Str} {g : Str → Str} {te : TE} {i : Nat} {σ : L2.St} {H1 : Hp} {D : Addr} {Qd : Hp → Prop} (hD : H1 D = none) (hx : SqT K H1 a (strsV xs)) (hl : xs.length ≤ 1000)
    (hw : ∀ v, wipe ((wipe σ [i]).set i v) [i] = wipe σ [i])
    (hte : ∀ t ∈ xs, ∀ (H' : Hp) (Q : VK), Q (.str (g t)) H' → te ((wipe σ [i]).set i (some (.str t))) H' Q) (hd : Qd (upd H1 D (.lst (strsV (xs.map g))))) :
    ∃ W : Nat → Nat → Hp → Prop, (∃ m, W 0 m (upd H1 D (.lst []))) ∧ ∀ j m H, W j m H →
      ((Itt K a).stop j H ∧ Qd H) ∨ ((Itt K a).go j H ∧ ∃ Nx : Hp → Prop, (∀ H', Nx H' → ∃ m', m' < m ∧ W (j + 1) m' H') ∧ ∀ x H', (Itt K a).yld j H x H' → gName i x (wipe σ [i]) H' fun σ2 H2 => wipe σ2 [i] = wipe σ [i] ∧ tYes σ2 H2 fun b H3 =>
        if b = true then te σ2 H3 fun y H4 => ∃ acc, H4 D = some (.lst acc) ∧ acc.length < sizeLine ∧ Nx (upd H4 D (.lst (acc ++ [y]))) else Nx H3) := by
  refine lc_tup (xs := strsV xs) (fun j H' => H' = upd H1 D (.lst (strsV ((xs.take j).map g)))) rfl ?_ ?_ ?_
  · rintro j H' hj rfl
    exact TT.new hD _ _ hx
  · rintro j x H' hj rfl
    obtain ⟨t, ht, rfl⟩ : ∃ t, xs[j]? = some t ∧ x = .str t := by
      rw [strsV, List.getElem?_map] at hj
      cases e : xs[j]? with
      | none => rw [e] at hj; cases hj
      | some t => rw [e] at hj; exact ⟨t, rfl, (Option.some.inj hj).symm⟩
    refine ⟨hw _, ?_⟩
    refine hte t (List.mem_of_getElem? ht) _ _ ⟨_, upd_same, ?_, ?_⟩
    · have : (strsV ((xs.take j).map g)).length = (xs.take j).length := by simp [strsV]
      rw [this, List.length_take]
      exact small5' (by omega)
    · rw [upd_upd, List.take_add_one, ht]
      simp [strsV]
  · rintro H' rfl
    have : (xs.take (strsV xs).length) = xs := by rw [show (strsV xs).length = xs.length from by simp [strsV]]; exact List.take_length
    rw [this]
    exact hd
/-- the sum of the indents of a path -/
theorem lc_ind {K : PySem.W.Frag} {a : Addr} {D : List Ln} {p : List Nat} {te : TE} {i : Nat} {σ : L2.St} {H1 : Hp} {L : Addr} {Qd : Hp → Prop} (hL : H1 L = none) (hx : SqT K H1 a (plP p)) (hl : p.length ≤ 1000)
    (hw : ∀ v, wipe ((wipe σ [i]).set i v) [i] = wipe σ [i])
    (hte : ∀ x ∈ p, ∀ (H' : Hp) (Q : VK), TT K H1 H' → Q (.int (indAt D x : Nat)) H' → te ((wipe σ [i]).set i (some (.int (x : Nat)))) H' Q) (hd : Qd (upd H1 L (.lst ((p.map fun x => ((indAt D x : Nat) : Int)).map V.int)))) :
    ∃ W : Nat → Nat → Hp → Prop, (∃ m, W 0 m (upd H1 L (.lst []))) ∧ ∀ j m H, W j m H →
      ((Itt K a).stop j H ∧ Qd H) ∨ ((Itt K a).go j H ∧ ∃ Nx : Hp → Prop, (∀ H', Nx H' → ∃ m', m' < m ∧ W (j + 1) m' H') ∧ ∀ x H', (Itt K a).yld j H x H' → gName i x (wipe σ [i]) H' fun σ2 H2 => wipe σ2 [i] = wipe σ [i] ∧ tYes σ2 H2 fun b H3 =>
        if b = true then te σ2 H3 fun y H4 => ∃ acc, H4 L = some (.lst acc) ∧ acc.length < sizeLine ∧ Nx (upd H4 L (.lst (acc ++ [y]))) else Nx H3) := by
  refine lc_tup (xs := plP p) (fun j H' => H' = upd H1 L (.lst (((p.take j).map fun x => ((indAt D x : Nat) : Int)).map V.int))) rfl ?_ ?_ ?_
  · rintro j H' hj rfl
    exact TT.new hL _ _ hx
  · rintro j x H' hj rfl
    obtain ⟨t, ht, rfl⟩ : ∃ t : Nat, p[j]? = some t ∧ x = .int (t : Int) := by
      rw [plP, List.getElem?_map] at hj
      cases e : p[j]? with
      | none => rw [e] at hj; cases hj
      | some t => rw [e] at hj; exact ⟨t, rfl, (Option.some.inj hj).symm⟩
    refine ⟨hw _, ?_⟩
    refine hte t (List.mem_of_getElem? ht) _ _ (TT.new hL) ⟨_, upd_same, ?_, ?_⟩
    · rw [List.length_map, List.length_map, List.length_take]
      exact small5' (by omega)
    · rw [upd_upd, List.take_add_one, ht]
      simp
  · rintro H' rfl
    have : (p.take (plP p).length) = p := by rw [show (plP p).length = p.length from by simp [plP]]; exact List.take_length
    rw [this]
    exact hd
theorem ind_sum (D : List Ln) (p : List Nat) : (p.map fun x => ((indAt D x : Nat) : Int)).sum = ((ind D p : Nat) : Int) := by
  unfold ind
  induction p with
  | nil => rfl
  | cons x r ih => simp only [List.map_cons, List.sum_cons, ih]; simp
end K31
set_option maxHeartbeats 2000000
/-! A4: the law's edits: indents, edits, broken edits. -/
namespace K31
open PySem PySem.Spec PyProof.Rows L2
abbrev sEdit : Stmt := top 54
abbrev sIsFirst : Stmt := top 55
abbrev sLIndent : Stmt := top 56
abbrev sBroken : Stmt := top 57
abbrev sIndentOf : Stmt := top 31
abbrev nEdit : List Str := ["_law_fate_here", "_law_indent_here", "_law_ahead", "_law_change", "_law_behind", "_law_t"]
theorem scEdit : FnScope nEdit ["_law_fate_here", "_law_indent_here"] (defScope sEdit) := ⟨rfl, rfl, rfl, by decide +kernel, rfl, by decide +kernel, by decide +kernel⟩
theorem scIsFirst : FnScope ["_law_document_here", "_law_line_here"] ["_law_document_here", "_law_line_here"] (defScope sIsFirst) := ⟨rfl, rfl, rfl, by decide +kernel, rfl, by decide +kernel, by decide +kernel⟩
abbrev nLIndent : List Str := ["_law_document_here", "_law_path", "_law_at"]
theorem scLIndent : FnScope nLIndent ["_law_document_here", "_law_path"] (defScope sLIndent) := ⟨rfl, rfl, rfl, by decide +kernel, rfl, by decide +kernel, by decide +kernel⟩
abbrev nIndentOf : List Str := ["document", "path", "at"]
theorem scIndentOf : FnScope nIndentOf ["document", "path"] (defScope sIndentOf) := ⟨rfl, rfl, rfl, by decide +kernel, rfl, by decide +kernel, by decide +kernel⟩
abbrev nBroken : List Str := ["_law_edit_here", "_law_draw", "_law_indent_here", "_law_ahead", "_law_change", "_law_behind", "_law_choice"]
theorem scBroken : FnScope nBroken ["_law_edit_here", "_law_draw", "_law_indent_here"] (defScope sBroken) := ⟨rfl, rfl, rfl, by decide +kernel, rfl, by decide +kernel, by decide +kernel⟩
section
variable {P : Program} {w : World} {K : PySem.W.Frag} {mg : Str → Option Value} {base : Heap}
/-- the indent of a path -/
def spInd (K : PySem.W.Frag) : Sp := fun vs H Q _ => ∃ (d a : Addr) (D : List Ln) (p : List Nat), vs = [.ref d, .ref a] ∧ IsDoc K H d D ∧ SqT K H a (plP p) ∧ p.length ≤ 1000 ∧ (∀ x ∈ p, UseAt D x) ∧
  ∀ H' : Hp, Same H H' → Q (.int (ind D p : Nat)) H'
theorem cal_lIndent (F : At K mg "_law_indent" sLIndent) (mS : mg "sum" = none) : Cal P w K mg base CX0 1 "_law_indent" ["_law_document_here", "_law_path"] (spInd K) := by
  refine F.cal scLIndent (fun vs H Q E h => ?_) (fun _ _ _ _ _ _ us hl => match us, hl with | [_, _], _ => rfl) (fun f cdv A outer s H vs Q E hr h => ?_)
  · obtain ⟨d, a, D, p, rfl, _⟩ := h
    rfl
  · obtain ⟨d, a, D, p, rfl, hD, hp, hl, hu, q⟩ := h
    refine ⟨_, pss_one (ps_ret (pe_callB (cr_sum (by rfl)) (by rfl) mS (by decide +kernel) (pa_cons
      (pe_lc (own := [("_law_at", 2)]) (g := gName 2) (by rfl) scLIndent.nd (pi_tup (pv 1)) (blkOk_by (own := [("_law_at", 2)]) (N := nLIndent) (sc := defScope sLIndent) (by decide +kernel))
        (fun _ _ _ _ _ => pg_name (i := 2) scLIndent.nd rfl (Or.inl rfl)) (fun _ _ _ _ _ => pts_nil)
        (fun _ _ _ _ _ => pe_ix (show IxR _ (rIxT K) from ix_tup) (pe_ix (show IxR _ (rIxT K) from ix_tup) (pv 0) (pv 2) (fun _ _ => rfl)) pe_int (fun _ _ => rfl))) pa_nil))), ?_⟩
    refine ⟨_, rfl, a, rfl, ⟨_, hp⟩, fun L nL => ?_⟩
    refine lc_ind (D := D) (p := p) nL hp hl (fun v => rfl) (fun x hx H' Q' tt q' => ?_) ?_
    · obtain ⟨i, n, e⟩ := hu x hx
      obtain ⟨vs, b, h1, h2, h3⟩ := (hD.mono tt).at e
      refine ⟨_, rfl, _, rfl, d, vs, _, _, rfl, rfl, h1, h2, b, _, 1, _, rfl, rfl, h3, atI_nat (j := 1) rfl, ?_⟩
      rw [indAt, e] at q'
      exact q'
    · refine ⟨L, _, rfl, SqL.of upd_same, ?_⟩
      rw [ind_sum]
      exact q _ (Same.new nL)
theorem cal_indentOf (F : At K mg "indent_of" sIndentOf) (mS : mg "sum" = none) : Cal P w K mg base CX0 1 "indent_of" ["document", "path"] (spInd K) := by
  refine F.cal scIndentOf (fun vs H Q E h => ?_) (fun _ _ _ _ _ _ us hl => match us, hl with | [_, _], _ => rfl) (fun f cdv A outer s H vs Q E hr h => ?_)
  · obtain ⟨d, a, D, p, rfl, _⟩ := h
    rfl
  · obtain ⟨d, a, D, p, rfl, hD, hp, hl, hu, q⟩ := h
    refine ⟨_, pss_one (ps_ret (pe_callB (cr_sum (by rfl)) (by rfl) mS (by decide +kernel) (pa_cons
      (pe_lc (own := [("at", 2)]) (g := gName 2) (by rfl) scIndentOf.nd (pi_tup (pv 1)) (blkOk_by (own := [("at", 2)]) (N := nIndentOf) (sc := defScope sIndentOf) (by decide +kernel))
        (fun _ _ _ _ _ => pg_name (i := 2) scIndentOf.nd rfl (Or.inl rfl)) (fun _ _ _ _ _ => pts_nil)
        (fun _ _ _ _ _ => pe_ix (show IxR _ (rIxT K) from ix_tup) (pe_ix (show IxR _ (rIxT K) from ix_tup) (pv 0) (pv 2) (fun _ _ => rfl)) pe_int (fun _ _ => rfl))) pa_nil))), ?_⟩
    refine ⟨_, rfl, a, rfl, ⟨_, hp⟩, fun L nL => ?_⟩
    refine lc_ind (D := D) (p := p) nL hp hl (fun v => rfl) (fun x hx H' Q' tt q' => ?_) ?_
    · obtain ⟨i, n, e⟩ := hu x hx
      obtain ⟨vs, b, h1, h2, h3⟩ := (hD.mono tt).at e
      refine ⟨_, rfl, _, rfl, d, vs, _, _, rfl, rfl, h1, h2, b, _, 1, _, rfl, rfl, h3, atI_nat (j := 1) rfl, ?_⟩
      rw [indAt, e] at q'
      exact q'
    · refine ⟨L, _, rfl, SqL.of upd_same, ?_⟩
      rw [ind_sum]
      exact q _ (Same.new nL)
/-- is a line behind a head -/
def spFirst (K : PySem.W.Frag) : Sp := fun vs H Q _ => ∃ (d : Addr) (D : List Ln) (x : Nat), vs = [.ref d, .int ((x + 1 : Nat) : Int)] ∧ IsDoc K H d D ∧ x < D.length ∧ Q (.bl (headB D x)) H
theorem cal_isFirst (F : At K mg "_law_is_first" sIsFirst) : Cal P w K mg base CX0 1 "_law_is_first" ["_law_document_here", "_law_line_here"] (spFirst K) := by
  refine F.cal scIsFirst (fun vs H Q E h => ?_) (fun _ _ _ _ _ _ us hl => match us, hl with | [_, _], _ => rfl) (fun f cdv A outer s H vs Q E hr h => ?_)
  · obtain ⟨d, D, x, rfl, _⟩ := h
    rfl
  · obtain ⟨d, D, x, rfl, hD, hx, q⟩ := h
    refine ⟨_, pss_one (ps_ret (pe_cmpR op_eq (pe_ix ix_tup (pe_ix ix_tup (pv 0) (pe_op op_sub (pv 1) pe_int) (fun _ _ => rfl)) pe_int (fun _ _ => rfl)) pe_str (nomark _))), ?_⟩
    obtain ⟨vs, b, h1, h2, h3⟩ := hD.at (List.getElem?_eq_getElem hx)
    refine ⟨_, rfl, _, rfl, _, _, rfl, rfl, d, vs, _, _, rfl, rfl, h1, (by rw [show ((x + 1 : Nat) : Int) - 1 = (x : Int) by omega]; exact h2), b, _, 0, _, rfl, rfl, h3, atI_nat (j := 0) (lnV_0 _), rfl, ?_⟩
    rw [kind_head]
    rw [headB_of (List.getElem?_eq_getElem hx)] at q
    exact q
end
end K31
set_option maxHeartbeats 2000000
/-! A5: the law's edits: edits, broken edits. -/
namespace K31
open PySem PySem.Spec PyProof.Rows L2
section
variable {P : Program} {w : World} {K : PySem.W.Frag} {mg : Str → Option Value} {base : Heap}
theorem chg_0 (c : Chg) : ∃ z : Str, (chgV c)[0]? = some (.str z) ∧ (decide (V.str z = V.str "text") = true → ∃ t, c = .text t) := by
  cases c with
  | keep => exact ⟨"keep", rfl, fun h => absurd h (by decide +kernel)⟩
  | drop => exact ⟨"drop", rfl, fun h => absurd h (by decide +kernel)⟩
  | text t => exact ⟨"text", rfl, fun _ => ⟨t, rfl⟩⟩
def spEdit (K : PySem.W.Frag) : Sp := fun vs H Q _ => ∃ (v : V) (n : Nat) (e : Ed), vs = [v, .int (n : Int)] ∧ n ≤ 100 ∧ IsEd K H v e ∧ EdOk 10 1 2 e ∧ ∀ (H' : Hp) (v' : V) (e' : Ed), Same H H' → IsEd K H' v' e' → EdOk 110 1 2 e' → Q v' H'
theorem put_all {n : Nat} {l : List Str} (hn : n ≤ 100) (h : ∀ t ∈ l, TxOk 10 t) : ∀ t ∈ l.map (putS n), TxOk 110 t := fun t ht => by
  obtain ⟨u, hu, rfl⟩ := List.mem_map.mp ht
  exact (putS_ok (n := n) (h u hu)).mono (by omega)
theorem ne_new {H : Hp} {a b : Addr} {o o' : HO} (h : upd H a o b = none) : a ≠ b := fun e => by rw [e, upd_same] at h; cases h
theorem cal_edit (F : At K mg "_law_edit" sEdit) (T : Cal P w K mg base CX0 1 "_law_put" ["_law_indent_here", "_law_text_here"] spPut) (mT : mg "tuple" = none) : Cal P w K mg base CX0 2 "_law_edit" ["_law_fate_here", "_law_indent_here"] (spEdit K) := by
  refine F.cal scEdit (fun vs H Q E h => ?_) (fun _ _ _ _ _ _ us hl => match us, hl with | [_, _], _ => rfl) (fun f cdv A outer s H vs Q E hr h => ?_)
  · obtain ⟨v, n, e, rfl, _⟩ := h
    rfl
  · obtain ⟨v, n, e, rfl, hn, hv, ho, q⟩ := h
    refine ⟨_, pss_cons (ps_asg (pv 0) (pg_tup (by rfl) (pgs_cons (pg_name (i := 2) scEdit.nd rfl (.inl rfl)) (pgs_cons (pg_name (i := 3) scEdit.nd rfl (.inl rfl)) (pgs_cons (pg_name (i := 4) scEdit.nd rfl (.inl rfl)) pgs_nil)))))
      (C8.pss_cut (ps_if (pt_cmpR op_eq (pe_ix ix_tup (pv 3) pe_int (fun _ _ => rfl)) pe_str (nomark _)) (pss_one (ps_set (i := 3) scEdit.nd rfl (.inl rfl) (pe_tup (pa_cons pe_str (pa_cons (pe_cal0 T hr (pa_cons (pv 1) (pa_cons (pe_ix ix_tup (pv 3) pe_int (fun _ _ => rfl)) pa_nil))) pa_nil))))) pss_nil)
      (pss_one (ps_ret (pe_tup (pa_cons (pe_callTy call_tuple_of (by rfl) mT (by decide +kernel) (pa_cons
          (pe_lc (own := [("_law_t", 5)]) (g := gName 5) (by rfl) scEdit.nd (pi_tup (pv 2)) (blkOk_by (own := [("_law_t", 5)]) (N := nEdit) (sc := defScope sEdit) (by decide +kernel))
            (fun _ _ _ _ _ => pg_name (i := 5) scEdit.nd rfl (Or.inl rfl)) (fun _ _ _ _ _ => pts_nil) (fun _ _ _ _ _ => pe_cal0 T hr (pa_cons (pv 1) (pa_cons (pv 5) pa_nil)))) pa_nil))
        (pa_cons (pv 3) (pa_cons (pe_callTy call_tuple_of (by rfl) mT (by decide +kernel) (pa_cons
          (pe_lc (own := [("_law_t", 5)]) (g := gName 5) (by rfl) scEdit.nd (pi_tup (pv 4)) (blkOk_by (own := [("_law_t", 5)]) (N := nEdit) (sc := defScope sEdit) (by decide +kernel))
            (fun _ _ _ _ _ => pg_name (i := 5) scEdit.nd rfl (Or.inl rfl)) (fun _ _ _ _ _ => pts_nil) (fun _ _ _ _ _ => pe_cal0 T hr (pa_cons (pv 1) (pa_cons (pv 5) pa_nil)))) pa_nil)) pa_nil))))))), ?_⟩
    obtain ⟨a, x, c, z, rfl, h1, ⟨xa, rfl, hx⟩, ⟨ca, rfl, hc⟩, ⟨za, rfl, hz⟩⟩ := hv
    refine ⟨_, rfl, a, _, rfl, h1, rfl, _, _, rfl, _, _, rfl, _, _, rfl, rfl, ?_⟩
    refine ⟨fun σ' H' => ∃ (v3 : V) (cg : Chg), σ' = [some (.ref a), some (.int (n : Int)), some (.ref xa), some v3, some (.ref za), none] ∧ Same H H' ∧ IsChg K H' v3 cg ∧ CgOk 110 cg, ?_, ?_⟩
    · obtain ⟨z0, e0, ht⟩ := chg_0 e.chg
      refine ⟨_, rfl, ca, _, 0, _, rfl, rfl, hc, atI_nat (j := 0) e0, rfl, _, rfl, ite2 (fun e1 => ?_) (fun e1 => ?_)⟩
      · obtain ⟨t, et⟩ := ht e1
        have htx : TxOk 10 t := by have := ho.c; rw [et] at this; exact this
        rw [et] at hc
        refine ⟨_, rfl, _, rfl, ca, _, 1, _, rfl, rfl, hc, atI_nat (j := 1) rfl, n, t, rfl, by omega, by have := htx.2; omega, by show 2 ≤ sizeLine; decide, fun k nk => ?_⟩
        exact ⟨.ref k, .text (putS n t), rfl, Same.new nk, ⟨k, rfl, SqT.of upd_same⟩, (putS_ok (n := n) htx).mono (by omega)⟩
      · exact ⟨.ref ca, e.chg, rfl, Same.refl H, ⟨ca, rfl, hc⟩, ho.c.mono (by decide)⟩
    rintro σ1 H2 ⟨v3, cg, rfl, s2, hv3, hc3⟩
    have hl1 : e.ahead.length ≤ 1000 := Nat.le_trans ho.la (by decide)
    have hl2 : e.behind.length ≤ 1000 := Nat.le_trans ho.lb (by decide)
    refine ⟨_, rfl, xa, rfl, ⟨_, TT.of_same s2 _ _ hx⟩, fun L1 n1 => ?_⟩
    refine lc_mapS (xs := e.ahead) (g := putS n) n1 (TT.of_same s2 _ _ hx) hl1 (fun v => rfl) (fun t ht H' Q' q' => ?_) ?_
    · exact ⟨_, rfl, _, rfl, n, t, rfl, by omega, by have := (ho.a t ht).2; omega, q'⟩
    refine ⟨L1, _, rfl, .inl ⟨SqL.of upd_same, fun u1 nu1 => ?_⟩⟩
    refine ⟨_, rfl, ?_⟩
    have t1 : TT K H2 (upd (upd H2 L1 (.lst (strsV (e.ahead.map (putS n))))) u1 (.tup (strsV (e.ahead.map (putS n))))) := (TT.new n1).trans (TT.new nu1)
    have s3 : Same H2 (upd (upd H2 L1 (.lst (strsV (e.ahead.map (putS n))))) u1 (.tup (strsV (e.ahead.map (putS n))))) := (Same.new n1).trans (Same.new nu1)
    have hu1 : SqT K (upd (upd H2 L1 (.lst (strsV (e.ahead.map (putS n))))) u1 (.tup (strsV (e.ahead.map (putS n))))) u1 (strsV (e.ahead.map (putS n))) := SqT.of upd_same
    generalize upd (upd H2 L1 (.lst (strsV (e.ahead.map (putS n))))) u1 (.tup (strsV (e.ahead.map (putS n)))) = H3 at t1 s3 hu1 ⊢
    have hz3 : SqT K H3 za (strsV e.behind) := TT.of_same (s2.trans s3) _ _ hz
    refine ⟨_, rfl, za, rfl, ⟨_, hz3⟩, fun L2 n2 => ?_⟩
    refine lc_mapS (xs := e.behind) (g := putS n) n2 hz3 hl2 (fun v => rfl) (fun t ht H' Q' q' => ?_) ?_
    · exact ⟨_, rfl, _, rfl, n, t, rfl, by omega, by have := (ho.b t ht).2; omega, q'⟩
    refine ⟨L2, _, rfl, .inl ⟨SqL.of upd_same, fun u2 nu2 => ?_⟩⟩
    refine ⟨by show 3 ≤ sizeLine; decide, fun k nk => ?_⟩
    have t2 : TT K H3 (upd (upd (upd H3 L2 (.lst (strsV (e.behind.map (putS n))))) u2 (.tup (strsV (e.behind.map (putS n))))) k (.tup [.ref u1, v3, .ref u2])) := ((TT.new n2).trans (TT.new nu2)).trans (TT.new nk)
    refine q _ (.ref k) ⟨e.ahead.map (putS n), cg, e.behind.map (putS n)⟩ ((s2.trans s3).trans (((Same.new n2).trans (Same.new nu2)).trans (Same.new nk)))
      ⟨k, .ref u1, v3, .ref u2, rfl, SqT.of upd_same, ⟨u1, rfl, t2 _ _ hu1⟩, (hv3.mono t1).mono t2, ⟨u2, rfl, TT.new nk _ _ (SqT.of upd_same)⟩⟩ ⟨put_all hn ho.a, hc3, put_all hn ho.b, by show (e.ahead.map (putS n)).length ≤ 1; rw [List.length_map]; exact ho.la, by show (e.behind.map (putS n)).length ≤ 2; rw [List.length_map]; exact ho.lb⟩
/-- an edit broken -/
def spBroken (K : PySem.W.Frag) : Sp := fun vs H Q _ => ∃ (v : V) (g n : Nat) (e : Ed), vs = [v, .int (g : Int), .int (n : Int)] ∧ n ≤ 100 ∧ IsEd K H v e ∧ EdOk 110 1 2 e ∧ ∀ (H' : Hp) (v' : V) (e' : Ed), Same H H' → IsEd K H' v' e' → EdOk 120 2 3 e' → Q v' H'
theorem txlit {m : Nat} {z : Str} (h : okB z = true) (hm : 10 ≤ m) : TxOk m z := TxOk.mono (okB_asc h) hm
theorem sp_app {n : Nat} {z : Str} (hn : n ≤ 100) (h : okB z = true) : TxOk 120 (sp n ++ z) := ⟨(sp_asc n).app (okB_asc h).1, by rw [Str.length_append, sp_len]; have := (okB_asc h).2; omega⟩
theorem sp_ok {n : Nat} (hn : n ≤ 100) : TxOk 120 (sp n) := ⟨sp_asc n, by rw [sp_len]; omega⟩
theorem all_app {m : Nat} {a b : List Str} (ha : ∀ t ∈ a, TxOk m t) (hb : ∀ t ∈ b, TxOk m t) : ∀ t ∈ a ++ b, TxOk m t := fun t ht => by
  rcases List.mem_append.mp ht with h | h
  · exact ha t h
  · exact hb t h
theorem all_one {m : Nat} {z : Str} (h : TxOk m z) : ∀ t ∈ [z], TxOk m t := fun t ht => by rw [List.mem_singleton.mp ht]; exact h
/-- a + b of tuples of texts -/
theorem cat_strs {K : PySem.W.Frag} {H : Hp} {a b : Addr} {l r : List Str} {Q : VK} (ha : SqT K H a (strsV l)) (hb : SqT K H b (strsV r)) (hl : l.length + r.length ≤ 1000)
    (q : ∀ (H' : Hp) (p : Addr), Same H H' → SqT K H' p (strsV (l ++ r)) → Q (.ref p) H') : rCatA K (.ref a) (.ref b) H Q := by
  refine ⟨a, b, _, _, rfl, rfl, ha, hb, by rw [strsV_len, strsV_len]; exact small5 (by omega), fun e => ?_, fun e1 e2 => ?_, fun e1 e2 p np => ?_⟩
  · have : l = [] := by simpa [strsV] using e
    subst this
    exact q H b (Same.refl H) hb
  · have : r = [] := by simpa [strsV] using e2
    subst this
    exact q H a (Same.refl H) (by rw [List.append_nil]; exact ha)
  · exact q _ p (Same.new np) (SqT.of (by rw [upd_same]; simp [strsV]))
theorem cal_broken (F : At K mg "_law_broken" sBroken) (mM : mg "max" = none) : Cal P w K mg base CX0 1 "_law_broken" ["_law_edit_here", "_law_draw", "_law_indent_here"] (spBroken K) := by
  refine F.cal scBroken (fun vs H Q E h => ?_) (fun _ _ _ _ _ _ us hl => match us, hl with | [_, _, _], _ => rfl) (fun f cdv A outer s H vs Q E hr h => ?_)
  · obtain ⟨v, g, n, e, rfl, _⟩ := h
    rfl
  · obtain ⟨v, g, n, e, rfl, hn, hv, ho, q⟩ := h
    refine ⟨_, pss_cons (ps_asg (pv 0) (pg_tup (by rfl) (pgs_cons (pg_name (i := 3) scBroken.nd rfl (.inl rfl)) (pgs_cons (pg_name (i := 4) scBroken.nd rfl (.inl rfl)) (pgs_cons (pg_name (i := 5) scBroken.nd rfl (.inl rfl)) pgs_nil)))))
      <| pss_cons (ps_set (i := 6) scBroken.nd rfl (.inl rfl) (pe_op op_mod (pv 1) pe_int))
      <| pss_cons (ps_if (pt_cmpR op_eq (pv 6) pe_int (nomark _)) (pss_one (ps_ret (pe_tup (pa_cons (pe_op op_catA (pv 3) (pe_tup (pa_cons pe_str pa_nil))) (pa_cons (pv 4) (pa_cons (pv 5) pa_nil)))))) pss_nil)
      <| pss_cons (ps_if (pt_cmpR op_eq (pv 6) pe_int (nomark _)) (pss_one (ps_ret (pe_tup (pa_cons (pv 3) (pa_cons (pe_tup (pa_cons pe_str (pa_cons (pe_op op_add_str (pe_op op_mul_str pe_str (pe_callB (call_max2 rfl) (by rfl) mM (by decide +kernel) (pa_cons pe_int (pa_cons (pe_op op_sub (pv 2) pe_int) pa_nil)))) pe_str) pa_nil))) (pa_cons (pv 5) pa_nil)))))) pss_nil)
      <| pss_cons (ps_if (pt_cmpR op_eq (pv 6) pe_int (nomark _)) (pss_one (ps_ret (pe_tup (pa_cons (pv 3) (pa_cons (pv 4) (pa_cons (pe_op op_catA (pv 5) (pe_tup (pa_cons (pe_op op_mul_str pe_str (pv 2)) pa_nil))) pa_nil)))))) pss_nil)
      <| pss_cons (ps_if (pt_cmpR op_eq (pv 6) pe_int (nomark _)) (pss_one (ps_ret (pe_tup (pa_cons (pv 3) (pa_cons (pe_tup (pa_cons pe_str (pa_cons (pe_op op_add_str (pe_op op_mul_str pe_str (pv 2)) pe_str) pa_nil))) (pa_cons (pv 5) pa_nil)))))) pss_nil)
      <| pss_cons (ps_if (pt_cmpR op_eq (pv 6) pe_int (nomark _)) (pss_one (ps_ret (pe_tup (pa_cons (pv 3) (pa_cons (pe_tup (pa_cons pe_str pa_nil)) (pa_cons (pv 5) pa_nil)))))) pss_nil)
      <| pss_cons (ps_if (pt_cmpR op_eq (pv 6) pe_int (nomark _)) (pss_one (ps_ret (pe_tup (pa_cons (pv 3) (pa_cons (pv 4) (pa_cons (pe_op op_catA (pe_tup (pa_cons (pe_op op_add_str (pe_op op_mul_str pe_str (pv 2)) pe_str) pa_nil)) (pv 5)) pa_nil)))))) pss_nil)
      <| pss_cons (ps_if (pt_cmpR op_eq (pv 6) pe_int (nomark _)) (pss_one (ps_ret (pe_tup (pa_cons (pv 3) (pa_cons (pe_tup (pa_cons pe_str (pa_cons (pe_op op_add_str (pe_op op_mul_str pe_str (pv 2)) pe_str) pa_nil))) (pa_cons (pv 5) pa_nil)))))) pss_nil)
      <| pss_one (ps_ret (pe_tup (pa_cons (pe_tup pa_nil) (pa_cons (pe_tup (pa_cons pe_str pa_nil)) (pa_cons (pe_tup pa_nil) pa_nil))))), ?_⟩
    obtain ⟨a, x, c, z, rfl, h1, ⟨xa, rfl, hx⟩, ⟨ca, rfl, hc⟩, ⟨za, rfl, hz⟩⟩ := hv
    have ha' := (ho.mono (m' := 120) (na' := 1) (nb' := 2) (by decide) (by decide) (by decide))
    refine ⟨_, rfl, a, _, rfl, h1, rfl, _, _, rfl, _, _, rfl, _, _, rfl, rfl, ?_⟩
    refine ⟨_, rfl, _, _, rfl, rfl, (by show (0 : Int) < 8; decide), ?_⟩
    refine ⟨_, rfl, rfl, _, rfl, ite2 (fun e1 => ?_) (fun e1 => ?_)⟩
    · refine ⟨_, rfl, by show 1 ≤ sizeLine; decide, fun k nk => ?_⟩
      refine cat_strs (l := e.ahead) (r := ["p"]) (TT.new nk _ _ hx) (SqT.of upd_same) (by have := ho.la; simp; omega) fun H' p sm hp => ?_
      refine ⟨_, rfl, _, rfl, by show 3 ≤ sizeLine; decide, fun u nu => ?_⟩
      have t : TT K H (upd H' u (.tup [.ref p, .ref ca, .ref za])) := ((TT.new nk).trans (TT.of_same sm)).trans (TT.new nu)
      exact q _ (.ref u) ⟨e.ahead ++ [("p" : Str)], e.chg, e.behind⟩ (((Same.new nk).trans sm).trans (Same.new nu)) ⟨u, _, _, _, rfl, SqT.of upd_same, ⟨p, rfl, TT.new nu _ _ hp⟩, ⟨ca, rfl, t _ _ hc⟩, ⟨za, rfl, t _ _ hz⟩⟩
        ⟨all_app ha'.a (all_one (txlit (by decide +kernel) (by decide))), ha'.c, ha'.b, by have := ho.la; show (e.ahead ++ [("p" : Str)]).length ≤ 2; simp; omega, by have := ho.lb; show e.behind.length ≤ 3; omega⟩
    refine ⟨_, rfl, rfl, _, rfl, ite2 (fun e1 => ?_) (fun e1 => ?_)⟩
    · refine ⟨_, rfl, _, rfl, _, _, rfl, rfl, _, _, rfl, ?_⟩
      obtain ⟨m, em, hm⟩ : ∃ m : Nat, (if ((n : Int) - 1) > 0 then ((n : Int) - 1) else 0) = (m : Int) ∧ m ≤ 100 := by
        by_cases h0 : ((n : Int) - 1) > 0
        · exact ⟨n - 1, by rw [if_pos h0]; omega, by omega⟩
        · exact ⟨0, by rw [if_neg h0]; rfl, by omega⟩
      rw [show (if (n : Int) - 1 > 0 then (n : Int) - 1 else 0) = (m : Int) from em]
      refine ⟨m, " ", rfl, rfl, rfl, by omega, ?_⟩
      rw [mul_sp]
      refine ⟨sp m, "p", rfl, rfl, small5 (by rw [sp_len]; show m + 1 ≤ _; omega), by show 2 ≤ sizeLine; decide, fun k nk => ?_⟩
      refine ⟨_, rfl, by show 3 ≤ sizeLine; decide, fun u nu => ?_⟩
      have t := (TT.new (K := K) (o := .tup [.str "text", .str (sp m ++ "p")]) nk).trans (TT.new (o := .tup [.ref xa, .ref k, .ref za]) nu)
      exact q _ (.ref u) ⟨e.ahead, .text (sp m ++ "p"), e.behind⟩ ((Same.new nk).trans (Same.new nu)) ⟨u, _, _, _, rfl, SqT.of upd_same, ⟨xa, rfl, t _ _ hx⟩, ⟨k, rfl, TT.new nu _ _ (SqT.of upd_same)⟩, ⟨za, rfl, t _ _ hz⟩⟩
        ⟨ha'.a, sp_app hm (by decide +kernel), ha'.b, by have := ho.la; show e.ahead.length ≤ 2; omega, by have := ho.lb; show e.behind.length ≤ 3; omega⟩
    refine ⟨_, rfl, rfl, _, rfl, ite2 (fun e1 => ?_) (fun e1 => ?_)⟩
    · refine ⟨_, rfl, _, rfl, _, rfl, _, rfl, n, " ", rfl, rfl, rfl, by omega, ?_⟩
      rw [mul_sp]
      refine ⟨by show 1 ≤ sizeLine; decide, fun k nk => ?_⟩
      refine cat_strs (l := e.behind) (r := [sp n]) (TT.new nk _ _ hz) (SqT.of upd_same) (by have := ho.lb; simp; omega) fun H' p sm hp => ?_
      refine ⟨by show 3 ≤ sizeLine; decide, fun u nu => ?_⟩
      have t : TT K H (upd H' u (.tup [.ref xa, .ref ca, .ref p])) := ((TT.new nk).trans (TT.of_same sm)).trans (TT.new nu)
      exact q _ (.ref u) ⟨e.ahead, e.chg, e.behind ++ [sp n]⟩ (((Same.new nk).trans sm).trans (Same.new nu)) ⟨u, _, _, _, rfl, SqT.of upd_same, ⟨xa, rfl, t _ _ hx⟩, ⟨ca, rfl, t _ _ hc⟩, ⟨p, rfl, TT.new nu _ _ hp⟩⟩
        ⟨ha'.a, ha'.c, all_app ha'.b (all_one (sp_ok hn)), by have := ho.la; show e.ahead.length ≤ 2; omega, by have := ho.lb; show (e.behind ++ [sp n]).length ≤ 3; simp; omega⟩
    refine ⟨_, rfl, rfl, _, rfl, ite2 (fun e1 => ?_) (fun e1 => ?_)⟩
    · refine ⟨_, rfl, _, rfl, n, " ", rfl, rfl, rfl, by omega, ?_⟩
      rw [mul_sp]
      refine ⟨sp n, " <b>", rfl, rfl, small5 (by rw [sp_len]; show n + 4 ≤ _; omega), by show 2 ≤ sizeLine; decide, fun k nk => ?_⟩
      refine ⟨_, rfl, by show 3 ≤ sizeLine; decide, fun u nu => ?_⟩
      have t := (TT.new (K := K) (o := .tup [.str "text", .str (sp n ++ " <b>")]) nk).trans (TT.new (o := .tup [.ref xa, .ref k, .ref za]) nu)
      exact q _ (.ref u) ⟨e.ahead, .text (sp n ++ " <b>"), e.behind⟩ ((Same.new nk).trans (Same.new nu)) ⟨u, _, _, _, rfl, SqT.of upd_same, ⟨xa, rfl, t _ _ hx⟩, ⟨k, rfl, TT.new nu _ _ (SqT.of upd_same)⟩, ⟨za, rfl, t _ _ hz⟩⟩
        ⟨ha'.a, sp_app hn (by decide +kernel), ha'.b, by have := ho.la; show e.ahead.length ≤ 2; omega, by have := ho.lb; show e.behind.length ≤ 3; omega⟩
    refine ⟨_, rfl, rfl, _, rfl, ite2 (fun e1 => ?_) (fun e1 => ?_)⟩
    · refine ⟨_, rfl, by show 1 ≤ sizeLine; decide, fun k nk => ?_⟩
      refine ⟨_, rfl, by show 3 ≤ sizeLine; decide, fun u nu => ?_⟩
      have t := (TT.new (K := K) (o := .tup [.str "drop"]) nk).trans (TT.new (o := .tup [.ref xa, .ref k, .ref za]) nu)
      exact q _ (.ref u) ⟨e.ahead, .drop, e.behind⟩ ((Same.new nk).trans (Same.new nu)) ⟨u, _, _, _, rfl, SqT.of upd_same, ⟨xa, rfl, t _ _ hx⟩, ⟨k, rfl, TT.new nu _ _ (SqT.of upd_same)⟩, ⟨za, rfl, t _ _ hz⟩⟩
        ⟨ha'.a, trivial, ha'.b, by have := ho.la; show e.ahead.length ≤ 2; omega, by have := ho.lb; show e.behind.length ≤ 3; omega⟩
    refine ⟨_, rfl, rfl, _, rfl, ite2 (fun e1 => ?_) (fun e1 => ?_)⟩
    · refine ⟨_, rfl, _, rfl, _, rfl, n, " ", rfl, rfl, rfl, by omega, ?_⟩
      rw [mul_sp]
      refine ⟨sp n, "p", rfl, rfl, small5 (by rw [sp_len]; show n + 1 ≤ _; omega), by show 1 ≤ sizeLine; decide, fun k nk => ?_⟩
      refine ⟨_, rfl, ?_⟩
      refine cat_strs (l := [sp n ++ "p"]) (r := e.behind) (SqT.of upd_same) (TT.new nk _ _ hz) (by have := ho.lb; simp; omega) fun H' p sm hp => ?_
      refine ⟨by show 3 ≤ sizeLine; decide, fun u nu => ?_⟩
      have t : TT K H (upd H' u (.tup [.ref xa, .ref ca, .ref p])) := ((TT.new nk).trans (TT.of_same sm)).trans (TT.new nu)
      exact q _ (.ref u) ⟨e.ahead, e.chg, [sp n ++ "p"] ++ e.behind⟩ (((Same.new nk).trans sm).trans (Same.new nu)) ⟨u, _, _, _, rfl, SqT.of upd_same, ⟨xa, rfl, t _ _ hx⟩, ⟨ca, rfl, t _ _ hc⟩, ⟨p, rfl, TT.new nu _ _ hp⟩⟩
        ⟨ha'.a, ha'.c, all_app (all_one (sp_app hn (by decide +kernel))) ha'.b, by have := ho.la; show e.ahead.length ≤ 2; omega, by have := ho.lb; show ([sp n ++ "p"] ++ e.behind).length ≤ 3; simp; omega⟩
    refine ⟨_, rfl, rfl, _, rfl, ite2 (fun e1 => ?_) (fun e1 => ?_)⟩
    · refine ⟨_, rfl, _, rfl, n, " ", rfl, rfl, rfl, by omega, ?_⟩
      rw [mul_sp]
      refine ⟨sp n, "<a-b_c.d>", rfl, rfl, small5 (by rw [sp_len]; show n + 9 ≤ _; omega), by show 2 ≤ sizeLine; decide, fun k nk => ?_⟩
      refine ⟨_, rfl, by show 3 ≤ sizeLine; decide, fun u nu => ?_⟩
      have t := (TT.new (K := K) (o := .tup [.str "text", .str (sp n ++ "<a-b_c.d>")]) nk).trans (TT.new (o := .tup [.ref xa, .ref k, .ref za]) nu)
      exact q _ (.ref u) ⟨e.ahead, .text (sp n ++ "<a-b_c.d>"), e.behind⟩ ((Same.new nk).trans (Same.new nu)) ⟨u, _, _, _, rfl, SqT.of upd_same, ⟨xa, rfl, t _ _ hx⟩, ⟨k, rfl, TT.new nu _ _ (SqT.of upd_same)⟩, ⟨za, rfl, t _ _ hz⟩⟩
        ⟨ha'.a, sp_app hn (by decide +kernel), ha'.b, by have := ho.la; show e.ahead.length ≤ 2; omega, by have := ho.lb; show e.behind.length ≤ 3; omega⟩
    refine ⟨by show 0 ≤ sizeLine; decide, fun k1 n1 => ?_⟩
    refine ⟨by show 1 ≤ sizeLine; decide, fun k2 n2 => ?_⟩
    refine ⟨by show 0 ≤ sizeLine; decide, fun k3 n3 => ?_⟩
    refine ⟨by show 3 ≤ sizeLine; decide, fun u nu => ?_⟩
    exact q _ (.ref u) ⟨[], .keep, []⟩ ((((Same.new n1).trans (Same.new n2)).trans (Same.new n3)).trans (Same.new nu))
      ⟨u, _, _, _, rfl, SqT.of upd_same, ⟨k1, rfl, (TT.new nu) _ _ ((TT.new n3) _ _ ((TT.new n2) _ _ (SqT.of upd_same)))⟩, ⟨k2, rfl, (TT.new nu) _ _ ((TT.new n3) _ _ (SqT.of upd_same))⟩, ⟨k3, rfl, (TT.new nu) _ _ (SqT.of upd_same)⟩⟩
      ⟨fun t h => (by cases h), trivial, fun t h => (by cases h), by show 0 ≤ 2; decide, by show 0 ≤ 3; decide⟩
end
end K31
set_option maxHeartbeats 2000000
/-! A6: the law's document. -/
namespace K31
open PySem PySem.Spec PyProof.Rows L2
abbrev sLine : Stmt := top 45
abbrev sDocument : Stmt := top 46
theorem scLine : FnScope ["_law_draws_here", "_law_current", "_law_calm", "_law_kind", "_law_name"] ["_law_draws_here", "_law_current", "_law_calm"] (defScope sLine) := ⟨rfl, rfl, rfl, by decide +kernel, rfl, by decide +kernel, by decide +kernel⟩
theorem scDocument : FnScope ["_law_script", "_law_at", "_law_count", "_law_calm", "_law_document_here", "_law_current", "_law_is_open", "_law_k", "_law_line_here"] ["_law_script", "_law_at", "_law_count", "_law_calm"] (defScope sDocument) := ⟨rfl, rfl, rfl, by decide +kernel, rfl, by decide +kernel, by decide +kernel⟩
def five : List Str := ["a", "b", "c", "d", "e"]
def LnOk : Ln → Prop
  | .prose _ => True
  | .head n => n ∈ five
  | .use i _ => i ≤ 4
  | .code t => TxOk 10 t
/-- a document of the law -/
structure WfD (D : List Ln) : Prop where
  h0 : D[0]? = some (.head "a")
  ok : ∀ (i : Nat) (l : Ln), D[i]? = some l → LnOk l
  adj : ∀ (i : Nat) (l : Ln), D[i + 1]? = some l → 2 ≤ l.isK → ∃ l', D[i]? = some l' ∧ l'.isK ≠ 0
theorem WfD.one : WfD [.head "a"] := ⟨rfl, fun i l h => by
    match i, h with
    | 0, h => cases h; exact List.mem_cons_self
    | i + 1, h => simp at h, fun i l h => by simp at h⟩
theorem WfD.app {D : List Ln} {l last : Ln} (h : WfD D) (ok : LnOk l) {i : Nat} (hl : D.length = i + 1) (e : D[i]? = some last) (adj : 2 ≤ l.isK → last.isK ≠ 0) : WfD (D ++ [l]) := by
  have get : ∀ (j : Nat) (x : Ln), (D ++ [l])[j]? = some x → (j < i + 1 ∧ D[j]? = some x) ∨ (j = i + 1 ∧ x = l) := fun j x hx => by
    by_cases hj : j < D.length
    · rw [List.getElem?_append_left hj] at hx
      exact .inl ⟨by omega, hx⟩
    · rw [List.getElem?_append_right (by omega)] at hx
      have : j - D.length = 0 := by
        cases q : j - D.length with
        | zero => rfl
        | succ n => rw [q] at hx; simp at hx
      rw [this] at hx
      exact .inr ⟨by omega, (Option.some.inj hx).symm⟩
  have old : ∀ (j : Nat) (x : Ln), D[j]? = some x → (D ++ [l])[j]? = some x := fun j x hx => by
    rw [List.getElem?_append_left (by exact (List.getElem?_eq_some_iff.mp hx).1)]
    exact hx
  refine ⟨old _ _ h.h0, fun j x hx => ?_, fun j x hx k => ?_⟩
  · rcases get j x hx with ⟨_, q⟩ | ⟨_, rfl⟩
    · exact h.ok j x q
    · exact ok
  · rcases get (j + 1) x hx with ⟨_, q⟩ | ⟨q, rfl⟩
    · obtain ⟨l', e1, e2⟩ := h.adj j x q k
      exact ⟨l', old _ _ e1, e2⟩
    · have : j = i := by omega
      subst this
      exact ⟨last, old _ _ e, adj k⟩
theorem IsLn.get {K : PySem.W.Frag} {H : Hp} {v : V} {l : Ln} (h : IsLn K H v l) : ∃ a, v = .ref a ∧ SqT K H a (lnV l) := h
section
variable {P : Program} {w : World} {K : PySem.W.Frag} {mg : Str → Option Value} {base : Heap}
theorem five_at {j : Nat} (hj : j < 5) : ∃ c, ("abcde" : Str).cps.toList[j]? = some c ∧ (⟨#[c]⟩ : Str) ∈ five := by
  match j, hj with
  | 0, _ => exact ⟨97, by decide +kernel, by decide +kernel⟩
  | 1, _ => exact ⟨98, by decide +kernel, by decide +kernel⟩
  | 2, _ => exact ⟨99, by decide +kernel, by decide +kernel⟩
  | 3, _ => exact ⟨100, by decide +kernel, by decide +kernel⟩
  | 4, _ => exact ⟨101, by decide +kernel, by decide +kernel⟩
theorem six_at {j : Nat} (hj : j < 6) : ∃ c, ("abcdef" : Str).cps.toList[j]? = some c := by
  match j, hj with
  | 0, _ => exact ⟨97, by decide +kernel⟩
  | 1, _ => exact ⟨98, by decide +kernel⟩
  | 2, _ => exact ⟨99, by decide +kernel⟩
  | 3, _ => exact ⟨100, by decide +kernel⟩
  | 4, _ => exact ⟨101, by decide +kernel⟩
  | 5, _ => exact ⟨102, by decide +kernel⟩
theorem ind_at {j : Nat} (hj : j < 5) : ∃ i : Nat, [V.int 0, .int 0, .int 2, .int 4, .int 1][j]? = some (.int (i : Int)) ∧ i ≤ 4 := by
  match j, hj with
  | 0, _ => exact ⟨0, rfl, by decide⟩
  | 1, _ => exact ⟨0, rfl, by decide⟩
  | 2, _ => exact ⟨2, rfl, by decide⟩
  | 3, _ => exact ⟨4, rfl, by decide⟩
  | 4, _ => exact ⟨1, rfl, by decide⟩
def spLine (K : PySem.W.Frag) : Sp := fun vs H Q _ => ∃ (p : Addr) (c : Nat) (b : Bool) (ds : List Nat), vs = [.ref p, .int (c : Int), .bl b] ∧ H p = some (.lst (plP ds)) ∧ ds.length = 5 ∧ ∀ (H' : Hp) (v : V) (l : Ln), Same H H' → IsLn K H' v l → LnOk l → Q v H'
theorem cal_line (F : At K mg "_law_line" sLine) (T : Cal P w K mg base CX0 1 "_law_text" ["_law_draw"] spTx) : Cal P w K mg base CX0 2 "_law_line" ["_law_draws_here", "_law_current", "_law_calm"] (spLine K) := by
  refine F.cal scLine (fun vs H Q E h => ?_) (fun _ _ _ _ _ _ us hl => match us, hl with | [_, _, _], _ => rfl) (fun f cdv A outer s H vs Q E hr h => ?_)
  · obtain ⟨p, c, b, ds, rfl, _⟩ := h
    rfl
  · obtain ⟨p, c, b, ds, rfl, e, hl, q⟩ := h
    refine ⟨_, pss_cons (ps_set (i := 3) scLine.nd rfl (.inl rfl) (pe_op op_mod (pe_ix ix_list (pv 0) pe_int (fun _ _ => rfl)) pe_int))
      <| pss_cons (ps_if (pt_cmpR op_lt (pv 3) pe_int (nomark _)) (pss_one (ps_ret (pe_tup (pa_cons pe_str (pa_cons (pe_ix ix_list (pe_lst (pa_cons pe_str (pa_cons pe_str (pa_cons pe_str (pa_cons pe_str pa_nil))))) (pe_op op_mod (pe_ix ix_list (pv 0) pe_int (fun _ _ => rfl)) pe_int) (fun _ _ => rfl)) pa_nil))))) pss_nil)
      <| pss_cons (ps_if (pt_cmpR op_lt (pv 3) pe_int (nomark _)) (pss_one (ps_ret (pe_tup (pa_cons pe_str (pa_cons (pe_ix ix_str pe_str (pe_op op_mod (pe_ix ix_list (pv 0) pe_int (fun _ _ => rfl)) pe_int) (fun _ _ => rfl)) pa_nil))))) pss_nil)
      <| C8.pss_cut (ps_if (pt_cmpR op_lt (pv 3) pe_int (nomark _))
          (pss_cons (ps_set (i := 4) scLine.nd rfl (.inl rfl) (pe_op op_mod (pe_ix ix_list (pv 0) pe_int (fun _ _ => rfl)) pe_int))
          <| C8.pss_cut (ps_if (pt_val (pv 2)) (pss_one (ps_set (i := 4) scLine.nd rfl (.inl rfl) (pe_op op_add (pe_op op_add (pv 1) pe_int) (pe_op op_mod (pe_ix ix_list (pv 0) pe_int (fun _ _ => rfl)) pe_int)))) pss_nil)
          <| pss_one (ps_if (PW.pt (pw_and (pt_cmpR op_lt (pv 4) pe_int (nomark _)) (pw_and1 (PW.pt (pw_or (pt_cmpR op_lt (pv 4) pe_int (nomark _)) (pw_or1 (pt_not (pt_val (pv 2)))))))))
            (pss_one (ps_ret (pe_tup (pa_cons pe_str (pa_cons (pe_ix ix_list (pe_lst (pa_cons pe_int (pa_cons pe_int (pa_cons pe_int (pa_cons pe_int (pa_cons pe_int pa_nil)))))) (pe_op op_mod (pe_ix ix_list (pv 0) pe_int (fun _ _ => rfl)) pe_int) (fun _ _ => rfl)) (pa_cons (pe_ix ix_str pe_str (pv 4) (fun _ _ => rfl)) pa_nil)))))) pss_nil)) pss_nil)
      <| pss_one (ps_ret (pe_tup (pa_cons pe_str (pa_cons (pe_cal0 T hr (pa_cons (pe_ix ix_list (pv 0) pe_int (fun _ _ => rfl)) pa_nil)) pa_nil)))), ?_⟩
    have at_ : ∀ {H' : Hp}, Same H H' → ∀ {i : Nat}, i < 5 → ∃ d : Nat, SqL K H' p (plP ds) ∧ atI (plP ds) (i : Int) = some (.int (d : Int)) := fun s i hi => draw_at (s _ _ e) (by omega)
    obtain ⟨d0, S, e0⟩ := at_ (Same.refl H) (i := 0) (by decide)
    refine ⟨_, rfl, p, _, _, _, rfl, rfl, S, e0, _, _, rfl, rfl, (by show (0 : Int) < 11; decide), ?_⟩
    refine ⟨_, rfl, _, _, rfl, rfl, _, rfl, ite2 (fun _ => ?_) (fun _ => ?_)⟩
    · refine ⟨by show 4 ≤ sizeLine; decide, fun k nk => ?_⟩
      obtain ⟨d1, S1, e1⟩ := at_ (Same.new (o := .lst [.str "", .str "words", .str "more words", .str " <a>"]) nk) (i := 1) (by decide)
      obtain ⟨j, ej, hj⟩ := mod_nat d1 (m := 4) (by decide)
      obtain ⟨t, et, _⟩ := lit_pick (L := ["", "words", "more words", " <a>"]) (by decide +kernel) (j := j) hj
      refine ⟨_, rfl, p, _, _, _, rfl, rfl, S1, e1, _, _, rfl, rfl, (by show (0 : Int) < 4; decide), k, _, (d1 : Int) % 4, .str t, rfl, rfl, SqL.of upd_same, (by rw [show (d1 : Int) % 4 = (j : Int) from ej]; exact atI_nat et), by show 2 ≤ sizeLine; decide, fun u nu => ?_⟩
      exact q _ (.ref u) (.prose t) ((Same.new nk).trans (Same.new nu)) ⟨u, rfl, SqT.of upd_same⟩ trivial
    refine ⟨_, rfl, _, _, rfl, rfl, _, rfl, ite2 (fun _ => ?_) (fun _ => ?_)⟩
    · obtain ⟨d1, S1, e1⟩ := at_ (Same.refl H) (i := 1) (by decide)
      obtain ⟨j, ej, hj⟩ := mod_nat d1 (m := 5) (by decide)
      obtain ⟨c1, ec, hc⟩ := five_at hj
      refine ⟨_, rfl, p, _, _, _, rfl, rfl, S1, e1, _, _, rfl, rfl, (by show (0 : Int) < 5; decide), "abcde", (d1 : Int) % 5, c1, rfl, rfl, (by decide +kernel), (by rw [show (d1 : Int) % 5 = (j : Int) from ej]; exact atI_nat ec), by show 2 ≤ sizeLine; decide, fun u nu => ?_⟩
      exact q _ (.ref u) (.head ⟨#[c1]⟩) (Same.new nu) ⟨u, rfl, SqT.of upd_same⟩ hc
    have last : ∀ (σ : L2.St) (H1 : Hp), σ[0]? = some (some (.ref p)) → H1 = H → tRet (tTup (tCons (tC (.str "code")) (tCons (tCall spTx [] E0 (tCons (tOp (rIxL K) (tVar 0) (tC (.int 4))) tNil)) tNil))) { nx := fun _ H' => Q .non H', rt := Q } σ H1 := by
      rintro σ H1 hσ rfl
      obtain ⟨d1, S1, e1⟩ := at_ (Same.refl H1) (i := 4) (by decide)
      refine ⟨_, hσ, p, _, _, _, rfl, rfl, S1, e1, d1, rfl, fun H2 t s2 ht => ?_⟩
      refine ⟨by show 2 ≤ sizeLine; decide, fun u nu => ?_⟩
      exact q _ (.ref u) (.code t) (s2.trans (Same.new nu)) ⟨u, rfl, SqT.of upd_same⟩ ht
    refine ⟨fun σ' H' => σ'[0]? = some (some (.ref p)) ∧ H' = H, ?_, fun σ' H' hM => last σ' H' hM.1 hM.2⟩
    refine ⟨_, rfl, _, _, rfl, rfl, _, rfl, ite2 (fun _ => ?_) (fun _ => ⟨rfl, rfl⟩)⟩
    obtain ⟨d2, S2, e2⟩ := at_ (Same.refl H) (i := 2) (by decide)
    refine ⟨_, rfl, p, _, _, _, rfl, rfl, S2, e2, _, _, rfl, rfl, (by show (0 : Int) < 6; decide), ?_⟩
    refine ⟨fun σ' H' => H' = H ∧ ∃ (k3 : Option V) (n : Nat), σ' = [some (.ref p), some (.int (c : Int)), some (.bl b), k3, some (.int (n : Int))], ?_, ?_⟩
    · refine ⟨_, rfl, b, rfl, ?_⟩
      obtain ⟨n6, en6, _⟩ := mod_nat d2 (m := 6) (by decide)
      cases b with
      | false => exact iteF ⟨rfl, some (.int ((d0 : Int) % 11)), n6, by rw [← en6]; rfl⟩
      | true =>
        obtain ⟨n2, en2, _⟩ := mod_nat d2 (m := 2) (by decide)
        refine iteT ⟨_, rfl, _, _, rfl, rfl, _, rfl, p, _, _, _, rfl, rfl, S2, e2, _, _, rfl, rfl, (by show (0 : Int) < 2; decide), _, _, rfl, rfl, ?_⟩
        refine ⟨rfl, some (.int ((d0 : Int) % 11)), c + 1 + n2, ?_⟩
        rw [show ((c + 1 + n2 : Nat) : Int) = (c : Int) + 1 + (d2 : Int) % 2 by rw [show (d2 : Int) % 2 = (n2 : Int) from en2]; omega]
        rfl
    rintro σ' H' ⟨rfl, k3, n, rfl⟩
    refine ⟨_, rfl, _, _, rfl, rfl, _, rfl, ite2 (fun h6 => ?_) (fun _ => ⟨rfl, rfl⟩)⟩
    have hn6 : n < 6 := by have := of_decide_eq_true h6; omega
    obtain ⟨c1, ec⟩ := six_at hn6
    have use : tRet (tTup (tCons (tC (.str "use")) (tCons (tOp (rIxL K) (tLst (tCons (tC (.int 0)) (tCons (tC (.int 0)) (tCons (tC (.int 2)) (tCons (tC (.int 4)) (tCons (tC (.int 1)) tNil)))))) (tOp (rI (fun _ j => 0 < j) fun i j => .int (i % j)) (tOp (rIxL K) (tVar 0) (tC (.int 3))) (tC (.int 5))))
        (tCons (tOp rIxS (tC (.str "abcdef")) (tVar 4)) tNil)))) { nx := fun σ' H'' => σ'[0]? = some (some (.ref p)) ∧ H'' = H', rt := Q } [some (.ref p), some (.int (c : Int)), some (.bl b), k3, some (.int (n : Int))] H' := by
      refine ⟨by show 5 ≤ sizeLine; decide, fun k nk => ?_⟩
      obtain ⟨d3, S3, e3⟩ := at_ (Same.new (o := .lst [.int 0, .int 0, .int 2, .int 4, .int 1]) nk) (i := 3) (by decide)
      obtain ⟨j, ej, hj⟩ := mod_nat d3 (m := 5) (by decide)
      obtain ⟨i, ei, hi⟩ := ind_at hj
      refine ⟨_, rfl, p, _, _, _, rfl, rfl, S3, e3, _, _, rfl, rfl, (by show (0 : Int) < 5; decide), k, _, (d3 : Int) % 5, .int (i : Int), rfl, rfl, SqL.of upd_same, (by rw [show (d3 : Int) % 5 = (j : Int) from ej]; exact atI_nat ei), _, rfl, "abcdef", (n : Int), c1, rfl, rfl, (by decide +kernel), atI_nat ec, by show 3 ≤ sizeLine; decide, fun u nu => ?_⟩
      exact q _ (.ref u) (.use i ⟨#[c1]⟩) ((Same.new nk).trans (Same.new nu)) ⟨u, rfl, SqT.of upd_same⟩ hi
    refine ⟨_, rfl, _, _, rfl, rfl, _, rfl, ite2 (fun _ => use) (fun _ => ?_)⟩
    refine ⟨_, rfl, b, rfl, ?_⟩
    cases b with
    | false => exact iteT use
    | true => exact iteF ⟨rfl, rfl⟩
end
end K31
set_option maxHeartbeats 2000000
/-! A7: the law's document. -/
namespace K31
open PySem PySem.Spec PyProof.Rows L2
section
variable {P : Program} {w : World} {K : PySem.W.Frag} {mg : Str → Option Value} {base : Heap}
theorem find_five {n : Str} (h : n ∈ five) : ∃ c : Nat, PySem.Txt.find ("abcde" : Str) n = (c : Int) := by
  simp only [five, List.mem_cons, List.not_mem_nil, or_false] at h
  rcases h with rfl | rfl | rfl | rfl | rfl
  · exact ⟨0, by decide +kernel⟩
  · exact ⟨1, by decide +kernel⟩
  · exact ⟨2, by decide +kernel⟩
  · exact ⟨3, by decide +kernel⟩
  · exact ⟨4, by decide +kernel⟩
theorem inv_codeuse (l : Ln) : inV (.str l.kind) [.str "code", .str "use"] = decide (2 ≤ l.isK) := by
  cases l with
  | prose t => exact (by decide +kernel : inV (.str ("prose" : Str)) [.str "code", .str "use"] = false)
  | head n => exact (by decide +kernel : inV (.str ("head" : Str)) [.str "code", .str "use"] = false)
  | use i n => exact (by decide +kernel : inV (.str ("use" : Str)) [.str "code", .str "use"] = true)
  | code t => exact (by decide +kernel : inV (.str ("code" : Str)) [.str "code", .str "use"] = true)
def spDoc (K : PySem.W.Frag) : Sp := fun vs H Q _ => ∃ (s : Addr) (ns : List Int) (at_ n : Nat) (b : Bool), vs = [.ref s, .int (at_ : Int), .int (n : Int), .bl b] ∧ SqL K H s (ns.map V.int) ∧ n ≤ 25 ∧
  ∀ (H' : Hp) (d : Addr) (D : List Ln), Same H H' → IsDoc K H' d D → WfD D → D.length = n + 1 → Q (.ref d) H'
theorem cal_document (F : At K mg "_law_document" sDocument) (C : Cal P w K mg base CX0 1 "_law_cell" ["_law_script", "_law_k"] (spC K)) (R : Cal P w K mg base CX0 1 "_law_draws" ["_law_cell_here", "_law_count"] spDr)
    (L : Cal P w K mg base CX0 2 "_law_line" ["_law_draws_here", "_law_current", "_law_calm"] (spLine K)) (mR : mg "range" = none) (mT : mg "tuple" = none) :
    Cal P w K mg base CX0 3 "_law_document" ["_law_script", "_law_at", "_law_count", "_law_calm"] (spDoc K) := by
  refine F.cal scDocument (fun vs H Q E h => ?_) (fun _ _ _ _ _ _ us hl => match us, hl with | [_, _, _, _], _ => rfl) (fun f cdv A outer s H vs Q E hr h => ?_)
  · obtain ⟨s, ns, a, n, b, rfl, _⟩ := h
    rfl
  · obtain ⟨sc, ns, at_, n, b, rfl, hs, hn, q⟩ := h
    refine ⟨_, pss_cons (ps_set (i := 4) scDocument.nd rfl (.inl rfl) (pe_lst (pa_cons (pe_tup (pa_cons pe_str (pa_cons pe_str pa_nil))) pa_nil)))
      <| pss_cons (ps_set (i := 5) scDocument.nd rfl (.inl rfl) pe_int)
      <| pss_cons (ps_set (i := 6) scDocument.nd rfl (.inl rfl) pe_bl)
      <| pss_cons (ps_for PassesOwn.never rfl (pi_range1 (by rfl) mR (pa_cons (pv 2) pa_nil)) (pg_name (i := 7) scDocument.nd rfl (.inl rfl))
        (pss_cons (ps_set (i := 8) scDocument.nd rfl (.inl rfl) (pe_cal0 L hr (pa_cons (pe_cal0 R (hr.mono (by decide)) (pa_cons (pe_cal0 C (hr.mono (by decide)) (pa_cons (pv 0) (pa_cons (pe_op op_add (pv 1) (pv 7)) pa_nil))) (pa_cons pe_int pa_nil))) (pa_cons (pv 5) (pa_cons (pv 3) pa_nil)))))
        <| C8.pss_cut (ps_if (PW.pt (pw_and (pt_not (pt_val (pv 6))) (pw_and1 (pt_cmpR op_in_seq (pe_ix ix_tup (pv 8) pe_int (fun _ _ => rfl)) (pe_tup (pa_cons pe_str (pa_cons pe_str pa_nil))) (by rfl)))))
            (pss_one (ps_set (i := 8) scDocument.nd rfl (.inl rfl) (pe_tup (pa_cons pe_str (pa_cons (pe_ix ix_str pe_str (pe_op op_mod (pe_cal0 C (hr.mono (by decide)) (pa_cons (pv 0) (pa_cons (pe_op op_add (pv 1) (pv 7)) pa_nil))) pe_int) (fun _ _ => rfl)) pa_nil))))) pss_nil)
        <| pss_cons (ps_set (i := 6) scDocument.nd rfl (.inl rfl) (pe_cmpR op_ne (pe_ix ix_tup (pv 8) pe_int (fun _ _ => rfl)) pe_str (nomark _)))
        <| C8.pss_cut (ps_if (pt_cmpR op_eq (pe_ix ix_tup (pv 8) pe_int (fun _ _ => rfl)) pe_str (nomark _))
            (pss_one (ps_set (i := 5) scDocument.nd rfl (.inl rfl) (pe_bm PySem.F.plainAttrs_str PySem.F.slot_str_find PySem.F.type_str_find mt_find pe_str (pa_cons (pe_ix ix_tup (pv 8) pe_int (fun _ _ => rfl)) pa_nil)))) pss_nil)
        <| pss_one (ps_expr (pe_bm PySem.F.plainAttrs_list PySem.F.slot_list_append PySem.F.type_list_append mt_append (pv 4) (pa_cons (pv 8) pa_nil)))))
      <| pss_one (ps_ret (pe_callTy call_tuple_of (by rfl) mT (by decide +kernel) (pa_cons (pv 4) pa_nil))), ?_⟩
    refine ⟨by show 2 ≤ sizeLine; decide, fun t nt => ⟨by show 1 ≤ sizeLine; decide, fun o no => ?_⟩⟩
    have n0 : H o = none := (Same.new (o := .tup [.str "head", .str "a"]) nt).free no
    refine ⟨_, rfl, n, rfl, by omega, by omega, ?_⟩
    refine for_range (n := n) (fun i σ H3 => ∃ (c : Nat) (y7 y8 : Option V) (D : List Ln) (vs : List V) (last : Ln), σ = [some (.ref sc), some (.int (at_ : Int)), some (.int (n : Int)), some (.bl b), some (.ref o), some (.int (c : Int)), some (.bl (!decide (last.isK = 0))), y7, y8] ∧ Same H H3 ∧
      H3 o = some (.lst vs) ∧ Paired (IsLn K H3) vs D ∧ WfD D ∧ D.length = i + 1 ∧ D[i]? = some last) ?_ ?_ ?_
    · refine ⟨0, none, none, [.head "a"], [.ref t], .head "a", rfl, (Same.new nt).trans (Same.new no), upd_same, .cons ⟨t, rfl, TT.new no _ _ (SqT.of upd_same)⟩ .nil, WfD.one, rfl, rfl⟩
    · rintro i σ H3 hi ⟨c, y7, y8, D, vs, last, rfl, sm, ho, hp, wf, hl, hlast⟩
      have hlen : vs.length < sizeLine := by rw [hp.length, hl]; exact small5' (by omega)
      have hk : ((at_ : Int) + (0 + (i : Int))) = ((at_ + i : Nat) : Int) := by omega
      refine ⟨_, rfl, _, rfl, _, rfl, _, _, rfl, rfl, sc, ns, at_ + i, (by show [V.ref sc, V.int ((at_ : Int) + (0 + (i : Int)))] = _; rw [hk]), sm.seq hs, fun z => ?_⟩
      refine ⟨z, 5, rfl, by decide, fun H4 p ds sm4 hp0 hds e4 => ?_⟩
      refine ⟨_, rfl, _, rfl, p, c, b, ds, rfl, e4, hds, fun H5 v l sm5 hv hok => ?_⟩
      have s5 : Same H3 H5 := sm4.trans sm5
      -- the line, or a head in its place
      refine ⟨fun σ' H' => ∃ (y7 : Option V) (v : V) (l : Ln), σ' = [some (.ref sc), some (.int (at_ : Int)), some (.int (n : Int)), some (.bl b), some (.ref o), some (.int (c : Int)), some (.bl (!decide (last.isK = 0))), y7, some v] ∧ Same H3 H' ∧
        IsLn K H' v l ∧ LnOk l ∧ (2 ≤ l.isK → last.isK ≠ 0), ?_, ?_⟩
      · have keep : (2 ≤ l.isK → last.isK ≠ 0) → ∃ (y7 : Option V) (v0 : V) (l : Ln), [some (.ref sc), some (.int (at_ : Int)), some (.int (n : Int)), some (.bl b), some (.ref o), some (.int (c : Int)), some (.bl (!decide (last.isK = 0))), some (.int (0 + (i : Int))), some v] = [some (.ref sc), some (.int (at_ : Int)), some (.int (n : Int)), some (.bl b), some (.ref o), some (.int (c : Int)), some (.bl (!decide (last.isK = 0))), y7, some v0] ∧ Same H3 H5 ∧
            IsLn K H5 v0 l ∧ LnOk l ∧ (2 ≤ l.isK → last.isK ≠ 0) := fun k => ⟨_, v, l, rfl, s5, hv, hok, k⟩
        refine ⟨_, rfl, _, rfl, ?_⟩
        by_cases h0 : last.isK = 0
        · rw [decide_eq_true h0]
          refine iteT ?_
          obtain ⟨a, rfl, ha⟩ := hv.get
          refine ⟨_, rfl, a, _, 0, _, rfl, rfl, ha, atI_nat (j := 0) (lnV_0 l), by show 2 ≤ sizeLine; decide, fun u nu => ?_⟩
          refine ⟨u, _, rfl, .inr (SqT.of upd_same), rfl, rfl, _, rfl, ?_⟩
          show if inV (.str l.kind) [.str "code", .str "use"] = true then _ else _
          rw [inv_codeuse]
          refine ite2 (fun h2 => ?_) (fun h2 => ?_)
          · refine ⟨_, rfl, _, rfl, _, rfl, _, _, rfl, rfl, sc, ns, at_ + i, (by show [V.ref sc, V.int ((at_ : Int) + (0 + (i : Int)))] = _; rw [hk]), (Same.new nu).seq (s5.seq (sm.seq hs)), fun z2 => ?_⟩
            obtain ⟨j0, ej0⟩ := nat_of (show 0 ≤ z2 % 5 from Int.emod_nonneg _ (by decide))
            have hj0 : j0 < 5 := by have := Int.emod_lt_of_pos z2 (show (0 : Int) < 5 by decide); omega
            obtain ⟨c1, ec, hc⟩ := five_at hj0
            refine ⟨_, _, rfl, rfl, (by show (0 : Int) < 5; decide), "abcde", z2 % 5, c1, rfl, rfl, (by decide +kernel), (by rw [ej0]; exact atI_nat ec), by show 2 ≤ sizeLine; decide, fun u2 nu2 => ?_⟩
            exact ⟨_, .ref u2, .head ⟨#[c1]⟩, rfl, (s5.trans (Same.new nu)).trans (Same.new nu2), ⟨u2, rfl, SqT.of upd_same⟩, hc, fun h => absurd (show 2 ≤ 1 from h) (by decide)⟩
          · exact ⟨_, .ref a, l, rfl, s5.trans (Same.new nu), IsLn.mono (TT.new nu) ⟨a, rfl, ha⟩, hok, fun h => absurd (decide_eq_true h) h2⟩
        · rw [decide_eq_false h0]
          have k := keep fun _ => h0
          rw [decide_eq_false h0] at k
          exact iteF k
      rintro σ' H6 ⟨y7, v, l, rfl, s6, hv, hok, adj⟩
      obtain ⟨a, rfl, ha⟩ := hv.get
      refine ⟨_, rfl, a, _, 0, _, rfl, rfl, ha, atI_nat (j := 0) (lnV_0 l), rfl, ?_⟩
      refine ⟨fun σ' H' => H' = H6 ∧ ∃ (c : Nat), σ' = [some (.ref sc), some (.int (at_ : Int)), some (.int (n : Int)), some (.bl b), some (.ref o), some (.int (c : Int)), some (.bl (!decide (l.isK = 0))), y7, some (.ref a)], ?_, ?_⟩
      · refine ⟨_, rfl, a, _, 0, _, rfl, rfl, ha, atI_nat (j := 0) (lnV_0 l), rfl, _, rfl, ?_⟩
        rw [kind_head]
        show if decide (l.isK = 1) = true then _ else _
        refine ite2 (fun h1 => ?_) (fun h1 => ?_)
        · obtain ⟨nm, rfl⟩ : ∃ nm, l = .head nm := by
            cases l with
            | head nm => exact ⟨nm, rfl⟩
            | prose t => exact absurd (show decide (0 = 1) = true from h1) (by decide)
            | use i n => exact absurd (show decide (2 = 1) = true from h1) (by decide)
            | code t => exact absurd (show decide (3 = 1) = true from h1) (by decide)
          obtain ⟨c2, e2⟩ := find_five hok
          refine ⟨rfl, _, rfl, a, _, 1, .str nm, rfl, rfl, ha, atI_nat (j := 1) rfl, "abcde", nm, rfl, rfl, rfl, c2, ?_⟩
          rw [← e2, ← kind_prose (.head nm)]
          rfl
        · exact ⟨rfl, c, by rw [← kind_prose l]; rfl⟩
      rintro σ' H' ⟨rfl, c', rfl⟩
      have ho6 : H' o = some (.lst vs) := s6 _ _ ho
      refine ⟨_, rfl, .inl ⟨rfl, _, SqL.of ho6⟩, _, rfl, o, _, _, rfl, rfl, ho6, hlen, ?_⟩
      have tt : TT K H3 (upd H' o (.lst (vs ++ [.ref a]))) := (TT.of_same s6).trans (TT.lst ho6)
      refine ⟨c', _, _, D ++ [l], vs ++ [.ref a], l, rfl, Same.upn (sm.trans s6) n0, upd_same, Papp (Pmap hp fun _ _ z => z.mono tt) (.cons ⟨a, rfl, TT.lst ho6 _ _ ha⟩ .nil), wf.app hok hl hlast adj, by simp [hl], ?_⟩
      rw [List.getElem?_append_right (by omega), hl]
      simp
    · rintro σ H3 ⟨c, y7, y8, D, vs, last, rfl, sm, ho, hp, wf, hl, hlast⟩
      refine ⟨_, rfl, o, _, rfl, .inl ⟨SqL.of ho, fun d nd => ?_⟩⟩
      exact q _ d D (sm.trans (Same.new nd)) ⟨vs, SqT.of upd_same, Pmap hp fun _ _ z => z.mono (TT.new nd)⟩ wf hl
end
end K31
set_option maxHeartbeats 2000000
/-! M1: the table of a document, in plain Lean. -/
namespace K31
open PySem PySem.Spec PyProof.Rows L2
abbrev Tb := Str → Option (List Nat)
def putT (f : Tb) (n : Str) (l : List Nat) : Tb := fun m => if m = n then some l else f m
theorem putT_same (f : Tb) (n : Str) (l : List Nat) : putT f n l n = some l := by simp [putT]
theorem putT_ne (f : Tb) {n m : Str} (l : List Nat) (h : m ≠ n) : putT f n l m = f m := by simp [putT, h]
/-- one line -/
def stepT (s : Str × Tb) (i : Nat) : Ln → Str × Tb
  | .head n => (n, if s.2 n = none then putT s.2 n [] else s.2)
  | .prose _ => s
  | _ => (s.1, putT s.2 s.1 ((s.2 s.1).getD [] ++ [i]))
def tbS (D : List Ln) : Nat → Str × Tb
  | 0 => ("", fun _ => none)
  | k + 1 => match D[k]? with
    | some l => stepT (tbS D k) k l
    | none => tbS D k
def tbOf (D : List Ln) : Tb := (tbS D D.length).2
theorem tbS_succ {D : List Ln} {k : Nat} {l : Ln} (h : D[k]? = some l) : tbS D (k + 1) = stepT (tbS D k) k l := by simp [tbS, h]
/-- what is so of the table behind k lines -/
structure TabW (D : List Ln) (k : Nat) (s : Str × Tb) : Prop where
  key : ∀ n l, s.2 n = some l → n ∈ five
  mem : ∀ n l, s.2 n = some l → ∀ a ∈ l, a < k ∧ ∃ x, D[a]? = some x ∧ 2 ≤ x.isK
  len : ∀ n l, s.2 n = some l → l.length ≤ k
  cur : 1 ≤ k → ∃ l, s.2 s.1 = some l
  root : 1 ≤ k → ∃ l, s.2 "a" = some l
theorem tabW {D : List Ln} (wf : WfD D) : ∀ k, k ≤ D.length → TabW D k (tbS D k)
  | 0, _ => { key := fun n l h => (nomatch h), mem := fun n l h => (nomatch h), len := fun n l h => (nomatch h), cur := fun h => absurd h (by decide), root := fun h => absurd h (by decide) }
  | k + 1, hk => by
    have ih := tabW wf k (by omega)
    have e := List.getElem?_eq_getElem (show k < D.length by omega)
    have ok := wf.ok _ _ e
    rw [tbS_succ e]
    generalize D[k] = x at e ok
    generalize tbS D k = s at ih ⊢
    obtain ⟨c, f⟩ := s
    obtain ⟨i1, i2, i3, i4, i5⟩ := ih
    have more : ∀ i, 2 ≤ x.isK → stepT (c, f) k x = (c, putT f c ((f c).getD [] ++ [i])) → i = k → TabW D (k + 1) (stepT (c, f) k x) := by
      intro i h2 es hi
      subst hi
      rw [es]
      have h1 : 1 ≤ i := by
        rcases Nat.eq_zero_or_pos i with z | z
        · rw [z, wf.h0] at e
          cases e
          exact absurd (show 2 ≤ 1 from h2) (by decide)
        · exact z
      obtain ⟨lc, hc⟩ := i4 h1
      have hc' : f c = some lc := hc
      refine ⟨fun n l h => ?_, fun n l h a ha => ?_, fun n l h => ?_, fun _ => ⟨_, putT_same _ _ _⟩, fun _ => ?_⟩
      · by_cases q : n = c
        · rw [q]; exact i1 c lc hc
        · exact i1 n l (by rw [← h]; exact (putT_ne f _ q).symm)
      · by_cases q : n = c
        · rw [q] at h
          have h' := (putT_same f c ((f c).getD [] ++ [i])).symm.trans h
          rw [hc'] at h'
          have : l = lc ++ [i] := (Option.some.inj h').symm
          rw [this] at ha
          rcases List.mem_append.mp ha with z | z
          · obtain ⟨z1, z2⟩ := i2 c lc hc a z
            exact ⟨by omega, z2⟩
          · rw [List.mem_singleton.mp z]
            exact ⟨by omega, x, e, h2⟩
        · obtain ⟨z1, z2⟩ := i2 n l (by rw [← h]; exact (putT_ne f _ q).symm) a ha
          exact ⟨by omega, z2⟩
      · by_cases q : n = c
        · rw [q] at h
          have h' := (putT_same f c ((f c).getD [] ++ [i])).symm.trans h
          rw [hc'] at h'
          have : l = lc ++ [i] := (Option.some.inj h').symm
          have := i3 c lc hc
          subst_vars
          simp
          omega
        · have := i3 n l (by rw [← h]; exact (putT_ne f _ q).symm)
          omega
      · by_cases q : ("a" : Str) = c
        · exact ⟨_, by rw [q]; exact putT_same _ _ _⟩
        · obtain ⟨l, hl⟩ := i5 h1
          exact ⟨l, by rw [← hl]; exact putT_ne f _ q⟩
    cases x with
    | prose t =>
      refine ⟨i1, fun n l h a ha => ?_, fun n l h => Nat.le_succ_of_le (i3 n l h), fun _ => ?_, fun _ => ?_⟩
      · obtain ⟨z1, z2⟩ := i2 n l h a ha
        exact ⟨by omega, z2⟩
      all_goals
        have h1 : 1 ≤ k := by
          rcases Nat.eq_zero_or_pos k with z | z
          · rw [z, wf.h0] at e; cases e
          · exact z
      · exact i4 h1
      · exact i5 h1
    | head n0 =>
      show TabW D (k + 1) (n0, if f n0 = none then putT f n0 [] else f)
      by_cases q : f n0 = none
      · rw [if_pos q]
        refine ⟨fun n l h => ?_, fun n l h a ha => ?_, fun n l h => ?_, fun _ => ⟨_, putT_same _ _ _⟩, fun _ => ?_⟩
        · by_cases z : n = n0
          · rw [z]; exact ok
          · exact i1 n l (by rw [← h]; exact (putT_ne f _ z).symm)
        · by_cases z : n = n0
          · rw [z] at h
            have : l = [] := (Option.some.inj ((putT_same f n0 []).symm.trans h)).symm
            rw [this] at ha
            cases ha
          · obtain ⟨z1, z2⟩ := i2 n l (by rw [← h]; exact (putT_ne f _ z).symm) a ha
            exact ⟨by omega, z2⟩
        · by_cases z : n = n0
          · rw [z] at h
            have : l = [] := (Option.some.inj ((putT_same f n0 []).symm.trans h)).symm
            rw [this]
            exact Nat.zero_le _
          · have := i3 n l (by rw [← h]; exact (putT_ne f _ z).symm)
            omega
        · by_cases z : ("a" : Str) = n0
          · exact ⟨_, by rw [z]; exact putT_same _ _ _⟩
          · rcases Nat.eq_zero_or_pos k with y | y
            · rw [y, wf.h0] at e
              cases e
              exact absurd rfl z
            · obtain ⟨l, hl⟩ := i5 y
              exact ⟨l, by rw [← hl]; exact putT_ne f _ z⟩
      · rw [if_neg q]
        refine ⟨i1, fun n l h a ha => ?_, fun n l h => Nat.le_succ_of_le (i3 n l h), fun _ => ?_, fun _ => ?_⟩
        · obtain ⟨z1, z2⟩ := i2 n l h a ha
          exact ⟨by omega, z2⟩
        · cases z : f n0 with
          | none => exact absurd z q
          | some l => exact ⟨l, z⟩
        · rcases Nat.eq_zero_or_pos k with y | y
          · rw [y, wf.h0] at e
            cases e
            cases z : f "a" with
            | none => exact absurd z q
            | some l => exact ⟨l, z⟩
          · exact i5 y
    | use i n => exact more k (by show 2 ≤ 2; decide) rfl rfl
    | code t => exact more k (by show 2 ≤ 3; decide) rfl rfl
/-- sections -/
abbrev Sec := Str × Nat × Nat
def stepS (s : List Sec) (i : Nat) : Ln → List Sec
  | .head n => s ++ [(n, i, i + 1)]
  | .prose _ => s
  | _ => match s.getLast? with
    | some (n, h, _) => s.dropLast ++ [(n, h, i + 1)]
    | none => s
def secS (D : List Ln) : Nat → List Sec
  | 0 => []
  | k + 1 => match D[k]? with
    | some l => stepS (secS D k) k l
    | none => secS D k
def secs (D : List Ln) : List Sec := secS D D.length
theorem secS_succ {D : List Ln} {k : Nat} {l : Ln} (h : D[k]? = some l) : secS D (k + 1) = stepS (secS D k) k l := by simp [secS, h]
def rangeN (a b : Nat) : List Nat := (List.range (b - a)).map (a + ·)
theorem rangeN_succ {a b : Nat} (h : a ≤ b) : rangeN a (b + 1) = rangeN a b ++ [b] := by
  unfold rangeN
  rw [show b + 1 - a = (b - a) + 1 by omega, List.range_succ, List.map_append]
  simp
  omega
theorem rangeN_nil (a : Nat) : rangeN a a = [] := by simp [rangeN]
/-- a section put into the table -/
def addS (f : Tb) (s : Sec) : Tb := putT f s.1 ((f s.1).getD [] ++ rangeN (s.2.1 + 1) s.2.2)
def foldS (l : List Sec) : Tb := l.foldl addS (fun _ => none)
theorem foldS_app (l : List Sec) (s : Sec) : foldS (l ++ [s]) = addS (foldS l) s := by simp [foldS, List.foldl_append]
/-- sections behind k lines -/
structure SecW (D : List Ln) (k : Nat) (s : List Sec) (t : Str × Tb) : Prop where
  tab : ∀ n, foldS s n = t.2 n
  last : 1 ≤ k → ∃ r h e, s = r ++ [(t.1, h, e)] ∧ h < e ∧ e ≤ k ∧ ((∃ l, D[k - 1]? = some l ∧ l.isK ≠ 0) → e = k) ∧ (HeadAt D (k - 1) → h = k - 1)
  len : s.length ≤ k
  nums : ∀ x ∈ s, x.2.1 < x.2.2 ∧ x.2.2 ≤ k
  hd : ∀ x ∈ s, HeadAt D x.2.1
  fst : ∀ x, x + 1 < k → HeadAt D x → (∃ l, D[x + 1]? = some l ∧ 2 ≤ l.isK) → ∃ n e, (n, x, e) ∈ s ∧ x + 1 < e
theorem secW {D : List Ln} (wf : WfD D) : ∀ k, k ≤ D.length → SecW D k (secS D k) (tbS D k)
  | 0, _ => { tab := fun n => rfl, last := fun h => absurd h (by decide), len := Nat.le_refl _, nums := fun x h => (nomatch h), hd := fun x h => (nomatch h), fst := fun x h => absurd h (by omega) }
  | k + 1, hk => by
    have ih := secW wf k (by omega)
    have tw := tabW wf k (by omega)
    have e := List.getElem?_eq_getElem (show k < D.length by omega)
    rw [tbS_succ e, secS_succ e]
    have adj : 2 ≤ (D[k]).isK → 1 ≤ k ∧ ∃ l, D[k - 1]? = some l ∧ l.isK ≠ 0 := by
      intro h2
      rcases Nat.eq_zero_or_pos k with z | z
      · subst z
        rw [wf.h0] at e
        have : D[0] = .head "a" := (Option.some.inj e).symm
        rw [this] at h2
        exact absurd (show 2 ≤ 1 from h2) (by decide)
      · refine ⟨z, ?_⟩
        obtain ⟨k', rfl⟩ : ∃ k', k = k' + 1 := ⟨k - 1, by omega⟩
        exact wf.adj k' _ e h2
    generalize D[k] = x at e adj
    generalize tbS D k = s at ih tw ⊢
    generalize secS D k = S at ih ⊢
    obtain ⟨c, f⟩ := s
    obtain ⟨i1, i2, i3, i4, i5, i6⟩ := ih
    have more : 2 ≤ x.isK → stepT (c, f) k x = (c, putT f c ((f c).getD [] ++ [k])) → stepS S k x = (match S.getLast? with
        | some (n, h, _) => S.dropLast ++ [(n, h, k + 1)]
        | none => S) → SecW D (k + 1) (stepS S k x) (stepT (c, f) k x) := by
      intro h2 es eS
      obtain ⟨hk1, adj⟩ := adj h2
      obtain ⟨r, h, e', hS, he, hek, hlast, hhd⟩ := i2 hk1
      have hek' : e' = k := hlast adj
      subst hek'
      rw [es, eS, hS, List.getLast?_concat, List.dropLast_concat]
      show SecW D (e' + 1) (r ++ [(c, h, e' + 1)]) _
      refine ⟨fun n => ?_, fun _ => ⟨r, h, e' + 1, rfl, by omega, by omega, fun _ => rfl, fun hh => ?_⟩, ?_, ?_, ?_, ?_⟩
      · have b := i1
        rw [hS] at b
        have b' : ∀ n, addS (foldS r) (c, h, e') n = f n := fun n => by rw [← foldS_app]; exact b n
        rw [foldS_app]
        show putT (foldS r) c ((foldS r c).getD [] ++ rangeN (h + 1) (e' + 1)) n = putT f c ((f c).getD [] ++ [e']) n
        have bc' : (f c) = some ((foldS r c).getD [] ++ rangeN (h + 1) e') := (b' c).symm.trans (putT_same _ _ _)
        rw [bc']
        by_cases q : n = c
        · rw [q, putT_same, putT_same, rangeN_succ (by omega)]
          simp
        · rw [putT_ne _ _ q, putT_ne _ _ q]
          have := b' n
          rw [show addS (foldS r) (c, h, e') n = foldS r n from putT_ne _ _ q] at this
          exact this
      · obtain ⟨n, hn⟩ := hh
        rw [show e' + 1 - 1 = e' by omega, e] at hn
        cases hn
        exact absurd (show 2 ≤ 1 from h2) (by decide)
      · rw [hS] at i3
        simp at i3 ⊢
        omega
      · intro y hy
        rcases List.mem_append.mp hy with z | z
        · obtain ⟨z1, z2⟩ := i4 y (by rw [hS]; exact List.mem_append_left _ z)
          exact ⟨z1, by omega⟩
        · rw [List.mem_singleton.mp z]
          exact ⟨by show h < e' + 1; omega, by show e' + 1 ≤ e' + 1; omega⟩
      · intro y hy
        rcases List.mem_append.mp hy with z | z
        · exact i5 y (by rw [hS]; exact List.mem_append_left _ z)
        · rw [List.mem_singleton.mp z]
          exact i5 (c, h, e') (by rw [hS]; exact List.mem_append_right _ List.mem_cons_self)
      · intro y hy hh hl
        by_cases q : y + 1 < e'
        · obtain ⟨n, e2, hm, hlt⟩ := i6 y q hh hl
          rw [hS] at hm
          rcases List.mem_append.mp hm with z | z
          · exact ⟨n, e2, List.mem_append_left _ z, hlt⟩
          · have z' := List.mem_singleton.mp z
            have hg : y = h := congrArg (fun y => y.2.1) z'
            exact ⟨c, e' + 1, List.mem_append_right _ (by rw [hg]; exact List.mem_cons_self), by omega⟩
        · have q2 : e' = y + 1 := by omega
          have : h = y := by
            have := hhd (by rw [q2]; exact hh)
            omega
          exact ⟨c, e' + 1, List.mem_append_right _ (by rw [this]; exact List.mem_cons_self), by omega⟩
    cases x with
    | prose t =>
      have hk1 : 1 ≤ k := by
        rcases Nat.eq_zero_or_pos k with z | z
        · rw [z, wf.h0] at e; cases e
        · exact z
      refine ⟨i1, fun _ => ?_, Nat.le_succ_of_le i3, fun y hy => ?_, i5, fun y hy hh hl => ?_⟩
      · obtain ⟨r, h, e', hS, he, hek, hlast, hhd⟩ := i2 hk1
        refine ⟨r, h, e', hS, he, by omega, ?_, ?_⟩
        · rintro ⟨l, hl, hl2⟩
          rw [show k + 1 - 1 = k by omega, e] at hl
          cases hl
          exact absurd rfl hl2
        · rintro ⟨n, hn⟩
          rw [show k + 1 - 1 = k by omega, e] at hn
          cases hn
      · have := i4 y hy
        exact ⟨this.1, by omega⟩
      · by_cases q : y + 1 < k
        · exact i6 y q hh hl
        · have : y + 1 = k := by omega
          obtain ⟨l, hl1, hl2⟩ := hl
          rw [this, e] at hl1
          cases hl1
          exact absurd (show 2 ≤ 0 from hl2) (by decide)
    | head n0 =>
      show SecW D (k + 1) (S ++ [(n0, k, k + 1)]) (n0, if f n0 = none then putT f n0 [] else f)
      refine ⟨fun n => ?_, fun _ => ⟨S, k, k + 1, rfl, by omega, by omega, fun _ => rfl, fun _ => by omega⟩, by simp; exact i3, fun y hy => ?_, fun y hy => ?_, fun y hy hh hl => ?_⟩
      · rw [foldS_app]
        show putT (foldS S) n0 ((foldS S n0).getD [] ++ rangeN (k + 1) (k + 1)) n = _
        rw [rangeN_nil, List.append_nil, i1 n0]
        show putT (foldS S) n0 ((f n0).getD []) n = (if f n0 = none then putT f n0 [] else f) n
        by_cases q : f n0 = none
        · rw [if_pos q, q]
          by_cases z : n = n0
          · rw [z, putT_same, putT_same]; rfl
          · rw [putT_ne _ _ z, putT_ne _ _ z]; exact i1 n
        · rw [if_neg q]
          by_cases z : n = n0
          · rw [z, putT_same]
            cases w : f n0 with
            | none => exact absurd w q
            | some l => rfl
          · rw [putT_ne _ _ z]; exact i1 n
      · rcases List.mem_append.mp hy with z | z
        · obtain ⟨z1, z2⟩ := i4 y z
          exact ⟨z1, by omega⟩
        · rw [List.mem_singleton.mp z]
          exact ⟨by show k < k + 1; omega, Nat.le_refl _⟩
      · rcases List.mem_append.mp hy with z | z
        · exact i5 y z
        · rw [List.mem_singleton.mp z]
          exact ⟨n0, e⟩
      · by_cases q : y + 1 < k
        · obtain ⟨n, e2, hm, hlt⟩ := i6 y q hh hl
          exact ⟨n, e2, List.mem_append_left _ hm, hlt⟩
        · have : y + 1 = k := by omega
          obtain ⟨l, hl1, hl2⟩ := hl
          rw [this, e] at hl1
          cases hl1
          exact absurd (show 2 ≤ 1 from hl2) (by decide)
    | use i n => exact more (by show 2 ≤ 2; decide) rfl rfl
    | code t => exact more (by show 2 ≤ 3; decide) rfl rfl
/-- the first lines of sections -/
def firstL (D : List Ln) : List Nat := ((secs D).filter fun s => decide (s.2.1 + 1 < s.2.2)).map fun s => s.2.1 + 1
theorem first_iff {D : List Ln} (wf : WfD D) {x : Nat} (hx : ∃ l, D[x + 1]? = some l ∧ 2 ≤ l.isK) : x + 1 ∈ firstL D ↔ HeadAt D x := by
  have W := secW wf D.length (Nat.le_refl _)
  unfold firstL
  rw [List.mem_map]
  constructor
  · rintro ⟨s, hs, he⟩
    have hs' := (List.mem_filter.mp hs).1
    have := W.hd s hs'
    rw [show s.2.1 = x by omega] at this
    exact this
  · intro hh
    obtain ⟨l, hl, h2⟩ := hx
    have hlt : x + 1 < D.length := (List.getElem?_eq_some_iff.mp hl).1
    obtain ⟨n, e, hm, he⟩ := W.fst x hlt hh ⟨l, hl, h2⟩
    exact ⟨(n, x, e), List.mem_filter.mpr ⟨hm, decide_eq_true he⟩, rfl⟩
end K31
set_option maxHeartbeats 2000000
/-! A8: the law's table. -/
namespace K31
open PySem PySem.Spec PyProof.Rows L2
abbrev sTable : Stmt := top 47
theorem scTable : FnScope ["_law_document_here", "_law_table_here", "_law_name", "_law_at"] ["_law_document_here"] (defScope sTable) := ⟨rfl, rfl, rfl, by decide +kernel, rfl, by decide +kernel, by decide +kernel⟩
/-- the table f stands at t -/
structure TabI (H0 H : Hp) (t : Addr) (f : Tb) (k : Nat) : Prop where
  ex : ∃ kvs : List (Key × V), H t = some (.dK kvs) ∧ kvs.length ≤ k ∧ (∀ n l, f n = some l → ∃ a, valV kvs (.inr n) = some (.ref a) ∧ H a = some (.lst (plP l))) ∧ (∀ n, f n = none → valV kvs (.inr n) = none) ∧
    (∀ n m a, valV kvs (.inr n) = some (.ref a) → valV kvs (.inr m) = some (.ref a) → n = m) ∧ (∀ n v, valV kvs (.inr n) = some v → ∃ l, f n = some l) ∧ (∀ n a, valV kvs (.inr n) = some (.ref a) → H0 a = none)
theorem TabI.congr {H0 H : Hp} {t : Addr} {f g : Tb} {k : Nat} (h : TabI H0 H t f k) (e : ∀ n, f n = g n) : TabI H0 H t g k := by
  have : f = g := funext e
  rw [← this]
  exact h
theorem TabI.sm {H0 H H' : Hp} {t : Addr} {f : Tb} {k : Nat} (h : TabI H0 H t f k) (s : Sm H H') : TabI H0 H' t f k := by
  obtain ⟨kvs, e, hl, h1, h2, h3, h4, h5⟩ := h.ex
  exact ⟨kvs, s.dk e, hl, fun n l q => let ⟨a, q1, q2⟩ := h1 n l q; ⟨a, q1, s.lst q2⟩, h2, h3, h4, h5⟩
theorem TabI.mono {H0 H H' : Hp} {t : Addr} {f : Tb} {k : Nat} (h : TabI H0 H t f k) (s : Same H H') : TabI H0 H' t f k := h.sm (Same.sm s)
theorem TabI.le {H0 H : Hp} {t : Addr} {f : Tb} {k j : Nat} (h : TabI H0 H t f k) (s : k ≤ j) : TabI H0 H t f j := by
  obtain ⟨kvs, e, hl, h1⟩ := h.ex
  exact ⟨kvs, e, by omega, h1⟩
/-- f n is there -/
theorem TabI.get {H0 H : Hp} {t : Addr} {f : Tb} {k : Nat} (h : TabI H0 H t f k) {n : Str} {l : List Nat} (e : f n = some l) : ∃ a, DGet H t (.str n) (some (.ref a)) ∧ H a = some (.lst (plP l)) := by
  obtain ⟨kvs, ek, hl, h1, h2, h3, h4, h5⟩ := h.ex
  obtain ⟨a, q1, q2⟩ := h1 n l e
  exact ⟨a, by rw [← q1]; exact DGet.k (k := Sum.inr n) ek, q2⟩
/-- is n in it -/
theorem TabI.in {H0 H : Hp} {t : Addr} {f : Tb} {k : Nat} (h : TabI H0 H t f k) (n : Str) : ∃ o, DGet H t (.str n) o ∧ o.isSome = (f n).isSome := by
  obtain ⟨kvs, ek, hl, h1, h2, h3, h4, h5⟩ := h.ex
  refine ⟨_, DGet.k (k := Sum.inr n) ek, ?_⟩
  cases e : f n with
  | none => rw [h2 n e]; rfl
  | some l =>
    obtain ⟨a, q1, q2⟩ := h1 n l e
    rw [q1]; rfl
theorem TabI.new {H0 H : Hp} {t p : Addr} {f : Tb} {k : Nat} (h : TabI H0 H t f k) (np : H p = none) (n0 : H0 p = none) {n : Str} (e : f n = none) (hk : k < 1000) :
    ∃ H', DPut (upd H p (.lst [])) t (.str n) (.ref p) H' ∧ TabI H0 H' t (putT f n []) (k + 1) ∧ (∀ b o, b ≠ t → H b = some o → H' b = some o) := by
  obtain ⟨kvs, ek, hl, h1, h2, h3, h4, h5⟩ := h.ex
  have ht : t ≠ p := ne_of_none ek np
  have ek' : upd H p (.lst []) t = some (.dK kvs) := by rw [upd_ne ht]; exact ek
  refine ⟨_, DPut.k (k := Sum.inr n) ek' (small1000 (by omega)), ⟨_, upd_same, Nat.le_trans (length_putK _ _ _) (by omega), fun m l q => ?_, fun m q => ?_, fun m m' a q q' => ?_, fun m v q => ?_, fun m a q => ?_⟩, fun b o hb q => ?_⟩
  · by_cases z : m = n
    · subst z
      have : l = [] := (Option.some.inj ((putT_same f m []).symm.trans q)).symm
      subst this
      exact ⟨p, by rw [valV_put, if_pos rfl], by rw [upd_ne (Ne.symm ht), upd_same]; rfl⟩
    · rw [putT_ne _ _ z] at q
      obtain ⟨a, q1, q2⟩ := h1 m l q
      refine ⟨a, by rw [valV_put, if_neg (fun w => z (Sum.inr.inj w))]; exact q1, ?_⟩
      rw [upd_ne (by rintro rfl; rw [ek] at q2; cases q2), upd_ne (ne_of_none q2 np)]
      exact q2
  · by_cases z : m = n
    · subst z
      rw [putT_same] at q
      cases q
    · rw [putT_ne _ _ z] at q
      rw [valV_put, if_neg (fun w => z (Sum.inr.inj w))]
      exact h2 m q
  · have old : ∀ m a, valV kvs (.inr m) = some (.ref a) → a ≠ p := fun m a w => by
      obtain ⟨l, hl'⟩ := h4 m _ w
      obtain ⟨a', w1, w2⟩ := h1 m l hl'
      rw [w1] at w
      cases w
      exact ne_of_none w2 np
    rw [valV_put] at q q'
    by_cases z : m = n
    · rw [if_pos (by rw [z])] at q
      by_cases z' : m' = n
      · rw [z, z']
      · rw [if_neg (fun w => z' (Sum.inr.inj w))] at q'
        cases q
        exact absurd rfl (old _ _ q')
    · rw [if_neg (fun w => z (Sum.inr.inj w))] at q
      by_cases z' : m' = n
      · rw [if_pos (by rw [z'])] at q'
        cases q'
        exact absurd rfl (old _ _ q)
      · rw [if_neg (fun w => z' (Sum.inr.inj w))] at q'
        exact h3 _ _ _ q q'
  · rw [valV_put] at q
    by_cases z : m = n
    · exact ⟨[], by rw [z]; exact putT_same _ _ _⟩
    · rw [if_neg (fun w => z (Sum.inr.inj w))] at q
      rw [putT_ne _ _ z]
      exact h4 m v q
  · rw [valV_put] at q
    by_cases z : m = n
    · rw [if_pos (by rw [z])] at q
      cases q
      exact n0
    · rw [if_neg (fun w => z (Sum.inr.inj w))] at q
      exact h5 m a q
  · rw [upd_ne hb, upd_ne (ne_of_none q np)]
    exact q
theorem TabI.app {H0 H : Hp} {t : Addr} {f : Tb} {k : Nat} (h : TabI H0 H t f k) {n : Str} {l : List Nat} (e : f n = some l) : ∃ a, DGet H t (.str n) (some (.ref a)) ∧ H a = some (.lst (plP l)) ∧ a ≠ t ∧ H0 a = none ∧
    ∀ l', TabI H0 (upd H a (.lst (plP l'))) t (putT f n l') k := by
  obtain ⟨kvs, ek, hl, h1, h2, h3, h4, h5⟩ := h.ex
  obtain ⟨a, q1, q2⟩ := h1 n l e
  have ha : a ≠ t := by rintro rfl; rw [ek] at q2; cases q2
  refine ⟨a, by rw [← q1]; exact DGet.k (k := Sum.inr n) ek, q2, ha, h5 n a q1, fun l' => ⟨kvs, by rw [upd_ne (Ne.symm ha)]; exact ek, hl, fun m lm q => ?_, fun m q => ?_, h3, fun m v q => ?_, h5⟩⟩
  · by_cases z : m = n
    · subst z
      have : lm = l' := (Option.some.inj ((putT_same f m l').symm.trans q)).symm
      subst this
      exact ⟨a, q1, upd_same⟩
    · rw [putT_ne _ _ z] at q
      obtain ⟨b, w1, w2⟩ := h1 m lm q
      refine ⟨b, w1, ?_⟩
      rw [upd_ne (by rintro rfl; exact z (h3 _ _ _ w1 q1))]
      exact w2
  · by_cases z : m = n
    · subst z
      rw [putT_same] at q
      cases q
    · rw [putT_ne _ _ z] at q
      exact h2 m q
  · by_cases z : m = n
    · exact ⟨l', by rw [z]; exact putT_same _ _ _⟩
    · rw [putT_ne _ _ z]
      exact h4 m v q
/-- the lists of the table are apart from the rest: what stood before stands -/
theorem lt_index {D : List Ln} {i : Nat} (h : i < D.length) : D[i]? = some D[i] := List.getElem?_eq_getElem h
section
variable {P : Program} {w : World} {K : PySem.W.Frag} {mg : Str → Option Value} {base : Heap}
def spTable (K : PySem.W.Frag) : Sp := fun vs H Q _ => ∃ (d : Addr) (D : List Ln), vs = [.ref d] ∧ IsDoc K H d D ∧ WfD D ∧ D.length ≤ 30 ∧ ∀ (H' : Hp) (t : Addr), Same H H' → TabI H H' t (tbOf D) 30 → Q (.ref t) H'
theorem cal_table (F : At K mg "_law_table" sTable) (mR : mg "range" = none) (mL : mg "len" = none) : Cal P w K mg base CX0 1 "_law_table" ["_law_document_here"] (spTable K) := by
  refine F.cal scTable (fun vs H Q E h => ?_) (fun _ _ _ _ _ _ us hl => match us, hl with | [_], _ => rfl) (fun f cdv A outer s H vs Q E hr h => ?_)
  · obtain ⟨d, D, rfl, _⟩ := h
    rfl
  · obtain ⟨d, D, rfl, hD, wf, hl, q⟩ := h
    refine ⟨_, pss_cons (ps_set (i := 1) scTable.nd rfl (.inl rfl) pe_dnewK)
      <| pss_cons (ps_set (i := 2) scTable.nd rfl (.inl rfl) pe_str)
      <| pss_cons (ps_for PassesOwn.never rfl (pi_range1 (by rfl) mR (pa_cons (pe_callB call_len_seq (by rfl) mL PySem.boot_len (pa_cons (pv 0) pa_nil)) pa_nil)) (pg_name (i := 3) scTable.nd rfl (.inl rfl))
        (pss_one (ps_if (pt_cmpR op_eq (pe_ix ix_tup (pe_ix ix_tup (pv 0) (pv 3) (fun _ _ => rfl)) pe_int (fun _ _ => rfl)) pe_str (nomark _))
          (pss_cons (ps_set (i := 2) scTable.nd rfl (.inl rfl) (pe_ix ix_tup (pe_ix ix_tup (pv 0) (pv 3) (fun _ _ => rfl)) pe_int (fun _ _ => rfl)))
            (pss_one (ps_if (pt_cmp (pc_dnotin (hu_of hr) (pv 2) (pv 1))) (pss_one (ps_dput (hu_of hr) (pv 1) (pv 2) (pe_lst pa_nil) rfl)) pss_nil)))
          (pss_one (ps_if (pt_cmpR op_ne (pe_ix ix_tup (pe_ix ix_tup (pv 0) (pv 3) (fun _ _ => rfl)) pe_int (fun _ _ => rfl)) pe_str (nomark _))
            (pss_one (ps_expr (pe_bm PySem.F.plainAttrs_list PySem.F.slot_list_append PySem.F.type_list_append mt_append (pe_dget (hu_of hr) (pv 1) (pv 2) (fun _ _ => rfl)) (pa_cons (pv 3) pa_nil)))) pss_nil)))))
      <| pss_one (ps_ret (pv 1)), ?_⟩
    refine fun t nt => ?_
    obtain ⟨vs, hvs, hP⟩ := _root_.id hD
    refine ⟨_, rfl, d, vs, rfl, .inr (TT.new nt _ _ hvs), (D.length : Int), by rw [hP.length], by omega, by omega, ?_⟩
    refine for_range (n := D.length) (fun i σ H3 => ∃ (y3 : Option V), σ = [some (.ref d), some (.ref t), some (.str (tbS D i).1), y3] ∧ Same H H3 ∧ TabI H H3 t (tbS D i).2 i ∧ i ≤ D.length) ?_ ?_ ?_
    · exact ⟨none, rfl, Same.new nt, ⟨[], upd_same, Nat.le_refl _, fun n l h => (nomatch h), fun n h => rfl, fun n m a h => (nomatch h), fun n v h => (nomatch h), fun n a h => (nomatch h)⟩, Nat.zero_le _⟩
    · rintro i σ H3 hi ⟨y3, rfl, sm, ht, _⟩
      have e := lt_index hi
      obtain ⟨vs, a, h1, h2, h3⟩ := (hD.mono (TT.of_same sm)).at e
      have ei : (0 : Int) + (i : Int) = (i : Int) := by omega
      have dl : ∀ {Q' : VK}, Q' (.ref a) H3 → rIxT K (.ref d) (.int (0 + (i : Int))) H3 Q' := fun {Q'} q' => ⟨d, vs, _, _, rfl, rfl, h1, (by rw [ei]; exact h2), q'⟩
      have tw := tabW wf i (by omega)
      have ts := tbS_succ e
      refine ⟨_, rfl, _, rfl, dl ?_⟩
      refine ⟨a, _, 0, _, rfl, rfl, h3, atI_nat (j := 0) (lnV_0 _), rfl, _, rfl, ?_⟩
      rw [kind_head]
      show if decide (D[i].isK = 1) = true then _ else _
      refine ite2 (fun hk => ?_) (fun hk => ?_)
      · obtain ⟨nm, en⟩ : ∃ nm, D[i] = .head nm := by
          cases hx : D[i] with
          | head nm => exact ⟨nm, rfl⟩
          | prose t => rw [hx] at hk; exact absurd (show decide (0 = 1) = true from hk) (by decide)
          | use i n => rw [hx] at hk; exact absurd (show decide (2 = 1) = true from hk) (by decide)
          | code t => rw [hx] at hk; exact absurd (show decide (3 = 1) = true from hk) (by decide)
        rw [en] at h3 ts
        refine ⟨_, rfl, _, rfl, dl ⟨a, _, 1, _, rfl, rfl, h3, atI_nat (j := 1) rfl, ?_⟩⟩
        obtain ⟨o, hg, ho⟩ := ht.in nm
        refine ⟨_, rfl, _, rfl, t, _, rfl, hg, _, rfl, ?_⟩
        rw [ho]
        cases hf : (tbS D i).2 nm with
        | none =>
          refine iteT ⟨Nat.zero_le _, fun p np => ⟨_, rfl, _, rfl, ?_⟩⟩
          obtain ⟨H', hput, hT, hold⟩ := ht.new np (sm.free np) hf (by omega)
          refine ⟨t, _, rfl, hput, some (.int (0 + (i : Int))), ?_, ?_, ?_, by omega⟩
          · rw [ts]; rfl
          · exact fun b o hb => hold b o (ne_of_none hb nt) (sm b o hb)
          · rw [ts]
            show TabI H H' t (if (tbS D i).2 nm = none then putT (tbS D i).2 nm [] else (tbS D i).2) (i + 1)
            rw [if_pos hf]
            exact hT
        | some l =>
          refine iteF ⟨some (.int (0 + (i : Int))), ?_, sm, ?_, by omega⟩
          · rw [ts]; rfl
          · rw [ts]
            show TabI H H3 t (if (tbS D i).2 nm = none then putT (tbS D i).2 nm [] else (tbS D i).2) (i + 1)
            rw [if_neg (by rw [hf]; exact fun z => nomatch z)]
            exact ht.le (by omega)
      · refine ⟨_, rfl, _, rfl, dl ⟨a, _, 0, _, rfl, rfl, h3, atI_nat (j := 0) (lnV_0 _), rfl, _, rfl, ?_⟩⟩
        rw [kind_prose]
        show if (!decide (D[i].isK = 0)) = true then _ else _
        by_cases h0 : D[i].isK = 0
        · rw [decide_eq_true h0]
          obtain ⟨tx, en⟩ : ∃ tx, D[i] = .prose tx := by
            cases hx : D[i] with
            | prose tx => exact ⟨tx, rfl⟩
            | head nm => rw [hx] at h0; exact absurd (show 1 = 0 from h0) (by decide)
            | use i n => rw [hx] at h0; exact absurd (show 2 = 0 from h0) (by decide)
            | code t => rw [hx] at h0; exact absurd (show 3 = 0 from h0) (by decide)
          rw [en] at ts
          refine iteF ⟨some (.int (0 + (i : Int))), ?_, sm, ?_, by omega⟩
          · rw [ts]; rfl
          · rw [ts]; exact ht.le (by omega)
        · rw [decide_eq_false h0]
          have ts' : tbS D (i + 1) = ((tbS D i).1, putT (tbS D i).2 (tbS D i).1 (((tbS D i).2 (tbS D i).1).getD [] ++ [i])) := by
            rw [ts]
            cases hx : D[i] with
            | prose tx => rw [hx] at h0; exact absurd rfl h0
            | head nm => rw [hx] at hk; exact absurd (decide_eq_true rfl) hk
            | use i n => rfl
            | code t => rfl
          have hi1 : 1 ≤ i := by
            rcases Nat.eq_zero_or_pos i with z | z
            · subst z
              have := wf.h0
              rw [e] at this
              rw [Option.some.inj this] at hk
              exact absurd (by decide) hk
            · exact z
          obtain ⟨lc, hc⟩ := tw.cur hi1
          obtain ⟨b, g1, g2, g3, g0, g4⟩ := ht.app hc
          refine iteT ⟨_, rfl, _, rfl, t, _, rfl, g1, .inl ⟨rfl, _, SqL.of g2⟩, _, rfl, b, _, _, rfl, rfl, g2, ?_, ?_⟩
          · rw [plP_len]
            have := tw.len _ _ hc
            exact small5' (by omega)
          · refine ⟨some (.int (0 + (i : Int))), ?_, ?_, ?_, by omega⟩
            · rw [ts']; rfl
            · intro b' o hb'
              have : b' ≠ b := ne_of_none hb' g0
              rw [upd_ne this]
              exact sm b' o hb'
            · rw [ts', hc]
              have := g4 (lc ++ [i])
              rw [plP_app] at this
              rw [ei]
              exact this.le (by omega)
    · rintro σ H3 ⟨y3, rfl, sm, ht, _⟩
      exact ⟨_, rfl, q H3 t sm (ht.le (by omega))⟩
end
end K31
set_option maxHeartbeats 2000000
/-! M2: pieces that end: levels, lengths, programs; what the law's walk keeps. -/
namespace K31
open PySem PySem.Spec PyProof.Rows L2
/-- from n on k levels are enough -/
inductive Ok (D : List Ln) (T : Tb) : Nat → Str → Prop
  | mk {k : Nat} {n : Str} {l : List Nat} : T n = some l → (∀ a ∈ l, ∀ i m, D[a]? = some (.use i m) → Ok D T k m) → Ok D T (k + 1) n
section
variable {D : List Ln} {T : Tb}
theorem Ok.mono {k : Nat} {n : Str} (h : Ok D T k n) : ∀ {j}, k ≤ j → Ok D T j n := by
  induction h with
  | mk e _ ih =>
    intro j hj
    obtain ⟨j', rfl⟩ : ∃ j', j = j' + 1 := ⟨j - 1, by omega⟩
    exact .mk e fun a ha i m hm => ih a ha i m hm (by omega)
theorem Ok.tab {k : Nat} {n : Str} (h : Ok D T k n) : ∃ l, T n = some l ∧ 1 ≤ k := by
  cases h with
  | mk e _ => exact ⟨_, e, by omega⟩
theorem Ok.edge {k : Nat} {n : Str} (h : Ok D T k n) {l : List Nat} (e : T n = some l) {a i : Nat} {m : Str} (ha : a ∈ l) (hm : D[a]? = some (.use i m)) : Ok D T (k - 1) m := by
  cases h with
  | mk e' q =>
    rw [e] at e'
    cases e'
    exact q a ha i m hm
/-- by levels -/
def recF {β : Type} (T : Tb) (G : List Nat → (Str → β) → β) (z : β) : Nat → Str → β
  | 0, _ => z
  | k + 1, n => match T n with
    | some l => G l (recF T G z k)
    | none => z
def Cong {β : Type} (D : List Ln) (G : List Nat → (Str → β) → β) : Prop := ∀ l f g, (∀ a ∈ l, ∀ i m, D[a]? = some (.use i m) → f m = g m) → G l f = G l g
theorem recF_stable {β : Type} {G : List Nat → (Str → β) → β} {z : β} (hG : Cong D G) {k : Nat} {n : Str} (h : Ok D T k n) : ∀ {j}, k ≤ j → recF T G z j n = recF T G z k n := by
  induction h with
  | mk e _ ih =>
    intro j hj
    obtain ⟨j', rfl⟩ : ∃ j', j = j' + 1 := ⟨j - 1, by omega⟩
    simp only [recF, e]
    exact hG _ _ _ fun a ha i m hm => ih a ha i m hm (by omega)
theorem recF_unf {β : Type} {G : List Nat → (Str → β) → β} {z : β} (hG : Cong D G) {k : Nat} {n : Str} {l : List Nat} (h : Ok D T k n) (e : T n = some l) : recF T G z k n = G l (recF T G z k) := by
  obtain ⟨_, _, hk⟩ := h.tab
  obtain ⟨k', rfl⟩ : ∃ k', k = k' + 1 := ⟨k - 1, by omega⟩
  conv => lhs; simp only [recF, e]
  refine hG _ _ _ fun a ha i m hm => ?_
  exact (recF_stable hG (h.edge e ha hm) (by omega)).symm
/-- a line's number: 1 a code line, f a reference -/
def itm {β : Type} (D : List Ln) (one : Nat → β) (f : Str → Nat → β) (a : Nat) : β := match D[a]? with
  | some (.use _ m) => f m a
  | _ => one a
theorem itm_use {β : Type} {one : Nat → β} {f : Str → Nat → β} {a i : Nat} {m : Str} (h : D[a]? = some (.use i m)) : itm D one f a = f m a := by simp [itm, h]
theorem itm_not {β : Type} {one : Nat → β} {f : Str → Nat → β} {a : Nat} (h : ∀ i m, D[a]? ≠ some (.use i m)) : itm D one f a = one a := by
  unfold itm
  split
  · rename_i i m e
    exact absurd e (h i m)
  · rfl
theorem itm_congr {β : Type} {one : Nat → β} {f g : Str → Nat → β} {a : Nat} (h : ∀ i m, D[a]? = some (.use i m) → f m a = g m a) : itm D one f a = itm D one g a := by
  unfold itm
  split
  · rename_i i m e
    exact h i m e
  · rfl
theorem map_itm_congr {β : Type} {one : Nat → β} {f g : Str → Nat → β} {l : List Nat} (h : ∀ a ∈ l, ∀ i m, D[a]? = some (.use i m) → f m a = g m a) : l.map (itm D one f) = l.map (itm D one g) :=
  List.map_congr_left fun a ha => itm_congr (h a ha)
/-- ranks -/
def gRk (D : List Ln) (l : List Nat) (f : Str → Nat) : Nat := 1 + (l.map (itm D (fun _ => 0) fun m _ => f m)).foldr max 0
/-- lengths -/
def gLn (D : List Ln) (l : List Nat) (f : Str → Nat) : Nat := (l.map (itm D (fun _ => 1) fun m _ => f m)).sum
/-- how many turns a piece takes -/
def gSz (D : List Ln) (l : List Nat) (f : Str → Nat) : Nat := (l.map (itm D (fun _ => 1) fun m _ => 1 + f m)).sum
/-- its program, behind a path -/
def gPr (D : List Ln) (l : List Nat) (f : Str → List Nat → List PL) : List Nat → List PL := fun p => l.flatMap (itm D (fun a => [(a, p)]) fun m a => f m (p ++ [a]))
theorem cRk : Cong D (gRk D) := fun l f g h => by unfold gRk; rw [map_itm_congr (f := fun m _ => f m) (g := fun m _ => g m) h]
theorem cLn : Cong D (gLn D) := fun l f g h => by unfold gLn; rw [map_itm_congr (f := fun m _ => f m) (g := fun m _ => g m) h]
theorem cSz : Cong D (gSz D) := fun l f g h => by unfold gSz; rw [map_itm_congr (f := fun m _ => 1 + f m) (g := fun m _ => 1 + g m) fun a ha i m hm => by rw [h a ha i m hm]]
theorem cPr : Cong D (gPr D) := fun l f g h => by
  unfold gPr
  funext p
  rw [List.flatMap_def, List.flatMap_def, map_itm_congr (f := fun m a => f m (p ++ [a])) (g := fun m a => g m (p ++ [a])) fun a ha i m hm => by rw [h a ha i m hm]]
end
def rk (D : List Ln) (T : Tb) : Str → Nat := recF T (gRk D) 0 6
def Lf (D : List Ln) (T : Tb) : Str → Nat := recF T (gLn D) 0 6
def Sz (D : List Ln) (T : Tb) : Str → Nat := recF T (gSz D) 0 6
def Pr (D : List Ln) (T : Tb) : Str → List Nat → List PL := recF T (gPr D) (fun _ => []) 6
section
variable {D : List Ln} {T : Tb}
abbrev OK (D : List Ln) (T : Tb) (n : Str) : Prop := Ok D T 6 n
theorem OK.edge {n m : Str} (h : OK D T n) {l : List Nat} (e : T n = some l) {a i : Nat} (ha : a ∈ l) (hm : D[a]? = some (.use i m)) : OK D T m := (Ok.edge h e ha hm).mono (by decide)
theorem foldr_max {l : List Nat} {x : Nat} (h : x ∈ l) : x ≤ l.foldr max 0 := by
  induction l with
  | nil => cases h
  | cons y r ih =>
    rcases List.mem_cons.mp h with z | z
    · rw [z]; exact Nat.le_max_left _ _
    · exact Nat.le_trans (ih z) (Nat.le_max_right _ _)
theorem foldr_le {l : List Nat} {b : Nat} (h : ∀ x ∈ l, x ≤ b) : l.foldr max 0 ≤ b := by
  induction l with
  | nil => exact Nat.zero_le _
  | cons y r ih => exact Nat.max_le.mpr ⟨h y List.mem_cons_self, ih fun x hx => h x (List.mem_cons_of_mem _ hx)⟩
theorem rk_edge {n m : Str} (h : OK D T n) {l : List Nat} (e : T n = some l) {a i : Nat} (ha : a ∈ l) (hm : D[a]? = some (.use i m)) : rk D T m < rk D T n := by
  have u : rk D T n = gRk D l (rk D T) := recF_unf cRk h e
  rw [u]
  have : rk D T m ∈ l.map (itm D (fun _ => 0) fun m _ => rk D T m) := List.mem_map.mpr ⟨a, ha, itm_use hm⟩
  have := foldr_max this
  unfold gRk
  omega
theorem recRk_le : ∀ (k : Nat) (n : Str), recF T (gRk D) 0 k n ≤ k
  | 0, _ => Nat.le_refl _
  | k + 1, n => by
    simp only [recF]
    cases e : T n with
    | none => exact Nat.zero_le _
    | some l =>
      have : (l.map (itm D (fun _ => 0) fun m _ => recF T (gRk D) 0 k m)).foldr max 0 ≤ k := foldr_le fun x hx => by
        obtain ⟨a, _, rfl⟩ := List.mem_map.mp hx
        unfold itm
        split
        · exact recRk_le k _
        · exact Nat.zero_le _
      show 1 + _ ≤ k + 1
      omega
theorem rk_le (n : Str) : rk D T n ≤ 6 := recRk_le 6 n
theorem Lf_unf {n : Str} {l : List Nat} (h : OK D T n) (e : T n = some l) : Lf D T n = (l.map (itm D (fun _ => 1) fun m _ => Lf D T m)).sum := recF_unf cLn h e
theorem Sz_unf {n : Str} {l : List Nat} (h : OK D T n) (e : T n = some l) : Sz D T n = (l.map (itm D (fun _ => 1) fun m _ => 1 + Sz D T m)).sum := recF_unf cSz h e
theorem Pr_unf {n : Str} {l : List Nat} (h : OK D T n) (e : T n = some l) (p : List Nat) : Pr D T n p = l.flatMap (itm D (fun a => [(a, p)]) fun m a => Pr D T m (p ++ [a])) := congrFun (recF_unf cPr h e) p
theorem Pr_len {k : Nat} {n : Str} (h : Ok D T k n) : ∀ {j}, k ≤ j → ∀ p, (recF T (gPr D) (fun _ => []) j n p).length = recF T (gLn D) 0 j n := by
  induction h with
  | mk e _ ih =>
    rename_i k n l _
    intro j hj p
    obtain ⟨j', rfl⟩ : ∃ j', j = j' + 1 := ⟨j - 1, by omega⟩
    simp only [recF, e]
    show (l.flatMap _).length = (l.map _).sum
    rw [List.length_flatMap]
    congr 1
    refine List.map_congr_left fun a ha => ?_
    by_cases q : ∃ i m, D[a]? = some (.use i m)
    · obtain ⟨i, m, hm⟩ := q
      rw [itm_use hm, itm_use hm]
      exact ih a ha i m hm (by omega) _
    · have q' : ∀ i m, D[a]? ≠ some (.use i m) := fun i m hm => q ⟨i, m, hm⟩
      rw [itm_not q', itm_not q']
      rfl
/-- a program line is so -/
def PlOk (D : List Ln) (b : Nat) (x : PL) : Prop := CodeAt D x.1 ∧ (∀ y ∈ x.2, UseAt D y) ∧ x.2.length ≤ b
theorem Pr_ok (hT : ∀ n l, T n = some l → ∀ a ∈ l, ∃ x, D[a]? = some x ∧ 2 ≤ x.isK) {k : Nat} {n : Str} (h : Ok D T k n) : ∀ {j}, k ≤ j → ∀ p b, (∀ y ∈ p, UseAt D y) → p.length + k ≤ b + 1 → ∀ x ∈ recF T (gPr D) (fun _ => []) j n p, PlOk D b x := by
  induction h with
  | mk e hq ih =>
    rename_i k n l
    intro j hj p b hp hb x hx
    obtain ⟨j', rfl⟩ : ∃ j', j = j' + 1 := ⟨j - 1, by omega⟩
    simp only [recF, e] at hx
    obtain ⟨a, ha, hx⟩ := List.mem_flatMap.mp hx
    by_cases q : ∃ i m, D[a]? = some (.use i m)
    · obtain ⟨i, m, hm⟩ := q
      rw [itm_use hm] at hx
      refine ih a ha i m hm (by omega) _ b (fun y hy => ?_) (by simp; omega) x hx
      rcases List.mem_append.mp hy with z | z
      · exact hp y z
      · rw [List.mem_singleton.mp z]; exact ⟨i, m, hm⟩
    · have q' : ∀ i m, D[a]? ≠ some (.use i m) := fun i m hm => q ⟨i, m, hm⟩
      rw [itm_not q'] at hx
      rw [List.mem_singleton.mp hx]
      refine ⟨?_, hp, by show p.length ≤ b; omega⟩
      obtain ⟨y, e1, e2⟩ := hT n l e a ha
      cases y with
      | code t => exact ⟨t, e1⟩
      | use i m => exact absurd e1 (q' i m)
      | prose t => exact absurd (show 2 ≤ 0 from e2) (by decide)
      | head t => exact absurd (show 2 ≤ 1 from e2) (by decide)
theorem nodup_le {α : Type} [DecidableEq α] : ∀ (l t : List α), l.Nodup → (∀ x ∈ l, x ∈ t) → l.length ≤ t.length
  | [], _, _, _ => Nat.zero_le _
  | x :: r, t, hn, hs => by
    have hn' := List.nodup_cons.mp hn
    have hx := hs x List.mem_cons_self
    have := nodup_le r (t.erase x) hn'.2 fun y hy => (List.mem_erase_of_ne (fun e : y = x => hn'.1 (by rw [← e]; exact hy))).mpr (hs y (List.mem_cons_of_mem _ hy))
    rw [List.length_erase_of_mem hx] at this
    have : 0 < t.length := List.length_pos_of_mem hx
    simp
    omega
/-- what the walk keeps: O seen, Pth on the way, c levels done -/
structure WI (D : List Ln) (T : Tb) (O Pth : List Str) (c : Nat) : Prop where
  nd : O.Nodup
  five : ∀ n ∈ O, n ∈ K31.five
  ndP : Pth.Nodup
  sub : ∀ n ∈ Pth, n ∈ O
  cnt : O.length = c + Pth.length
  fin : ∀ n ∈ O, n ∉ Pth → Ok D T c n
theorem WI.five_le {O Pth : List Str} {c : Nat} (h : WI D T O Pth c) : O.length ≤ 5 := nodup_le O K31.five h.nd h.five
/-- a step down -/
theorem WI.down {O Pth : List Str} {c : Nat} {m : Str} (h : WI D T O Pth c) (h5 : m ∈ K31.five) (hm : m ∉ O) : WI D T (O ++ [m]) (Pth ++ [m]) c := by
  refine ⟨?_, fun n hn => ?_, ?_, fun n hn => ?_, ?_, fun n hn hp => ?_⟩
  · exact List.nodup_append.mpr ⟨h.nd, by simp, fun a ha b hb e => hm (by rw [List.mem_singleton.mp hb] at e; exact e ▸ ha)⟩
  · rcases List.mem_append.mp hn with z | z
    · exact h.five n z
    · rw [List.mem_singleton.mp z]; exact h5
  · exact List.nodup_append.mpr ⟨h.ndP, by simp, fun a ha b hb e => hm (by rw [List.mem_singleton.mp hb] at e; exact e ▸ h.sub a ha)⟩
  · rcases List.mem_append.mp hn with z | z
    · exact List.mem_append_left _ (h.sub n z)
    · exact List.mem_append_right _ z
  · simp [h.cnt]
    omega
  · rcases List.mem_append.mp hn with z | z
    · exact h.fin n z fun y => hp (List.mem_append_left _ y)
    · exact absurd (List.mem_append_right _ z) hp
/-- back up, m done -/
theorem WI.up {O Pth : List Str} {c : Nat} {m : Str} {l : List Nat} (h : WI D T O (Pth ++ [m]) c) (e : T m = some l) (hl : ∀ a ∈ l, ∀ i n, D[a]? = some (.use i n) → Ok D T c n) : WI D T O Pth (c + 1) ∧ Ok D T (c + 1) m := by
  have hm : Ok D T (c + 1) m := .mk e hl
  have nd := List.nodup_append.mp h.ndP
  refine ⟨⟨h.nd, h.five, nd.1, fun n hn => h.sub n (List.mem_append_left _ hn), ?_, fun n hn hp => ?_⟩, hm⟩
  · have := h.cnt
    simp at this
    omega
  · by_cases q : n = m
    · rw [q]; exact hm
    · refine (h.fin n hn fun y => ?_).mono (by omega)
      rcases List.mem_append.mp y with z | z
      · exact hp z
      · exact q (List.mem_singleton.mp z)
end
end K31
set_option maxHeartbeats 2000000
/-! A9: the law's walk, its lengths, and whether a document is small. -/
namespace K31
open PySem PySem.Spec PyProof.Rows L2
abbrev sWalk : Stmt := top 48
abbrev sLength : Stmt := top 49
abbrev sIsSmall : Stmt := top 50
abbrev nWalk : List Str := ["_law_document_here", "_law_table_here", "_law_name", "_law_path", "_law_order", "_law_at", "_law_other", "_law_found"]
abbrev pWalk : List Str := ["_law_document_here", "_law_table_here", "_law_name", "_law_path", "_law_order"]
theorem scWalk : FnScope nWalk pWalk (defScope sWalk) := ⟨rfl, rfl, rfl, by decide +kernel, rfl, by decide +kernel, by decide +kernel⟩
abbrev nLength : List Str := ["_law_document_here", "_law_table_here", "_law_name", "_law_known", "_law_total", "_law_at"]
abbrev pLength : List Str := ["_law_document_here", "_law_table_here", "_law_name", "_law_known"]
theorem scLength : FnScope nLength pLength (defScope sLength) := ⟨rfl, rfl, rfl, by decide +kernel, rfl, by decide +kernel, by decide +kernel⟩
abbrev pSmall : List Str := ["_law_document_here", "_law_table_here", "_law_root"]
theorem scSmall : FnScope pSmall pSmall (defScope sIsSmall) := ⟨rfl, rfl, rfl, by decide +kernel, rfl, by decide +kernel, by decide +kernel⟩
/-- all but o stands -/
def But (o : Addr) (H H' : Hp) : Prop := ∀ b ob, b ≠ o → H b = some ob → H' b = some ob
section
variable {o p t : Addr} {H H1 H2 : Hp} {K : PySem.W.Frag}
theorem But.refl : But o H H := fun _ _ _ h => h
theorem But.trans (a : But o H H1) (b : But o H1 H2) : But o H H2 := fun x ob hx e => b x ob hx (a x ob hx e)
theorem But.self {u : HO} : But o H (upd H o u) := fun b ob hb e => by rw [upd_ne hb]; exact e
theorem But.new {u : HO} (h : H p = none) : But o H (upd H p u) := fun b ob _ e => Same.new h b ob e
theorem But.same (h : Same H H1) : But o H H1 := fun b ob _ e => h b ob e
theorem But.tt (h : But o H H1) {l : List V} (ho : H o = some (.lst l)) : TT K H H1 := fun a xs q => by
  rcases q with (q | ⟨ob, q⟩) | q
  · exact .inl (.inl (h _ _ (by rintro rfl; rw [ho] at q; cases q) q))
  · exact .inl (.inr ⟨ob, h _ _ (by rintro rfl; rw [ho] at q; cases q) q⟩)
  · exact .inr q
theorem But.ttD (h : But o H H1) {l : List (Key × V)} (ho : H o = some (.dK l)) : TT K H H1 := fun a xs q => by
  rcases q with (q | ⟨ob, q⟩) | q
  · exact .inl (.inl (h _ _ (by rintro rfl; rw [ho] at q; cases q) q))
  · exact .inl (.inr ⟨ob, h _ _ (by rintro rfl; rw [ho] at q; cases q) q⟩)
  · exact .inr q
theorem But.tab {H0 : Hp} {f : Tb} {k : Nat} (h : But o H H1) (ht : TabI H0 H t f k) (ne : ∀ l, H o ≠ some (.dK l) ∨ o ≠ t) (n2 : ∀ l, H o ≠ some (.lst (plP l))) : TabI H0 H1 t f k := by
  obtain ⟨kvs, e, hl, h1, h2⟩ := ht.ex
  refine ⟨kvs, h _ _ (fun z => ?_) e, hl, fun n l q => ?_, h2⟩
  · rcases ne kvs with y | y
    · exact y (by rw [← z]; exact e)
    · exact y z.symm
  · obtain ⟨a, q1, q2⟩ := h1 n l q
    exact ⟨a, q1, h _ _ (by rintro rfl; exact n2 l q2) q2⟩
end
theorem plP_not {x : Str} {r : List V} : ∀ l, (V.str x :: r) ≠ plP l
  | [], h => by cases h
  | y :: z, h => by
    have : V.str x = V.int (y : Int) := (List.cons.inj h).1
    cases this
theorem inv_strs (x : Str) (l : List Str) : inV (.str x) (strsV l) = decide (x ∈ l) := by
  unfold inV strsV
  induction l with
  | nil => rfl
  | cons y r ih =>
    rw [List.map_cons, List.any_cons, ih]
    show ((y == x) || decide (x ∈ r)) = _
    by_cases h : y = x
    · subst h
      simp
    · have : ¬ x = y := fun e => h e.symm
      simp [h, this]
theorem flat_strs (l : List Str) : (strsV l).all flatV = true := by simp [strsV, flatV]
theorem first_of {x : V} : ∀ {l : List V}, inV x l = true → ∃ (j : Nat) (z : V), l[j]? = some z ∧ eqV z x = true ∧ ∀ (m : Nat) (z' : V), m < j → l[m]? = some z' → eqV z' x = false
  | [], h => by cases h
  | y :: r, h => by
    cases e : eqV y x with
    | true => exact ⟨0, y, rfl, e, fun m z' hm => absurd hm (by omega)⟩
    | false =>
      have h' : inV x r = true := by
        unfold inV at h ⊢
        rw [List.any_cons, e, Bool.false_or] at h
        exact h
      obtain ⟨j, z, h1, h2, h3⟩ := first_of h'
      refine ⟨j + 1, z, by simpa using h1, h2, fun m z' hm hz => ?_⟩
      cases m with
      | zero => have : y = z' := by simpa using hz
                rw [← this]; exact e
      | succ m => exact h3 m z' (by omega) (by simpa using hz)
section
variable {P : Program} {w : World} {K : PySem.W.Frag} {mg : Str → Option Value} {base : Heap}
theorem Cal.never {CX : CXT} {k j : Nat} {x : Str} {ps : List Str} {sp sp' : Sp} (F : Cal P w K mg base CX j x ps sp) (h : ∀ vs H Q E, ¬ sp' vs H Q E) : Cal P w K mg base CX k x ps sp' := by
  obtain ⟨f, fd, F1, m, kp, b⟩ := F.ex
  exact ⟨f, fd, ⟨fun vs H Q E q => (h _ _ _ _ q).elim, fun A outer s H args us vs Q E hr he hb hv q => (h _ _ _ _ q).elim⟩, m, kp, b⟩
theorem At.never {CX : CXT} {k : Nat} {x : Str} {st : Stmt} {ps : List Str} {sp : Sp} (F : At K mg x st)
    (b : ∀ (kV doc pm : Value) (an : Option Addr) (cdv ct : Value) (us : List Value), us.length = ps.length → bindArgs (PySem.W.fnOf x x (defArgs st) (defBody st) (defScope st) .none kV doc pm an cdv ct) ⟨us, []⟩ = pure (ps.zip us))
    (h : ∀ vs H Q E, ¬ sp vs H Q E) : Cal P w K mg base CX k x ps sp := by
  obtain ⟨f, fd, F1, m⟩ := F.ex
  exact Cal.mk0 F1 m ⟨fun vs H Q E q => (h _ _ _ _ q).elim, fun A outer s H args us vs Q E hr he hb hv q => (h _ _ _ _ q).elim⟩ b
/-- the document, its table at t: the walks' world -/
structure Wrl (K : PySem.W.Frag) (H0 H : Hp) (d t : Addr) (D : List Ln) : Prop where
  doc : IsDoc K H d D
  tab : TabI H0 H t (tbOf D) 30
theorem tbW {D : List Ln} (wf : WfD D) : TabW D D.length (tbS D D.length) := tabW wf _ (Nat.le_refl _)
theorem plP_at {l : List Nat} {i : Nat} {x : V} (h : (plP l)[i]? = some x) : ∃ a : Nat, l[i]? = some a ∧ x = .int (a : Int) := by
  rw [plP, List.getElem?_map] at h
  cases e : l[i]? with
  | none => rw [e] at h; cases h
  | some a => rw [e] at h; exact ⟨a, rfl, (Option.some.inj h).symm⟩
def spWalk (K : PySem.W.Frag) (j : Nat) : Sp := fun vs H Q _ => ∃ (d t p o : Addr) (H0 : Hp) (D : List Ln) (n : Str) (O Pth : List Str) (c : Nat) (l : List Nat), vs = [.ref d, .ref t, .str n, .ref p, .ref o] ∧ WfD D ∧ D.length ≤ 30 ∧ Wrl K H0 H d t D ∧
  tbOf D n = some l ∧ H p = some (.lst (strsV Pth)) ∧ H o = some (.lst (strsV O)) ∧ p ≠ o ∧ O ≠ [] ∧ WI D (tbOf D) O Pth c ∧ 6 ≤ O.length + j ∧
  (∀ (H' : Hp) (a : Addr), But o H H' → Q (.ref a) H') ∧
  (∀ (H' : Hp) (O' : List Str) (c' : Nat), But o H H' → H' o = some (.lst (strsV O')) → O.length ≤ O'.length → WI D (tbOf D) O' Pth c' → c ≤ c' → (∀ a ∈ l, ∀ i m, D[a]? = some (.use i m) → Ok D (tbOf D) c' m) → Q .non H')
theorem cal_walk (F : At K mg "_law_walk" sWalk) (mT : mg "tuple" = none) : ∀ j, Cal P w K mg base CX0 (j + 1) "_law_walk" pWalk (spWalk K j)
  | 0 => F.never (fun _ _ _ _ _ _ us hl => match us, hl with | [_, _, _, _, _], _ => rfl) (fun vs H Q E h => by
    obtain ⟨d, t, p, o, H0, D, n, O, Pth, c, l, _, _, _, _, _, _, _, _, _, wi, h6, _⟩ := h
    have := wi.five_le
    omega)
  | j + 1 => by
    have Rec := cal_walk F mT j
    refine F.cal scWalk (fun vs H Q E h => ?_) (fun _ _ _ _ _ _ us hl => match us, hl with | [_, _, _, _, _], _ => rfl) (fun f cdv A outer s H vs Q E hr h => ?_)
    · obtain ⟨d, t, p, o, H0, D, n, O, Pth, c, l, rfl, _⟩ := h
      rfl
    · obtain ⟨d, t, p, o, H0, D, n, O, Pth, c, l, rfl, wf, hD30, W, hl, hp, ho, hpo, hO, wi, h6, qf, qn⟩ := h
      refine ⟨_, pss_cons (ps_for PassesOwn.never rfl (pi_list (pe_dget (hu_of hr) (pv 1) (pv 2) (fun _ _ => rfl))) (pg_name (i := 5) scWalk.nd rfl (.inl rfl))
        (C8.pss_cut (ps_if (pt_cmpR op_ne (pe_ix ix_tup (pe_ix ix_tup (pv 0) (pv 5) (fun _ _ => rfl)) pe_int (fun _ _ => rfl)) pe_str (nomark _)) (pss_one ps_continue) pss_nil)
        <| pss_cons (ps_set (i := 6) scWalk.nd rfl (.inl rfl) (pe_ix ix_tup (pe_ix ix_tup (pv 0) (pv 5) (fun _ _ => rfl)) pe_int (fun _ _ => rfl)))
        <| pss_cons (ps_if (pt_cmp (pc_dnotin (hu_of hr) (pv 6) (pv 1))) (pss_one (ps_ret (pe_tup (pa_cons pe_str (pa_cons (pv 5) (pa_cons (pv 6) pa_nil)))))) pss_nil)
        <| pss_cons (ps_if (pt_cmpR op_in_seq (pv 6) (pv 3) (by rfl)) (pss_one (ps_ret (pe_tup (pa_cons pe_str (pa_cons (pe_callTy call_tuple_of (by rfl) mT (by decide +kernel) (pa_cons
            (pe_slice sl_list (pv 3) (po_some (pe_bm PySem.F.plainAttrs_list PySem.F.slot_list_index PySem.F.type_list_index mt_index (pv 3) (pa_cons (pv 6) pa_nil))) po_none) pa_nil)) pa_nil))))) pss_nil)
        <| pss_one (ps_if (pt_cmpR op_notIn_seq (pv 6) (pv 4) (by rfl))
            (pss_cons (ps_expr (pe_bm PySem.F.plainAttrs_list PySem.F.slot_list_append PySem.F.type_list_append mt_append (pv 4) (pa_cons (pv 6) pa_nil)))
            <| pss_cons (ps_set (i := 7) scWalk.nd rfl (.inl rfl) (pe_cal0 Rec hr (pa_cons (pv 0) (pa_cons (pv 1) (pa_cons (pv 6) (pa_cons (pe_op op_cat (pv 3) (pe_lst (pa_cons (pv 6) pa_nil))) (pa_cons (pv 4) pa_nil)))))))
            <| pss_one (ps_if (pt_cmpR op_notN (pv 7) pe_non (nomark _)) (pss_one (ps_ret (pv 7))) pss_nil)) pss_nil)))
        <| pss_one (ps_ret pe_non), ?_⟩
      obtain ⟨b, hg, hb⟩ := W.tab.get hl
      have ob : b ≠ o := by
        rintro rfl
        rw [ho] at hb
        obtain ⟨x, r, rfl⟩ := List.exists_cons_of_ne_nil hO
        exact plP_not l (HO.lst.inj (Option.some.inj hb))
      refine ⟨_, rfl, _, rfl, t, _, rfl, hg, b, rfl, ⟨_, SqL.of hb⟩, ?_⟩
      have tbw := tbW wf
      refine for_list (xs := plP l) (fun i σ H3 => ∃ (O' : List Str) (c' : Nat) (y5 y6 y7 : Option V), σ = [some (.ref d), some (.ref t), some (.str n), some (.ref p), some (.ref o), y5, y6, y7] ∧ But o H H3 ∧ H3 o = some (.lst (strsV O')) ∧ O.length ≤ O'.length ∧ WI D (tbOf D) O' Pth c' ∧ c ≤ c' ∧
        ∀ a ∈ l.take i, ∀ i m, D[a]? = some (.use i m) → Ok D (tbOf D) c' m) ?_ ?_ ?_ ?_
      · exact ⟨O, c, none, none, none, rfl, But.refl, ho, Nat.le_refl _, wi, Nat.le_refl _, fun a ha => by cases ha⟩
      · rintro i σ H3 hi ⟨O', c', y5, y6, y7, rfl, bt, _⟩
        exact SqL.of (bt _ _ ob hb)
      · rintro i x σ H3 hx ⟨O', c', y5, y6, y7, rfl, bt, ho', hle, wi', hcc, hdone⟩
        obtain ⟨a, ha, rfl⟩ := plP_at hx
        obtain ⟨halt, ln, hln, hk2⟩ := tbw.mem n l hl a (List.mem_of_getElem? ha)
        have hO' : ∀ l', H3 o ≠ some (.lst (plP l')) := fun l' z => by
          rw [ho'] at z
          have : O' ≠ [] := fun e => by subst e; obtain ⟨x, r, rfl⟩ := List.exists_cons_of_ne_nil hO; simp at hle
          obtain ⟨x, r, rfl⟩ := List.exists_cons_of_ne_nil this
          exact plP_not l' (HO.lst.inj (Option.some.inj z))
        have hO0 : ∀ l', H o ≠ some (.lst (plP l')) := fun l' z => by
          rw [ho] at z
          obtain ⟨x, r, rfl⟩ := List.exists_cons_of_ne_nil hO
          exact plP_not l' (HO.lst.inj (Option.some.inj z))
        have W3 : Wrl K H0 H3 d t D := ⟨W.doc.mono (bt.tt ho), bt.tab W.tab (fun l' => .inl (by rw [ho]; exact fun z => nomatch z)) hO0⟩
        have hp3 : H3 p = some (.lst (strsV Pth)) := bt _ _ hpo hp
        obtain ⟨vs, u, h1, h2, h3⟩ := W3.doc.at hln
        have dl : ∀ {Q' : VK}, Q' (.ref u) H3 → rIxT K (.ref d) (.int (a : Int)) H3 Q' := fun {Q'} q' => ⟨d, vs, _, _, rfl, rfl, h1, h2, q'⟩
        refine ⟨fun σ' H' => σ' = [some (.ref d), some (.ref t), some (.str n), some (.ref p), some (.ref o), some (.int (a : Int)), y6, y7] ∧ H' = H3 ∧ ∃ i m, ln = .use i m, ?_, ?_⟩
        · refine ⟨_, rfl, _, rfl, dl ⟨u, _, 0, _, rfl, rfl, h3, atI_nat (j := 0) (lnV_0 _), rfl, _, rfl, ?_⟩⟩
          rw [kind_use]
          show if (!decide (ln.isK = 2)) = true then _ else _
          by_cases hu : ln.isK = 2
          · rw [decide_eq_true hu]
            refine iteF ⟨rfl, rfl, ?_⟩
            cases ln with
            | use i m => exact ⟨i, m, rfl⟩
            | prose t => exact absurd (show 0 = 2 from hu) (by decide)
            | head t => exact absurd (show 1 = 2 from hu) (by decide)
            | code t => exact absurd (show 3 = 2 from hu) (by decide)
          · rw [decide_eq_false hu]
            refine iteT ⟨O', c', _, _, _, rfl, bt, ho', hle, wi', hcc, fun a' ha' i' m hm => ?_⟩
            rw [List.take_add_one, ha] at ha'
            rcases List.mem_append.mp ha' with z | z
            · exact hdone a' z i' m hm
            · have : a' = a := by simpa using z
              rw [this, hln] at hm
              cases hm
              exact absurd rfl hu
        rintro σ' H' ⟨rfl, rfl, i0, m, rfl⟩
        have lines : ∀ i'' m', (∃ a' ∈ l.take (i + 1), D[a']? = some (.use i'' m')) → (∃ a' ∈ l.take i, D[a']? = some (.use i'' m')) ∨ m' = m := fun i'' m' ⟨a', ha', hm⟩ => by
          rw [List.take_add_one, ha] at ha'
          rcases List.mem_append.mp ha' with z | z
          · exact .inl ⟨a', z, hm⟩
          · have : a' = a := by simpa using z
            rw [this, hln] at hm
            cases hm
            exact .inr rfl
        refine ⟨_, rfl, _, rfl, dl ⟨u, _, 2, _, rfl, rfl, h3, atI_nat (j := 2) rfl, ?_⟩⟩
        obtain ⟨ov, hg2, ho2⟩ := W3.tab.in m
        refine ⟨_, rfl, _, rfl, t, _, rfl, hg2, _, rfl, ?_⟩
        rw [ho2]
        cases hT : tbOf D m with
        | none =>
          refine iteT ⟨_, rfl, _, rfl, by show 3 ≤ sizeLine; decide, fun q nq => ?_⟩
          exact qf _ q (bt.trans (But.new nq))
        | some lm =>
          refine iteF ?_
          refine ⟨_, rfl, _, rfl, p, _, rfl, .inl (SqL.of hp3), rfl, flat_strs _, _, rfl, ?_⟩
          show if inV (.str m) (strsV Pth) = true then _ else _
          refine ite2 (fun hin => ?_) (fun hin => ?_)
          · obtain ⟨jj, z, e1, e2, e3⟩ := first_of hin
            refine ⟨_, rfl, _, rfl, .inl ⟨rfl, _, SqL.of hp3⟩, _, rfl, p, _, _, jj, z, rfl, rfl, SqL.of hp3, rfl, flat_strs _, e1, e2, e3, (jj : Int), rfl, p, _, rfl, SqL.of hp3, fun q1 nq1 => ?_⟩
            refine ⟨q1, _, rfl, .inl ⟨SqL.of upd_same, fun q2 nq2 => ?_⟩⟩
            refine ⟨by show 2 ≤ sizeLine; decide, fun q3 nq3 => ?_⟩
            exact qf _ q3 (((bt.trans (But.new nq1)).trans (But.new nq2)).trans (But.new nq3))
          · rw [inv_strs] at hin
            have hmP : m ∉ Pth := fun z => hin (decide_eq_true z)
            refine ⟨_, rfl, _, rfl, o, _, rfl, .inl (SqL.of ho'), rfl, flat_strs _, _, rfl, ?_⟩
            show if (!inV (.str m) (strsV O')) = true then _ else _
            rw [inv_strs]
            by_cases hmO : m ∈ O'
            · rw [decide_eq_true hmO]
              refine iteF ⟨O', c', _, _, _, rfl, bt, ho', hle, wi', hcc, fun a' ha' i' m' hm => ?_⟩
              rcases lines i' m' ⟨a', ha', hm⟩ with ⟨a2, y1, y2⟩ | rfl
              · exact hdone a2 y1 _ _ y2
              · exact wi'.fin _ hmO hmP
            · rw [decide_eq_false hmO]
              have hm5 : m ∈ five := tbw.key m lm hT
              have wi2 := wi'.down hm5 hmO
              refine iteT ⟨_, rfl, .inl ⟨rfl, _, SqL.of ho'⟩, _, rfl, o, _, _, rfl, rfl, ho', ?_, ?_⟩
              · rw [strsV_len]; have := wi'.five_le; exact small5' (by omega)
              have e1 : strsV O' ++ [.str m] = strsV (O' ++ [m]) := (strsV_app _ _).symm
              rw [e1]
              -- the call
              refine ⟨_, rfl, _, rfl, _, rfl, _, rfl, _, rfl, by show 1 ≤ sizeLine; decide, fun q1 nq1 => ?_⟩
              have hpo1 : upd (upd H' o (.lst (strsV (O' ++ [m])))) q1 (.lst [.str m]) p = some (.lst (strsV Pth)) := by
                have e : upd H' o (.lst (strsV (O' ++ [m]))) p = some (.lst (strsV Pth)) := by rw [upd_ne hpo]; exact hp3
                rw [upd_ne (ne_of_none e nq1)]
                exact e
              refine ⟨p, q1, _, _, rfl, rfl, hpo1, upd_same, ?_, fun q2 nq2 => ?_⟩
              · rw [strsV_len]
                have := nodup_le Pth five wi'.ndP fun n hn => wi'.five n (wi'.sub n hn)
                have h5 : five.length = 5 := rfl
                exact small5 (by simp; omega)
              refine ⟨_, rfl, ?_⟩
              have nq1' : H' q1 = none := by
                by_cases z : q1 = o
                · rw [z, upd_same] at nq1; cases nq1
                · rw [upd_ne z] at nq1; exact nq1
              have ho4 : upd (upd (upd H' o (.lst (strsV (O' ++ [m])))) q1 (.lst [.str m])) q2 (.lst (strsV Pth ++ [.str m])) o = some (.lst (strsV (O' ++ [m]))) := by
                have e : upd (upd H' o (.lst (strsV (O' ++ [m])))) q1 (.lst [.str m]) o = some (.lst (strsV (O' ++ [m]))) := by
                  rw [upd_ne (by rintro rfl; rw [upd_same] at nq1; cases nq1)]; exact upd_same
                rw [upd_ne (ne_of_none e nq2)]
                exact e
              have bt4 : But o H' (upd (upd (upd H' o (.lst (strsV (O' ++ [m])))) q1 (.lst [.str m])) q2 (.lst (strsV Pth ++ [.str m]))) := (But.self.trans (But.new nq1)).trans (But.new nq2)
              have q2o : q2 ≠ o := by
                rintro rfl
                rw [upd_ne (by rintro rfl; rw [upd_same] at nq1; cases nq1), upd_same] at nq2
                cases nq2
              have W4 := (⟨W3.doc.mono (bt4.tt ho'), bt4.tab W3.tab (fun l' => .inl (by rw [ho']; exact fun z => nomatch z)) hO'⟩ : Wrl K H0 _ d t D)
              generalize hH4 : upd (upd (upd H' o (.lst (strsV (O' ++ [m])))) q1 (.lst [.str m])) q2 (.lst (strsV Pth ++ [.str m])) = H4 at ho4 bt4 W4 ⊢
              have hq2 : H4 q2 = some (.lst (strsV (Pth ++ [m]))) := by rw [← hH4, upd_same, strsV_app]
              refine ⟨d, t, q2, o, H0, D, m, O' ++ [m], Pth ++ [m], c', lm, rfl, wf, hD30, W4, hT, hq2, ho4, q2o, by simp, wi2, by simp; omega, fun H5 a5 b5 => ?_, fun H5 O5 c5 b5 ho5 hle5 wi5 hc5 hdn5 => ?_⟩
              · refine ⟨_, rfl, rfl, _, rfl, iteT ⟨_, rfl, ?_⟩⟩
                exact qf _ a5 ((bt.trans bt4).trans b5)
              · obtain ⟨wi6, ok6⟩ := wi5.up hT hdn5
                refine ⟨_, rfl, rfl, _, rfl, iteF ⟨O5, c5 + 1, _, _, _, rfl, (bt.trans bt4).trans b5, ho5, by simp at hle5; omega, wi6, by omega, fun a' ha' i' m' hm => ?_⟩⟩
                rcases lines i' m' ⟨a', ha', hm⟩ with ⟨a2, y1, y2⟩ | rfl
                · exact (hdone a2 y1 _ _ y2).mono (by omega)
                · exact ok6
      · rintro σ H3 ⟨O', c', y5, y6, y7, rfl, bt, ho', hle, wi', hcc, hdone⟩
        rw [plP_len, List.take_length] at hdone
        exact qn H3 O' c' bt ho' hle wi' hcc hdone
end
end K31
set_option maxHeartbeats 2000000
/-! A10: the law's lengths, and whether a document is small. -/
namespace K31
open PySem PySem.Spec PyProof.Rows L2
/-- a dict from names to whole numbers -/
def knV (L : Str → Nat) (N : List Str) : List (Key × V) := N.map fun n => (Sum.inr n, V.int (L n : Nat))
theorem knV_val (L : Str → Nat) (n : Str) : ∀ N : List Str, valV (knV L N) (Sum.inr n) = if n ∈ N then some (.int (L n : Nat)) else none
  | [] => rfl
  | m :: r => by
    by_cases h : m = n
    · subst h
      rw [if_pos List.mem_cons_self]
      exact valV_pos (p := (Sum.inr m, V.int (L m : Nat))) rfl
    · have e : valV (knV L (m :: r)) (Sum.inr n) = valV (knV L r) (Sum.inr n) := valV_neg (p := (Sum.inr m, V.int (L m : Nat))) fun z => h (Sum.inr.inj z)
      rw [e, knV_val L n r]
      by_cases q : n ∈ r
      · rw [if_pos q, if_pos (List.mem_cons_of_mem _ q)]
      · rw [if_neg q, if_neg fun z => by
          rcases List.mem_cons.mp z with y | y
          · exact h y.symm
          · exact q y]
theorem knV_same (L : Str → Nat) (n : Str) : ∀ N : List Str, ((knV L N).map fun kv => if kv.1 = Sum.inr n then (kv.1, V.int (L n : Nat)) else kv) = knV L N
  | [] => rfl
  | m :: r => by
    have ih := knV_same L n r
    show (if Sum.inr m = Sum.inr n then (Sum.inr m, V.int (L n : Nat)) else (Sum.inr m, V.int (L m : Nat))) :: ((knV L r).map fun kv => if kv.1 = Sum.inr n then (kv.1, V.int (L n : Nat)) else kv) = (Sum.inr m, V.int (L m : Nat)) :: knV L r
    rw [ih]
    by_cases h : m = n
    · subst h; simp
    · rw [if_neg fun z => h (Sum.inr.inj z)]
theorem knV_put (L : Str → Nat) (n : Str) (N : List Str) : putK (knV L N) (Sum.inr n) (.int (L n : Nat)) = if n ∈ N then knV L N else knV L (N ++ [n]) := by
  by_cases h : n ∈ N
  · rw [if_pos h]
    unfold putK
    rw [valV_any, knV_val, if_pos h]
    exact knV_same L n N
  · rw [if_neg h, putK_new _ (by rw [knV_val, if_neg h])]
    simp [knV]
structure KnI (L : Str → Nat) (H : Hp) (k : Addr) (N : List Str) : Prop where
  at_ : H k = some (.dK (knV L N))
  nd : N.Nodup
  sub : ∀ n ∈ N, n ∈ five
section
variable {L : Str → Nat} {H : Hp} {k : Addr} {N : List Str} {n : Str}
theorem KnI.len (h : KnI L H k N) : (knV L N).length ≤ 5 := by
  rw [knV, List.length_map]
  exact nodup_le N five h.nd h.sub
theorem KnI.put (h : KnI L H k N) (h5 : n ∈ five) : ∃ H' N', DPut H k (.str n) (.int (L n : Nat)) H' ∧ But k H H' ∧ KnI L H' k N' ∧ n ∈ N' ∧ (∀ m ∈ N, m ∈ N') ∧ (∀ m ∈ N', m ∈ N ∨ m = n) := by
  refine ⟨_, if n ∈ N then N else N ++ [n], DPut.k (k := Sum.inr n) h.at_ (small1000 (Nat.le_trans h.len (by decide))), But.self, ?_, ?_, ?_, ?_⟩
  · by_cases q : n ∈ N
    · rw [if_pos q]
      refine ⟨by rw [upd_same, knV_put, if_pos q], h.nd, h.sub⟩
    · rw [if_neg q]
      refine ⟨by rw [upd_same, knV_put, if_neg q], List.nodup_append.mpr ⟨h.nd, by simp, fun a ha b hb e => q (by rw [List.mem_singleton.mp hb] at e; exact e ▸ ha)⟩, fun m hm => ?_⟩
      rcases List.mem_append.mp hm with z | z
      · exact h.sub m z
      · rw [List.mem_singleton.mp z]; exact h5
  · by_cases q : n ∈ N
    · rw [if_pos q]; exact q
    · rw [if_neg q]; exact List.mem_append_right _ List.mem_cons_self
  · intro m hm
    by_cases q : n ∈ N
    · rw [if_pos q]; exact hm
    · rw [if_neg q]; exact List.mem_append_left _ hm
  · intro m hm
    by_cases q : n ∈ N
    · rw [if_pos q] at hm; exact .inl hm
    · rw [if_neg q] at hm
      rcases List.mem_append.mp hm with z | z
      · exact .inl z
      · exact .inr (List.mem_singleton.mp z)
theorem KnI.get (h : KnI L H k N) (n : Str) : DGet H k (.str n) (if n ∈ N then some (.int (L n : Nat)) else none) := by
  have := DGet.k (k := Sum.inr n) h.at_
  rw [knV_val] at this
  exact this
theorem KnI.same {H' : Hp} (h : KnI L H k N) (s : Same H H') : KnI L H' k N := ⟨s _ _ h.at_, h.nd, h.sub⟩
end
section
variable {P : Program} {w : World} {K : PySem.W.Frag} {mg : Str → Option Value} {base : Heap}
def spLength (K : PySem.W.Frag) (j : Nat) : Sp := fun vs H Q _ => ∃ (d t k : Addr) (H0 : Hp) (D : List Ln) (n : Str) (N : List Str), vs = [.ref d, .ref t, .str n, .ref k] ∧ WfD D ∧ D.length ≤ 30 ∧ Wrl K H0 H d t D ∧ k ≠ t ∧ KnI (Lf D (tbOf D)) H k N ∧
  OK D (tbOf D) n ∧ Ok D (tbOf D) j n ∧ ∀ (H' : Hp) (N' : List Str), But k H H' → KnI (Lf D (tbOf D)) H' k N' → Q (.int (Lf D (tbOf D) n : Nat)) H'
theorem Wrl.but {H0 H H' : Hp} {d t k : Addr} {D : List Ln} {l : List (Key × V)} (W : Wrl K H0 H d t D) (ho : H k = some (.dK l)) (hk : k ≠ t) (b : But k H H') : Wrl K H0 H' d t D :=
  ⟨W.doc.mono (b.ttD ho), b.tab W.tab (fun l' => .inr hk) (fun l' z => by rw [ho] at z; cases z)⟩
theorem cal_length (F : At K mg "_law_length" sLength) : ∀ j, Cal P w K mg base CX0 (j + 1) "_law_length" pLength (spLength K j)
  | 0 => F.never (fun _ _ _ _ _ _ us hl => match us, hl with | [_, _, _, _], _ => rfl) (fun vs H Q E h => by
    obtain ⟨d, t, k, H0, D, n, N, _, _, _, _, _, _, _, ok, _⟩ := h
    obtain ⟨_, _, z⟩ := ok.tab
    omega)
  | j + 1 => by
    have Rec := cal_length F j
    refine F.cal scLength (fun vs H Q E h => ?_) (fun _ _ _ _ _ _ us hl => match us, hl with | [_, _, _, _], _ => rfl) (fun f cdv A outer s H vs Q E hr h => ?_)
    · obtain ⟨d, t, k, H0, D, n, N, rfl, _⟩ := h
      rfl
    · obtain ⟨d, t, k, H0, D, n, N, rfl, wf, hD30, W, hkt, kn, ok6, okj, q⟩ := h
      refine ⟨_, C8.pss_cut (ps_if (pt_cmp (pc_dnotin (hu_of hr) (pv 2) (pv 3)))
          (pss_cons (ps_set (i := 4) scLength.nd rfl (.inl rfl) pe_int)
          <| pss_cons (ps_for PassesOwn.never rfl (pi_list (pe_dget (hu_of hr) (pv 1) (pv 2) (fun _ _ => rfl))) (pg_name (i := 5) scLength.nd rfl (.inl rfl))
            (pss_one (ps_if (pt_cmpR op_eq (pe_ix ix_tup (pe_ix ix_tup (pv 0) (pv 5) (fun _ _ => rfl)) pe_int (fun _ _ => rfl)) pe_str (nomark _))
              (pss_one (ps_set (i := 4) scLength.nd rfl (.inl rfl) (pe_op op_add (pv 4) pe_int)))
              (pss_one (ps_set (i := 4) scLength.nd rfl (.inl rfl) (pe_op op_add (pv 4) (pe_cal0 Rec hr (pa_cons (pv 0) (pa_cons (pv 1) (pa_cons (pe_ix ix_tup (pe_ix ix_tup (pv 0) (pv 5) (fun _ _ => rfl)) pe_int (fun _ _ => rfl)) (pa_cons (pv 3) pa_nil)))))))))))
          <| pss_one (ps_dput (hu_of hr) (pv 3) (pv 2) (pv 4) rfl)) pss_nil)
        <| pss_one (ps_ret (pe_dget (hu_of hr) (pv 3) (pv 2) (fun _ _ => rfl))), ?_⟩
      obtain ⟨l, hl, _⟩ := ok6.tab
      have tbw := tbW wf
      have h5 : n ∈ five := tbw.key n l hl
      refine ⟨fun σ' H' => ∃ (y4 y5 : Option V) (N' : List Str), σ' = [some (.ref d), some (.ref t), some (.str n), some (.ref k), y4, y5] ∧ But k H H' ∧ KnI (Lf D (tbOf D)) H' k N' ∧ n ∈ N', ?_, ?_⟩
      · refine ⟨_, rfl, _, rfl, k, _, rfl, kn.get n, _, rfl, ?_⟩
        by_cases hin : n ∈ N
        · rw [if_pos hin]
          exact iteF ⟨_, _, N, rfl, But.refl, kn, hin⟩
        · rw [if_neg hin]
          refine iteT ?_
          obtain ⟨b, hg, hb⟩ := W.tab.get hl
          have bk : b ≠ k := by rintro rfl; rw [kn.at_] at hb; cases hb
          refine ⟨_, rfl, _, rfl, t, _, rfl, hg, b, rfl, ⟨_, SqL.of hb⟩, ?_⟩
          refine for_list (xs := plP l) (fun i σ H3 => ∃ (N' : List Str) (y5 : Option V), σ = [some (.ref d), some (.ref t), some (.str n), some (.ref k), some (.int ((((l.take i).map (itm D (fun _ => 1) fun m _ => Lf D (tbOf D) m)).sum : Nat) : Int)), y5] ∧ But k H H3 ∧ KnI (Lf D (tbOf D)) H3 k N') ?_ ?_ ?_ ?_
          · exact ⟨N, none, rfl, But.refl, kn⟩
          · rintro i σ H3 hi ⟨N', y5, rfl, bt, _⟩
            exact SqL.of (bt _ _ bk hb)
          · rintro i x σ H3 hx ⟨N', y5, rfl, bt, kn'⟩
            obtain ⟨a, ha, rfl⟩ := plP_at hx
            have hal := List.mem_of_getElem? ha
            obtain ⟨halt, ln, hln, hk2⟩ := tbw.mem n l hl a hal
            have W3 := W.but kn.at_ hkt bt
            obtain ⟨vs, u, h1, h2, h3⟩ := W3.doc.at hln
            have dl : ∀ {Q' : VK}, Q' (.ref u) H3 → rIxT K (.ref d) (.int (a : Int)) H3 Q' := fun {Q'} q' => ⟨d, vs, _, _, rfl, rfl, h1, h2, q'⟩
            refine ⟨_, rfl, _, rfl, dl ⟨u, _, 0, _, rfl, rfl, h3, atI_nat (j := 0) (lnV_0 _), rfl, _, rfl, ?_⟩⟩
            rw [kind_code]
            show if decide (ln.isK = 3) = true then _ else _
            have sums : ∀ v : Nat, itm D (fun _ => 1) (fun m _ => Lf D (tbOf D) m) a = v → ((((l.take i).map (itm D (fun _ => 1) fun m _ => Lf D (tbOf D) m)).sum : Nat) : Int) + (v : Int) = ((((l.take (i + 1)).map (itm D (fun _ => 1) fun m _ => Lf D (tbOf D) m)).sum : Nat) : Int) := fun v hv => by
              rw [List.take_add_one, ha, List.map_append, List.sum_append]
              simp [hv]
            refine ite2 (fun hc => ?_) (fun hc => ?_)
            · have hnu : itm D (fun _ => 1) (fun m _ => Lf D (tbOf D) m) a = 1 := itm_not fun i m z => by
                rw [hln] at z
                cases z
                exact absurd (show decide (2 = 3) = true from hc) (by decide)
              refine ⟨_, rfl, _, _, rfl, rfl, N', some (.int (a : Int)), ?_, bt, kn'⟩
              rw [← sums 1 hnu]
              rfl
            · obtain ⟨i0, m, rfl⟩ : ∃ i m, ln = .use i m := by
                cases ln with
                | use i m => exact ⟨i, m, rfl⟩
                | prose t => exact absurd (show 2 ≤ 0 from hk2) (by decide)
                | head t => exact absurd (show 2 ≤ 1 from hk2) (by decide)
                | code t => exact absurd (decide_eq_true rfl) hc
              refine ⟨_, rfl, _, rfl, _, rfl, _, rfl, _, rfl, dl ⟨u, _, 2, _, rfl, rfl, h3, atI_nat (j := 2) rfl, _, rfl, ?_⟩⟩
              refine ⟨d, t, k, H0, D, m, N', rfl, wf, hD30, W3, hkt, kn', ok6.edge hl hal hln, okj.edge hl hal hln, fun H4 N4 bt4 kn4 => ?_⟩
              refine ⟨_, _, rfl, rfl, N4, some (.int (a : Int)), ?_, bt.trans bt4, kn4⟩
              rw [← sums _ (itm_use hln)]
              rfl
          · rintro σ H3 ⟨N', y5, rfl, bt, kn'⟩
            rw [plP_len, List.take_length, ← Lf_unf ok6 hl]
            obtain ⟨H4, N4, hput, bt4, kn4, hn4, _⟩ := kn'.put h5
            exact ⟨_, rfl, _, rfl, _, rfl, k, H4, rfl, hput, _, _, N4, rfl, bt.trans bt4, kn4, hn4⟩
      · rintro σ' H' ⟨y4, y5, N', rfl, bt, kn', hin⟩
        refine ⟨_, rfl, _, rfl, k, _, rfl, ?_, q H' N' bt kn'⟩
        have := kn'.get n
        rw [if_pos hin] at this
        exact this
def spSmall (K : PySem.W.Frag) : Sp := fun vs H Q _ => ∃ (d t : Addr) (H0 : Hp) (D : List Ln), vs = [.ref d, .ref t, .str "a"] ∧ WfD D ∧ D.length ≤ 30 ∧ Wrl K H0 H d t D ∧
  (∀ H', Same H H' → Q (.bl false) H') ∧ (∀ H', Same H H' → OK D (tbOf D) "a" → Lf D (tbOf D) "a" ≤ 120 → Q (.bl true) H')
theorem cal_small (F : At K mg "_law_is_small" sIsSmall) (Wk : Cal P w K mg base CX0 6 "_law_walk" pWalk (spWalk K 5)) (Ln : Cal P w K mg base CX0 6 "_law_length" pLength (spLength K 5)) :
    Cal P w K mg base CX0 7 "_law_is_small" pSmall (spSmall K) := by
  refine F.cal scSmall (fun vs H Q E h => ?_) (fun _ _ _ _ _ _ us hl => match us, hl with | [_, _, _], _ => rfl) (fun f cdv A outer s H vs Q E hr h => ?_)
  · obtain ⟨d, t, H0, D, rfl, _⟩ := h
    rfl
  · obtain ⟨d, t, H0, D, rfl, wf, hD30, W, qf, qt⟩ := h
    refine ⟨_, pss_cons (ps_if (PW.pt (pw_or (pt_cmp (pc_dnotin (hu_of hr) (pv 2) (pv 1))) (pw_or1 (pt_cmpR op_notN (pe_cal0 Wk hr (pa_cons (pv 0) (pa_cons (pv 1) (pa_cons (pv 2) (pa_cons (pe_lst (pa_cons (pv 2) pa_nil)) (pa_cons (pe_lst (pa_cons (pv 2) pa_nil)) pa_nil)))))) pe_non (nomark _)))))
        (pss_one (ps_ret pe_bl)) pss_nil)
      <| pss_one (ps_ret (pe_cmpR op_le (pe_cal0 Ln hr (pa_cons (pv 0) (pa_cons (pv 1) (pa_cons (pv 2) (pa_cons pe_dnewK pa_nil))))) pe_int (nomark _))), ?_⟩
    have tbw := tbW wf
    have hlen : 1 ≤ D.length := by
      rcases Nat.eq_zero_or_pos D.length with z | z
      · have := wf.h0
        rw [List.getElem?_eq_none (by omega)] at this
        cases this
      · exact z
    obtain ⟨l, hl⟩ := tbw.root hlen
    obtain ⟨o, hg, ho⟩ := W.tab.in "a"
    refine ⟨_, rfl, _, rfl, t, _, rfl, hg, _, rfl, ?_⟩
    rw [ho, show tbOf D "a" = some l from hl]
    refine iteF ?_
    refine ⟨_, rfl, _, rfl, _, rfl, _, rfl, by show 1 ≤ sizeLine; decide, fun p np => ?_⟩
    refine ⟨_, rfl, by show 1 ≤ sizeLine; decide, fun o2 no2 => ?_⟩
    have s2 : Same H (upd (upd H p (.lst [.str "a"])) o2 (.lst [.str "a"])) := (Same.new np).trans (Same.new no2)
    have po : p ≠ o2 := by rintro rfl; rw [upd_same] at no2; cases no2
    have n0 : H o2 = none := (Same.new (o := .lst [.str "a"]) np).free no2
    have back : ∀ {H' : Hp}, But o2 (upd (upd H p (.lst [.str "a"])) o2 (.lst [.str "a"])) H' → Same H H' := fun b x ob e => b x ob (ne_of_none e n0) (s2 x ob e)
    refine ⟨d, t, p, o2, H0, D, "a", ["a"], ["a"], 0, l, rfl, wf, hD30, ⟨W.doc.mono (TT.of_same s2), W.tab.mono s2⟩, hl, ?_, upd_same, po, by simp, ?_, by show 6 ≤ 1 + 5; decide, fun H' a b => ?_, fun H' O' c' b ho' hle wi hc hd => ?_⟩
    · rw [upd_ne po, upd_same]; rfl
    · exact ⟨by simp, fun n hn => by rw [List.mem_singleton.mp hn]; exact List.mem_cons_self, by simp, fun n hn => hn, rfl, fun n hn h => absurd hn h⟩
    · exact ⟨rfl, _, rfl, iteT (qf H' (back b))⟩
    · refine ⟨rfl, _, rfl, iteF ?_⟩
      have s3 := back b
      have ok : Ok D (tbOf D) 5 "a" := by
        have h5 := wi.five_le
        have hcnt := wi.cnt
        simp at hcnt
        exact (Ok.mk hl hd).mono (by omega)
      refine ⟨_, rfl, _, rfl, _, rfl, fun k nk => ?_⟩
      have W3 : Wrl K H0 (upd H' k (.dK [])) d t D := ⟨(W.doc.mono (TT.of_same s3)).mono (TT.new nk), (W.tab.mono s3).mono (Same.new nk)⟩
      obtain ⟨kvs, et, _⟩ := (W.tab.mono s3).ex
      refine ⟨d, t, k, H0, D, "a", [], rfl, wf, hD30, W3, (ne_of_none et nk).symm, ⟨upd_same, by simp, fun n hn => by cases hn⟩, ok.mono (by decide), ok, fun H4 N4 b4 kn4 => ?_⟩
      have s4 : Same H H4 := fun x ob e => b4 x ob (ne_of_none (s3 x ob e) nk) (Same.new nk x ob (s3 x ob e))
      refine ⟨_, _, rfl, rfl, ?_⟩
      show Q (.bl (decide ((Lf D (tbOf D) "a" : Int) ≤ 120))) H4
      by_cases h120 : (Lf D (tbOf D) "a" : Int) ≤ 120
      · rw [decide_eq_true h120]
        exact qt H4 s4 (ok.mono (by decide)) (by omega)
      · rw [decide_eq_false h120]
        exact qf H4 s4
end
end K31
set_option maxHeartbeats 2000000
/-! P1: sections, first_lines, table_of. -/
namespace K31
open PySem PySem.Spec PyProof.Rows L2
abbrev sSections : Stmt := top 19
abbrev sTableOf : Stmt := top 20
abbrev sFirstLines : Stmt := top 25
theorem scSections : FnScope ["document", "found", "at", "line", "name", "head", "end"] ["document"] (defScope sSections) := ⟨rfl, rfl, rfl, by decide +kernel, rfl, by decide +kernel, by decide +kernel⟩
theorem scTableOf : FnScope ["document", "table", "name", "head", "end"] ["document"] (defScope sTableOf) := ⟨rfl, rfl, rfl, by decide +kernel, rfl, by decide +kernel, by decide +kernel⟩
abbrev nFirst : List Str := ["document", "name", "head", "end"]
theorem scFirstLines : FnScope nFirst ["document"] (defScope sFirstLines) := ⟨rfl, rfl, rfl, by decide +kernel, rfl, by decide +kernel, by decide +kernel⟩
def secV (s : Sec) : List V := [.str s.1, .int (s.2.1 : Nat), .int (s.2.2 : Nat)]
def IsSec (K : PySem.W.Frag) (H : Hp) (v : V) (s : Sec) : Prop := ∃ a, v = .ref a ∧ SqT K H a (secV s)
def IsSecs (K : PySem.W.Frag) (H : Hp) (p : Addr) (S : List Sec) : Prop := ∃ vs, H p = some (.lst vs) ∧ Paired (IsSec K H) vs S
theorem IsSec.mono {K : PySem.W.Frag} {H H1 : Hp} (t : TT K H H1) {v : V} {s : Sec} (h : IsSec K H v s) : IsSec K H1 v s := let ⟨a, e, q⟩ := h; ⟨a, e, t _ _ q⟩
theorem Psnoc {α β : Type} {F : α → β → Prop} {y : β} : ∀ {r : List β} {xs : List α}, Paired F xs (r ++ [y]) → ∃ xs' x, xs = xs' ++ [x] ∧ Paired F xs' r ∧ F x y
  | [], _, .cons z .nil => ⟨[], _, rfl, .nil, z⟩
  | _ :: r, _, .cons z t => by
    obtain ⟨xs', x, e, h1, h2⟩ := Psnoc (r := r) t
    exact ⟨_ :: xs', x, by rw [e]; rfl, .cons z h1, h2⟩
theorem isK_code {l : Ln} (h1 : l.isK ≠ 1) (h0 : l.isK ≠ 0) (S : List Sec) (i : Nat) : stepS S i l = (match S.getLast? with
    | some (n, h, _) => S.dropLast ++ [(n, h, i + 1)]
    | none => S) := by
  cases l with
  | prose t => exact absurd rfl h0
  | head n => exact absurd rfl h1
  | use i n => rfl
  | code t => rfl
theorem isK_2 {l : Ln} (h1 : l.isK ≠ 1) (h0 : l.isK ≠ 0) : 2 ≤ l.isK := by omega
section
variable {P : Program} {w : World} {K : PySem.W.Frag} {mg : Str → Option Value} {base : Heap}
theorem wf_pos {D : List Ln} (wf : WfD D) {i : Nat} {l : Ln} (e : D[i]? = some l) (h : l.isK ≠ 1) : 1 ≤ i := by
  rcases Nat.eq_zero_or_pos i with z | z
  · subst z
    rw [wf.h0] at e
    cases e
    exact absurd rfl h
  · exact z
def spSections (K : PySem.W.Frag) : Sp := fun vs H Q _ => ∃ (d : Addr) (D : List Ln), vs = [.ref d] ∧ IsDoc K H d D ∧ WfD D ∧ D.length ≤ 30 ∧ ∀ (H' : Hp) (p : Addr), Same H H' → H p = none → IsSecs K H' p (secs D) → Q (.ref p) H'
theorem cal_sections (F : At K mg "sections" sSections) (mE : mg "enumerate" = none) : Cal P w K mg base CX0 1 "sections" ["document"] (spSections K) := by
  refine F.cal scSections (fun vs H Q E h => ?_) (fun _ _ _ _ _ _ us hl => match us, hl with | [_], _ => rfl) (fun f cdv A outer s H vs Q E hr h => ?_)
  · obtain ⟨d, D, rfl, _⟩ := h
    rfl
  · obtain ⟨d, D, rfl, hD, wf, hl, q⟩ := h
    refine ⟨_, pss_cons (ps_set (i := 1) scSections.nd rfl (.inl rfl) (pe_lst pa_nil))
      <| pss_cons (ps_for PassesOwn.never rfl (pi_enumT (by rfl) mE (pa_cons (pv 0) pa_nil)) (pg_tup rfl (pgs_cons (pg_name (i := 2) scSections.nd rfl (.inl rfl)) (pgs_cons (pg_name (i := 3) scSections.nd rfl (.inl rfl)) pgs_nil)))
        (pss_one (ps_if (pt_cmpR op_eq (pe_ix ix_tup (pv 3) pe_int (fun _ _ => rfl)) pe_str (nomark _))
          (pss_one (ps_expr (pe_bm PySem.F.plainAttrs_list PySem.F.slot_list_append PySem.F.type_list_append mt_append (pv 1) (pa_cons (pe_tup (pa_cons (pe_ix ix_tup (pv 3) pe_int (fun _ _ => rfl)) (pa_cons (pv 2) (pa_cons (pe_op op_add (pv 2) pe_int) pa_nil)))) pa_nil))))
          (pss_one (ps_if (pt_cmpR op_ne (pe_ix ix_tup (pv 3) pe_int (fun _ _ => rfl)) pe_str (nomark _))
            (pss_cons (ps_asg (pe_ix ix_list (pv 1) (pe_un un_neg pe_int) (fun _ _ => rfl)) (pg_tup (by rfl) (pgs_cons (pg_name (i := 4) scSections.nd rfl (.inl rfl)) (pgs_cons (pg_name (i := 5) scSections.nd rfl (.inl rfl)) (pgs_cons (pg_name (i := 6) scSections.nd rfl (.inl rfl)) pgs_nil)))))
            <| pss_one (ps_asg (pe_tup (pa_cons (pv 4) (pa_cons (pv 5) (pa_cons (pe_op op_add (pv 2) pe_int) pa_nil)))) (pg_sub (pv 1) (pe_un un_neg pe_int) set_list))) pss_nil)))))
      <| pss_one (ps_ret (pv 1)), ?_⟩
    refine ⟨Nat.zero_le _, fun p np => ?_⟩
    obtain ⟨vs, hvs, hP⟩ := _root_.id hD
    refine ⟨_, rfl, d, vs, rfl, TT.new np _ _ hvs, ?_⟩
    refine for_enT (xs := vs) (fun i σ H3 => ∃ (y2 y3 y4 y5 y6 : Option V), σ = [some (.ref d), some (.ref p), y2, y3, y4, y5, y6] ∧ Same H H3 ∧ IsSecs K H3 p (secS D i) ∧ i ≤ D.length) ?_ ?_ ?_ ?_
    · exact ⟨none, none, none, none, none, rfl, Same.new np, ⟨[], upd_same, .nil⟩, Nat.zero_le _⟩
    · rintro i σ H3 hi ⟨y2, y3, y4, y5, y6, rfl, sm, _⟩
      exact TT.of_same sm _ _ hvs
    · rintro i x T σ H3 hx nT ⟨y2, y3, y4, y5, y6, rfl, sm, ⟨ss, hp, hs⟩, hi⟩
      obtain ⟨ln, hln, a, rfl, ha⟩ := Pg1 hP hx
      have hi' : i < D.length := (List.getElem?_eq_some_iff.mp hln).1
      refine ⟨T, _, rfl, SqT.of upd_same, rfl, _, _, rfl, _, _, rfl, rfl, ?_⟩
      have nTp : p ≠ T := ne_of_none hp nT
      have s4 : Same H (upd H3 T (.tup [.int (i : Nat), .ref a])) := sm.trans (Same.new nT)
      have hp4 : upd H3 T (.tup [.int (i : Nat), .ref a]) p = some (.lst ss) := by rw [upd_ne nTp]; exact hp
      have hs4 : Paired (IsSec K (upd H3 T (.tup [.int (i : Nat), .ref a]))) ss (secS D i) := Pmap hs fun _ _ z => z.mono (TT.new nT)
      have ha4 : SqT K (upd H3 T (.tup [.int (i : Nat), .ref a])) a (lnV ln) := TT.of_same s4 _ _ ha
      generalize upd H3 T (.tup [.int (i : Nat), .ref a]) = H4 at s4 hp4 hs4 ha4 ⊢
      have W := secW wf i hi
      have hss : ss.length < sizeLine := by rw [hs4.length]; have := W.len; exact small5' (by omega)
      refine ⟨_, rfl, a, _, 0, _, rfl, rfl, ha4, atI_nat (j := 0) (lnV_0 _), rfl, _, rfl, ?_⟩
      rw [kind_head]
      show if decide (ln.isK = 1) = true then _ else _
      refine ite2 (fun hk => ?_) (fun hk => ?_)
      · obtain ⟨nm, rfl⟩ : ∃ nm, ln = .head nm := by
          cases ln with
          | head nm => exact ⟨nm, rfl⟩
          | prose t => exact absurd (show decide (0 = 1) = true from hk) (by decide)
          | use i n => exact absurd (show decide (2 = 1) = true from hk) (by decide)
          | code t => exact absurd (show decide (3 = 1) = true from hk) (by decide)
        refine ⟨_, rfl, .inl ⟨rfl, _, SqL.of hp4⟩, _, rfl, a, _, 1, _, rfl, rfl, ha4, atI_nat (j := 1) rfl, _, rfl, _, rfl, _, _, rfl, rfl, by show 3 ≤ sizeLine; decide, fun u nu => ?_⟩
        have hpu : upd H4 u (.tup [.str nm, .int (i : Nat), .int ((i : Int) + 1)]) p = some (.lst ss) := by rw [upd_ne (ne_of_none hp4 nu)]; exact hp4
        refine ⟨p, _, _, rfl, rfl, hpu, hss, _, _, _, _, _, rfl, Same.upn (s4.trans (Same.new nu)) np, ?_, by omega⟩
        rw [secS_succ hln]
        have tt : TT K H4 (upd (upd H4 u (.tup [.str nm, .int (i : Nat), .int ((i : Int) + 1)])) p (.lst (ss ++ [.ref u]))) := (TT.new nu).trans (TT.lst hpu)
        refine ⟨_, upd_same, Papp (Pmap hs4 fun _ _ z => z.mono tt) (.cons ⟨u, rfl, ?_⟩ .nil)⟩
        exact TT.lst hpu _ _ (SqT.of upd_same)
      · have h1 : ln.isK ≠ 1 := fun z => hk (decide_eq_true z)
        have hpos := wf_pos wf hln h1
        refine ⟨_, rfl, a, _, 0, _, rfl, rfl, ha4, atI_nat (j := 0) (lnV_0 _), rfl, _, rfl, ?_⟩
        rw [kind_prose]
        show if (!decide (ln.isK = 0)) = true then _ else _
        by_cases h0 : ln.isK = 0
        · rw [decide_eq_true h0]
          refine iteF ⟨some (.int (i : Nat)), some (.ref a), y4, y5, y6, rfl, s4, ?_, by omega⟩
          rw [secS_succ hln]
          obtain ⟨tx, rfl⟩ : ∃ tx, ln = .prose tx := by
            cases ln with
            | prose tx => exact ⟨tx, rfl⟩
            | head nm => exact absurd (show 1 = 0 from h0) (by decide)
            | use i n => exact absurd (show 2 = 0 from h0) (by decide)
            | code t => exact absurd (show 3 = 0 from h0) (by decide)
          exact ⟨ss, hp4, hs4⟩
        · rw [decide_eq_false h0]
          obtain ⟨r, h, e', hS, _⟩ := W.last hpos
          rw [hS] at hs4
          obtain ⟨ss', v, rfl, hr', ⟨b, rfl, hb⟩⟩ := Psnoc hs4
          refine iteT ⟨_, rfl, 1, rfl, p, _, -1, _, rfl, rfl, SqL.of hp4, atI_last _ _, b, _, rfl, hb, rfl, _, _, rfl, _, _, rfl, _, _, rfl, rfl, ?_⟩
          refine ⟨_, rfl, _, rfl, _, rfl, _, _, rfl, rfl, by show 3 ≤ sizeLine; decide, fun u nu => ?_⟩
          have hpu : upd H4 u (.tup [.str (tbS D i).1, .int (h : Nat), .int ((i : Int) + 1)]) p = some (.lst (ss' ++ [.ref b])) := by rw [upd_ne (ne_of_none hp4 nu)]; exact hp4
          have hix : ixN (ss' ++ [V.ref b]).length (-1) = some ss'.length := by
            have hl1 : (ss' ++ [V.ref b]).length = ss'.length + 1 := by simp
            rw [hl1]
            unfold ixN
            rw [if_neg (by decide), if_pos (by omega)]
            congr 1
            omega
          refine ⟨_, rfl, 1, rfl, p, _, -1, ss'.length, rfl, rfl, hpu, hix, ?_⟩
          rw [List.set_append_right _ _ (Nat.le_refl _), Nat.sub_self]
          refine ⟨_, _, _, _, _, rfl, Same.upn (s4.trans (Same.new nu)) np, ?_, by omega⟩
          rw [secS_succ hln, isK_code h1 h0, hS, List.getLast?_concat, List.dropLast_concat]
          have tt : TT K H4 (upd (upd H4 u (.tup [.str (tbS D i).1, .int (h : Nat), .int ((i : Int) + 1)])) p (.lst (ss' ++ [.ref u]))) := (TT.new nu).trans (TT.lst hpu)
          refine ⟨_, upd_same, Papp (Pmap hr' fun _ _ z => z.mono tt) (.cons ⟨u, rfl, ?_⟩ .nil)⟩
          exact TT.lst hpu _ _ (SqT.of upd_same)
    · rintro σ H3 ⟨y2, y3, y4, y5, y6, rfl, sm, hS, hi⟩
      refine ⟨_, rfl, q H3 p sm np ?_⟩
      rw [hP.length] at hS
      exact hS
def spFirstLines (K : PySem.W.Frag) : Sp := fun vs H Q _ => ∃ (d : Addr) (D : List Ln), vs = [.ref d] ∧ IsDoc K H d D ∧ WfD D ∧ D.length ≤ 30 ∧ ∀ (H' : Hp) (p : Addr), Same H H' → H' p = some (.lst (plP (firstL D))) → Q (.ref p) H'
theorem cal_firstLines (F : At K mg "first_lines" sFirstLines) (S : Cal P w K mg base CX0 1 "sections" ["document"] (spSections K)) : Cal P w K mg base CX0 2 "first_lines" ["document"] (spFirstLines K) := by
  refine F.cal scFirstLines (fun vs H Q E h => ?_) (fun _ _ _ _ _ _ us hl => match us, hl with | [_], _ => rfl) (fun f cdv A outer s H vs Q E hr h => ?_)
  · obtain ⟨d, D, rfl, _⟩ := h
    rfl
  · obtain ⟨d, D, rfl, hD, wf, hl, q⟩ := h
    refine ⟨_, pss_one (ps_ret (pe_lc (own := [("name", 1), ("head", 2), ("end", 3)]) (g := gTup K 3 (gCons (gName 1) (gCons (gName 2) (gCons (gName 3) gNil)))) (by rfl) scFirstLines.nd (pi_list (pe_cal0 S hr (pa_cons (pv 0) pa_nil))) (blkOk_by (own := [("name", 1), ("head", 2), ("end", 3)]) (N := nFirst) (sc := defScope sFirstLines) (by decide +kernel))
      (fun _ _ _ _ _ => pg_tup rfl (pgs_cons (pg_name (i := 1) scFirstLines.nd rfl (Or.inl rfl)) (pgs_cons (pg_name (i := 2) scFirstLines.nd rfl (Or.inl rfl)) (pgs_cons (pg_name (i := 3) scFirstLines.nd rfl (Or.inl rfl)) pgs_nil))))
      (fun _ _ _ _ _ => pts_one (pt_cmpR op_gt (pv 3) (pe_op op_add (pv 2) pe_int) (nomark _))) (fun _ _ _ _ _ => pe_op op_add (pv 2) pe_int))), ?_⟩
    refine ⟨_, rfl, d, D, rfl, hD, wf, hl, fun H1 p s1 np hS => ?_⟩
    obtain ⟨vs, hp, hP⟩ := hS
    refine ⟨p, rfl, ⟨_, SqL.of hp⟩, fun L nL => ?_⟩
    have W := secW wf D.length (Nat.le_refl _)
    refine lc_list (xs := vs) (fun i H' => H' = upd H1 L (.lst (plP ((((secs D).take i).filter fun s => decide (s.2.1 + 1 < s.2.2)).map fun s => s.2.1 + 1)))) rfl ?_ ?_ ?_
    · rintro i H' hi rfl
      exact SqL.of (by rw [upd_ne (ne_of_none hp nL)]; exact hp)
    · rintro i x H' hx rfl
      obtain ⟨⟨n, h, e⟩, hsec, a, rfl, ha⟩ := Pg1 hP hx
      have ha' := TT.new (o := .lst (plP ((((secs D).take i).filter fun s => decide (s.2.1 + 1 < s.2.2)).map fun s => s.2.1 + 1))) nL _ _ ha
      have more : (((secs D).take (i + 1)).filter fun s => decide (s.2.1 + 1 < s.2.2)) = (((secs D).take i).filter fun s => decide (s.2.1 + 1 < s.2.2)) ++ if h + 1 < e then [(n, h, e)] else [] := by
        rw [List.take_add_one, hsec, List.filter_append]
        by_cases q : h + 1 < e
        · simp [q]
        · simp [q]
      refine ⟨a, _, rfl, ha', rfl, _, _, rfl, _, _, rfl, _, _, rfl, rfl, rfl, ?_⟩
      refine ⟨_, rfl, _, rfl, _, _, rfl, rfl, _, _, rfl, rfl, _, rfl, ite2 (fun hc => ?_) (fun hc => ?_)⟩
      · have hc' : h + 1 < e := by
          have h3 : (e : Int) > (h : Int) + 1 := of_decide_eq_true hc
          omega
        refine ⟨_, rfl, _, _, rfl, rfl, _, upd_same, ?_, ?_⟩
        · rw [plP_len, List.length_map]
          have := List.length_filter_le (fun s : Sec => decide (s.2.1 + 1 < s.2.2)) ((secs D).take i)
          have h2 : ((secs D).take i).length ≤ (secs D).length := by rw [List.length_take]; exact Nat.min_le_right _ _
          have h3 := W.len
          exact small5' (by unfold secs at *; omega)
        · rw [upd_upd, more, if_pos hc', List.map_append]
          rw [show (plP _ ++ [V.int ((h : Int) + 1)]) = plP (((((secs D).take i).filter fun s => decide (s.2.1 + 1 < s.2.2)).map fun s => s.2.1 + 1) ++ [h + 1]) from by rw [plP_app]; rfl]
          rfl
      · have hc' : ¬ h + 1 < e := fun z => hc (decide_eq_true (show (e : Int) > (h : Int) + 1 by omega))
        rw [more, if_neg hc', List.append_nil]
    · rintro H' rfl
      have : (secs D).take vs.length = secs D := by rw [hP.length]; exact List.take_length
      rw [this]
      exact q _ L (s1.trans (Same.new nL)) upd_same
end
end K31
set_option maxHeartbeats 2000000
/-! P2: table_of. -/
namespace K31
open PySem PySem.Spec PyProof.Rows L2
theorem TabI.new2 {H0 H : Hp} {t p : Addr} {f : Tb} {k : Nat} (h : TabI H0 H t f k) (np : H p = none) (n0 : H0 p = none) {n : Str} (e : f n = none) (hk : k < 1000) :
    ∃ kvs, H t = some (.dK kvs) ∧ valV kvs (.inr n) = none ∧ TabI H0 (upd (upd H p (.lst [])) t (.dK (putK kvs (.inr n) (.ref p)))) t (putT f n []) (k + 1) := by
  obtain ⟨H', hp, hT, _⟩ := h.new np n0 e hk
  obtain ⟨kvs, ek, _, _, h2, _⟩ := h.ex
  have ek' : upd H p (.lst []) t = some (.dK kvs) := by rw [upd_ne (ne_of_none ek np)]; exact ek
  refine ⟨kvs, ek, h2 n e, ?_⟩
  rcases hp with ⟨kvs', k', e1, e2, _, e3⟩ | ⟨kvs', k', b, e1, _⟩
  · rw [ek'] at e1
    cases e1
    have : k' = .inr n := by
      cases k' with
      | inl i => cases e2
      | inr m => cases e2; rfl
    rw [this] at e3
    rw [← e3]
    exact hT
  · rw [ek'] at e1
    cases e1
theorem rg_plP (a b : Nat) : rgV ((a : Int) + 1) (b : Int) = plP (rangeN (a + 1) b) := by
  unfold rgV plP rangeN
  rw [List.map_map, show ((b : Int) - ((a : Int) + 1)).toNat = b - (a + 1) by omega]
  refine List.map_congr_left fun i _ => ?_
  show V.int ((a : Int) + 1 + (i : Int)) = V.int (((a + 1 + i : Nat)) : Int)
  congr 1
theorem plP_append (a b : List Nat) : plP a ++ plP b = plP (a ++ b) := by simp [plP]
theorem foldS_len : ∀ (S : List Sec) (f : Tb) (b : Nat), (∀ x ∈ S, x.2.2 ≤ 30) → (∀ n l, f n = some l → l.length ≤ b) → ∀ n l, S.foldl addS f n = some l → l.length ≤ b + 30 * S.length
  | [], f, b, _, h, n, l, e => by have := h n l e; omega
  | s :: r, f, b, hs, h, n, l, e => by
    have := foldS_len r (addS f s) (b + 30) (fun x hx => hs x (List.mem_cons_of_mem _ hx)) (fun m k hk => ?_) n l e
    · simp only [List.length_cons]; omega
    · by_cases q : m = s.1
      · rw [q] at hk
        have hk' := (putT_same f s.1 _).symm.trans hk
        have h3 : k = (f s.1).getD [] ++ rangeN (s.2.1 + 1) s.2.2 := (Option.some.inj hk').symm
        have h1 : (rangeN (s.2.1 + 1) s.2.2).length ≤ 30 := by
          unfold rangeN
          rw [List.length_map, List.length_range]
          have := hs s List.mem_cons_self
          omega
        have h2 : ((f s.1).getD []).length ≤ b := by
          cases z : f s.1 with
          | none => exact Nat.zero_le _
          | some l' => exact h _ l' z
        rw [h3, List.length_append]
        omega
      · have hk' : f m = some k := by rw [← hk]; exact (putT_ne f _ q).symm
        have := h m k hk'
        omega
section
variable {P : Program} {w : World} {K : PySem.W.Frag} {mg : Str → Option Value} {base : Heap}
theorem cal_tableOf (F : At K mg "table_of" sTableOf) (S : Cal P w K mg base CX0 1 "sections" ["document"] (spSections K)) (mR : mg "range" = none) (mL : mg "list" = none) : Cal P w K mg base CX0 2 "table_of" ["document"] (spTable K) := by
  refine F.cal scTableOf (fun vs H Q E h => ?_) (fun _ _ _ _ _ _ us hl => match us, hl with | [_], _ => rfl) (fun f cdv A outer s H vs Q E hr h => ?_)
  · obtain ⟨d, D, rfl, _⟩ := h
    rfl
  · obtain ⟨d, D, rfl, hD, wf, hl, q⟩ := h
    refine ⟨_, pss_cons (ps_set (i := 1) scTableOf.nd rfl (.inl rfl) pe_dnewK)
      <| pss_cons (ps_for PassesOwn.never rfl (pi_list (pe_cal0 S hr (pa_cons (pv 0) pa_nil))) (pg_tup rfl (pgs_cons (pg_name (i := 2) scTableOf.nd rfl (.inl rfl)) (pgs_cons (pg_name (i := 3) scTableOf.nd rfl (.inl rfl)) (pgs_cons (pg_name (i := 4) scTableOf.nd rfl (.inl rfl)) pgs_nil))))
        (pss_one (ps_expr (pe_bm PySem.F.plainAttrs_list PySem.F.slot_list_extend PySem.F.type_list_extend mt_extend (pe_dsetd (pv 1) (pv 2) (pe_lst pa_nil) ⟨rfl, rfl, rfl, rfl⟩)
          (pa_cons (pe_listRg rfl (by rfl) mL (prg_2 (by rfl) mR (pe_op op_add (pv 3) pe_int) (pv 4))) pa_nil)))))
      <| pss_one (ps_ret (pv 1)), ?_⟩
    refine fun t nt => ?_
    have tt0 := TT.new (K := K) (o := .dK []) nt
    refine ⟨_, rfl, d, D, rfl, hD.mono tt0, wf, hl, fun H1 p s1 np hS => ?_⟩
    obtain ⟨vs, hp, hP⟩ := hS
    have nt1 : H1 t = some (.dK []) := s1 _ _ upd_same
    have W := secW wf D.length (Nat.le_refl _)
    have s01 : Same H H1 := (Same.new nt).trans s1
    have n0p : H p = none := (Same.new (o := .dK []) nt).free np
    refine ⟨p, rfl, ⟨_, SqL.of hp⟩, ?_⟩
    refine for_list (xs := vs) (fun i σ H3 => ∃ (y2 y3 y4 : Option V), σ = [some (.ref d), some (.ref t), y2, y3, y4] ∧ Same H H3 ∧ H3 p = some (.lst vs) ∧ Paired (IsSec K H3) vs (secs D) ∧ TabI H H3 t (foldS ((secs D).take i)) i ∧ (∀ kvs n a, H3 t = some (.dK kvs) → valV kvs (.inr n) = some (.ref a) → a ≠ p) ∧ i ≤ vs.length) ?_ ?_ ?_ ?_
    · exact ⟨none, none, none, rfl, s01, hp, hP, ⟨[], nt1, Nat.le_refl _, fun n l h => (nomatch h), fun n h => rfl, fun n m a h => (nomatch h), fun n v h => (nomatch h), fun n a h => (nomatch h)⟩, (fun kvs n a e1 e2 => by rw [nt1] at e1; cases e1; cases e2), Nat.zero_le _⟩
    · rintro i σ H3 hi ⟨y2, y3, y4, rfl, sm, hp3, _⟩
      exact SqL.of hp3
    · rintro i x σ H3 hx ⟨y2, y3, y4, rfl, sm, hp3, hP3, hT, hne, hi⟩
      obtain ⟨⟨n, h, e⟩, hsec, a, rfl, ha⟩ := Pg1 hP3 hx
      have hi' : i < vs.length := (List.getElem?_eq_some_iff.mp hx).1
      have hnum := W.nums _ (List.mem_of_getElem? hsec)
      have hlt : h < e := hnum.1
      have hle : e ≤ D.length := hnum.2
      have fold : foldS ((secs D).take (i + 1)) = addS (foldS ((secs D).take i)) (n, h, e) := by
        rw [List.take_add_one, hsec]
        exact foldS_app _ _
      have hlen30 : vs.length ≤ 30 := by rw [hP3.length]; have := W.len; unfold secs; omega
      refine ⟨a, _, rfl, ha, rfl, _, _, rfl, _, _, rfl, _, _, rfl, rfl, ?_⟩
      obtain ⟨kvs, ek, hkl, q1, q2, q3, q4, q5⟩ := hT.ex
      have htp : t ≠ p := by rintro rfl; rw [ek] at hp3; cases hp3
      refine ⟨_, rfl, t, rfl, .inl ⟨kvs, .inl ek⟩, _, rfl, Nat.zero_le _, fun b nb => ?_⟩
      have htb : t ≠ b := ne_of_none ek nb
      have ekb : upd H3 b (.lst []) t = some (.dK kvs) := by rw [upd_ne htb]; exact ek
      have hpb : upd H3 b (.lst []) p = some (.lst vs) := by rw [upd_ne (ne_of_none hp3 nb)]; exact hp3
      have bp : b ≠ p := (ne_of_none hp3 nb).symm
      have rg : RgOk ((h : Int) + 1) (e : Int) := RgOk.of_le (by omega) (by omega) (by omega) (by omega)
      -- what is left of a turn, the list of n at c
      have fin : ∀ (H5 : Hp) (c : Addr) (l : List Nat) (f : Tb) (kk : Nat), Same H H5 → H5 p = some (.lst vs) → Paired (IsSec K H5) vs (secs D) → TabI H H5 t f kk → kk ≤ i + 1 → f n = some l → DGet H5 t (.str n) (some (.ref c)) → c ≠ p →
          (∀ kvs n a, H5 t = some (.dK kvs) → valV kvs (.inr n) = some (.ref a) → a ≠ p) → (∀ m, putT f n (l ++ rangeN (h + 1) e) m = foldS ((secs D).take (i + 1)) m) → l.length ≤ 1000 →
          ∀ q6, H5 q6 = none → ∃ l' b' xs zs, (.ref c : V) = .ref l' ∧ [(.ref q6 : V)] = [.ref b'] ∧ upd H5 q6 (.lst (rgV ((h : Int) + 1) (e : Int))) l' = some (.lst xs) ∧ upd H5 q6 (.lst (rgV ((h : Int) + 1) (e : Int))) b' = some (.lst zs) ∧ xs.length + zs.length ≤ sizeLine ∧
            ∃ (y2 y3 y4 : Option V), [some (V.ref d), some (.ref t), some (.str n), some (.int (h : Nat)), some (.int (e : Nat))] = [some (V.ref d), some (.ref t), y2, y3, y4] ∧ Same H (upd (upd H5 q6 (.lst (rgV ((h : Int) + 1) (e : Int)))) l' (.lst (xs ++ zs))) ∧
              upd (upd H5 q6 (.lst (rgV ((h : Int) + 1) (e : Int)))) l' (.lst (xs ++ zs)) p = some (.lst vs) ∧ Paired (IsSec K (upd (upd H5 q6 (.lst (rgV ((h : Int) + 1) (e : Int)))) l' (.lst (xs ++ zs)))) vs (secs D) ∧
              TabI H (upd (upd H5 q6 (.lst (rgV ((h : Int) + 1) (e : Int)))) l' (.lst (xs ++ zs))) t (foldS ((secs D).take (i + 1))) (i + 1) ∧
              (∀ kvs n a, upd (upd H5 q6 (.lst (rgV ((h : Int) + 1) (e : Int)))) l' (.lst (xs ++ zs)) t = some (.dK kvs) → valV kvs (.inr n) = some (.ref a) → a ≠ p) ∧ i + 1 ≤ vs.length := by
        intro H5 c l f kk s5 hp5 hP5 hT5 hkk hfn hg hcp hne5 hf hll q6 nq6
        have hT6 := hT5.mono (Same.new (o := .lst (rgV ((h : Int) + 1) (e : Int))) nq6)
        obtain ⟨c', g1, g2, g3, g0, g4⟩ := hT6.app hfn
        obtain ⟨kv5, e5, _⟩ := hT5.ex
        have hcc : c' = c := by
          have e6 : upd H5 q6 (.lst (rgV ((h : Int) + 1) (e : Int))) t = some (.dK kv5) := by rw [upd_ne (ne_of_none e5 nq6)]; exact e5
          rcases hg with ⟨k1, x1, w1, w2, w3⟩ | ⟨k1, x1, x2, w1, w2, _⟩
          · rcases g1 with ⟨k2, x3, w4, w5, w6⟩ | ⟨k2, x3, x4, w4, w5, _⟩
            · have hx : x1 = x3 := by
                rw [w2] at w5
                cases x1 <;> cases x3 <;> simp [kV] at w5 <;> rw [w5]
              have r1 : k1 = kv5 := by
                rcases w1 with w1 | ⟨_, w1⟩
                · rw [e5] at w1; cases w1; rfl
                · rw [e5] at w1; cases w1
              have r2 : k2 = kv5 := by
                rcases w4 with w4 | ⟨_, w4⟩
                · rw [e6] at w4; cases w4; rfl
                · rw [e6] at w4; cases w4
              subst hx r1 r2
              rw [← w6] at w3
              cases w3
              rfl
            · cases w5
          · cases w2
        subst hcc
        have hp6 : upd H5 q6 (.lst (rgV ((h : Int) + 1) (e : Int))) p = some (.lst vs) := by rw [upd_ne (ne_of_none hp5 nq6)]; exact hp5
        refine ⟨c', q6, _, _, rfl, rfl, g2, upd_same, ?_, _, _, _, rfl, ?_, ?_, ?_, ?_, ?_, by omega⟩
        · rw [plP_len, rgV_length]; exact small5 (by omega)
        · exact Same.upn (s5.trans (Same.new nq6)) g0
        · rw [upd_ne hcp.symm]; exact hp6
        · exact Pmap hP5 fun _ _ z => z.mono ((TT.new nq6).trans (TT.lst g2))
        · rw [rg_plP, plP_append]
          have := g4 (l ++ rangeN (h + 1) e)
          rw [rg_plP] at this
          exact (this.congr hf).le hkk
        · intro kv n' a' w1 w2
          rw [upd_ne (Ne.symm g3), upd_ne (ne_of_none e5 nq6)] at w1
          exact hne5 kv n' a' w1 w2
      refine ⟨kvs, .inr n, ekb, rfl, small5' (by omega), fun v hv => ?_, fun hv => ?_⟩
      · obtain ⟨l, hl'⟩ := q4 n v hv
        obtain ⟨c, w1, w2⟩ := q1 n l hl'
        rw [hv] at w1
        cases w1
        have s5 : Same H (upd H3 b (.lst [])) := sm.trans (Same.new nb)
        have w2' : upd H3 b (.lst []) c = some (.lst (plP l)) := by rw [upd_ne (ne_of_none w2 nb)]; exact w2
        refine ⟨.inl ⟨rfl, _, SqL.of w2'⟩, _, rfl, _, _, rfl, rfl, _, rfl, _, _, rfl, rfl, rg, fun q6 nq6 => ?_⟩
        refine fin _ c l _ i s5 hpb (Pmap hP3 fun _ _ z => z.mono (TT.new nb)) (hT.mono (Same.new nb)) (by omega) hl' (by rw [← hv]; exact DGet.k (k := Sum.inr n) ekb) (hne kvs n c ek hv) (fun kv n' a' z1 z2 => ?_) (fun m => ?_) ?_ q6 nq6
        · rw [ekb] at z1; cases z1; exact hne kvs n' a' ek z2
        · rw [fold]
          show putT _ n _ m = putT _ n ((foldS ((secs D).take i) n).getD [] ++ rangeN (h + 1) e) m
          rw [hl']
          rfl
        · have hb30 : ∀ x ∈ (secs D).take i, x.2.2 ≤ 30 := fun x hx => by
            have := (W.nums x (List.mem_of_mem_take hx)).2
            omega
          have := foldS_len _ (fun _ => none) 0 hb30 (fun n l h => nomatch h) n l hl'
          have h2 : ((secs D).take i).length ≤ 30 := by rw [List.length_take, ← hP3.length]; omega
          omega
      · have hfn : foldS ((secs D).take i) n = none := by
          cases z : foldS ((secs D).take i) n with
          | none => rfl
          | some l => obtain ⟨c, w1, _⟩ := q1 n l z; rw [hv] at w1; cases w1
        obtain ⟨kvs', ek', hv', hT'⟩ := hT.new2 nb (sm.free nb) hfn (by omega)
        rw [ek] at ek'
        cases ek'
        have hbt : b ≠ t := htb.symm
        have hb5 : upd (upd H3 b (.lst [])) t (.dK (putK kvs (.inr n) (.ref b))) b = some (.lst []) := by rw [upd_ne hbt, upd_same]
        have s5 : Same H (upd (upd H3 b (.lst [])) t (.dK (putK kvs (.inr n) (.ref b)))) := Same.upn (sm.trans (Same.new nb)) nt
        refine ⟨.inl ⟨rfl, _, SqL.of hb5⟩, _, rfl, _, _, rfl, rfl, _, rfl, _, _, rfl, rfl, rg, fun q6 nq6 => ?_⟩
        refine fin _ b [] _ (i + 1) s5 (by rw [upd_ne htp.symm]; exact hpb) (Pmap hP3 fun _ _ z => z.mono ((TT.new nb).trans (TT.dk ekb))) hT' (Nat.le_refl _) (putT_same _ _ _) ?_ bp (fun kv n' a' z1 z2 => ?_) (fun m => ?_) (Nat.zero_le _) q6 nq6
        · have := DGet.k (k := Sum.inr n) (show upd (upd H3 b (.lst [])) t (.dK (putK kvs (.inr n) (.ref b))) t = some (.dK (putK kvs (.inr n) (.ref b))) from upd_same)
          rw [valV_put, if_pos rfl] at this
          exact this
        · rw [upd_same] at z1
          cases z1
          rw [valV_put] at z2
          by_cases w : n' = n
          · rw [if_pos (by rw [w])] at z2
            cases z2
            exact bp
          · rw [if_neg (fun y => w (Sum.inr.inj y))] at z2
            exact hne kvs n' a' ek z2
        · rw [fold]
          show putT (putT _ n []) n _ m = putT _ n ((foldS ((secs D).take i) n).getD [] ++ rangeN (h + 1) e) m
          rw [hfn]
          by_cases w : m = n
          · rw [w, putT_same, putT_same]; rfl
          · rw [putT_ne _ _ w, putT_ne _ _ w, putT_ne _ _ w]
    · rintro σ H3 ⟨y2, y3, y4, rfl, sm, hp3, hP3, hT, hne, hi⟩
      refine ⟨_, rfl, q H3 t sm ?_⟩
      have : (secs D).take vs.length = secs D := by rw [hP3.length]; exact List.take_length
      rw [this] at hT
      exact (hT.congr W.tab).le (by rw [hP3.length]; have := W.len; unfold secs; omega)
end
end K31
set_option maxHeartbeats 2000000
/-! P3: closure. -/
namespace K31
open PySem PySem.Spec PyProof.Rows L2
abbrev sClosure : Stmt := top 22
abbrev nClosure : List Str := ["document", "root", "table", "order", "path", "left", "at", "name"]
theorem scClosure : FnScope nClosure ["document", "root"] (defScope sClosure) := ⟨rfl, rfl, rfl, by decide +kernel, rfl, by decide +kernel, by decide +kernel⟩
/-- a piece on the way: its name, where its lines that are left stand, these -/
abbrev Fr := Str × Addr × List Nat
structure ClI (H1 H3 : Hp) (D : List Ln) (o p l : Addr) (O : List Str) (st : List Fr) : Prop where
  same : Same H1 H3
  ho : H3 o = some (.lst (strsV O))
  hp : H3 p = some (.lst (strsV (st.map (·.1))))
  hl : H3 l = some (.lst (st.map fun x => V.ref x.2.1))
  hr : ∀ x ∈ st, H3 x.2.1 = some (.lst (plP x.2.2))
  fo : H1 o = none
  fp : H1 p = none
  fl : H1 l = none
  fr : ∀ x ∈ st, H1 x.2.1 = none
  op : o ≠ p
  ol : o ≠ l
  pl : p ≠ l
  ne : ∀ x ∈ st, x.2.1 ≠ o ∧ x.2.1 ≠ p ∧ x.2.1 ≠ l
  nd : (st.map (·.2.1)).Nodup
  ok : ∀ x ∈ st, OK D (tbOf D) x.1 ∧ ∃ lx, tbOf D x.1 = some lx ∧ ∀ a ∈ x.2.2, a ∈ lx
  rks : st.Pairwise fun x y => rk D (tbOf D) y.1 < rk D (tbOf D) x.1
  ond : O.Nodup
  o5 : ∀ n ∈ O, n ∈ five
  ook : ∀ n ∈ O, OK D (tbOf D) n
/-- how much is left to do -/
def clM (O : List Str) (st : List Fr) : Nat := (5 - O.length) * 40 + (st.map fun x => x.2.2.length).sum + st.length
theorem last_split {α : Type} {l : List α} (h : l ≠ []) : ∃ r x, l = r ++ [x] := ⟨l.dropLast, l.getLast h, (List.dropLast_concat_getLast h).symm⟩
section
variable {H1 H3 : Hp} {D : List Ln} {o p l : Addr} {O : List Str} {st : List Fr}
theorem ClI.len (h : ClI H1 H3 D o p l O st) : O.length ≤ 5 := nodup_le O five h.ond h.o5
/-- the last piece is through -/
theorem ClI.pop {x : Fr} (h : ClI H1 H3 D o p l O (st ++ [x])) : ClI H1 (upd (upd H3 p (.lst (strsV (st.map (·.1))))) l (.lst (st.map fun x => V.ref x.2.1))) D o p l O st := by
  have sub : ∀ y ∈ st, y ∈ st ++ [x] := fun y hy => List.mem_append_left _ hy
  refine ⟨Same.upn (Same.upn h.same h.fp) h.fl, ?_, ?_, upd_same, fun y hy => ?_, h.fo, h.fp, h.fl, fun y hy => h.fr y (sub y hy), h.op, h.ol, h.pl, fun y hy => h.ne y (sub y hy), ?_, fun y hy => h.ok y (sub y hy), (List.pairwise_append.mp h.rks).1, h.ond, h.o5, h.ook⟩
  · rw [upd_ne h.ol, upd_ne h.op]; exact h.ho
  · rw [upd_ne h.pl, upd_same]
  · obtain ⟨_, n2, n3⟩ := h.ne y (sub y hy)
    rw [upd_ne n3, upd_ne n2]
    exact h.hr y (sub y hy)
  · have := h.nd
    rw [List.map_append] at this
    exact (List.nodup_append.mp this).1
/-- one line of the last piece is taken -/
theorem ClI.take {n : Str} {a : Addr} {r0 : Nat} {r : List Nat} (h : ClI H1 H3 D o p l O (st ++ [(n, a, r0 :: r)])) : ClI H1 (upd H3 a (.lst (plP r))) D o p l O (st ++ [(n, a, r)]) := by
  obtain ⟨n1, n2, n3⟩ := h.ne (n, a, r0 :: r) (List.mem_append_right _ List.mem_cons_self)
  have nd := h.nd
  rw [List.map_append] at nd
  have nda := (List.nodup_append.mp nd).2.2
  have hold : ∀ y ∈ st, y.2.1 ≠ a := fun y hy e => nda _ (List.mem_map.mpr ⟨y, hy, rfl⟩) _ List.mem_cons_self e
  have each : ∀ {Pr : Fr → Prop}, (∀ y ∈ st ++ [(n, a, r0 :: r)], Pr y) → (Pr (n, a, r0 :: r) → Pr (n, a, r)) → ∀ y ∈ st ++ [(n, a, r)], Pr y := fun h1 h2 y hy => by
    rcases List.mem_append.mp hy with z | z
    · exact h1 y (List.mem_append_left _ z)
    · rw [List.mem_singleton.mp z]
      exact h2 (h1 _ (List.mem_append_right _ List.mem_cons_self))
  refine ⟨Same.upn h.same (h.fr _ (List.mem_append_right _ List.mem_cons_self)), ?_, ?_, ?_, fun y hy => ?_, h.fo, h.fp, h.fl, each h.fr id, h.op, h.ol, h.pl, each h.ne id, ?_, each h.ok (fun ⟨z1, lx, z2, z3⟩ => ⟨z1, lx, z2, fun b hb => z3 b (List.mem_cons_of_mem _ hb)⟩), ?_, h.ond, h.o5, h.ook⟩
  · rw [upd_ne (Ne.symm n1)]; exact h.ho
  · rw [upd_ne (Ne.symm n2)]; have := h.hp; simpa using this
  · rw [upd_ne (Ne.symm n3)]; have := h.hl; simpa using this
  · rcases List.mem_append.mp hy with z | z
    · rw [upd_ne (hold y z)]; exact h.hr y (List.mem_append_left _ z)
    · rw [List.mem_singleton.mp z]; exact upd_same
  · have := h.nd; simpa using this
  · have := List.pairwise_append.mp h.rks
    refine List.pairwise_append.mpr ⟨this.1, by simp, fun x hx y hy => ?_⟩
    rw [List.mem_singleton.mp hy]
    exact this.2.2 x hx (n, a, r0 :: r) List.mem_cons_self
/-- a new piece -/
theorem ClI.push {m : Str} {q : Addr} {lm : List Nat} (h : ClI H1 H3 D o p l O st) (hm : m ∉ O) (h5 : m ∈ five) (hok : OK D (tbOf D) m) (hT : tbOf D m = some lm) (hrk : ∀ x ∈ st, rk D (tbOf D) m < rk D (tbOf D) x.1)
    (nq : upd (upd H3 o (.lst (strsV (O ++ [m])))) p (.lst (strsV (st.map (·.1) ++ [m]))) q = none) :
    ClI H1 (upd (upd (upd (upd H3 o (.lst (strsV (O ++ [m])))) p (.lst (strsV (st.map (·.1) ++ [m])))) q (.lst (plP lm))) l (.lst ((st.map fun x => V.ref x.2.1) ++ [.ref q]))) D o p l (O ++ [m]) (st ++ [(m, q, lm)]) := by
  have qp : q ≠ p := by rintro rfl; rw [upd_same] at nq; cases nq
  have qo : q ≠ o := by rintro rfl; rw [upd_ne h.op, upd_same] at nq; cases nq
  have nq3 : H3 q = none := by rw [upd_ne qp, upd_ne qo] at nq; exact nq
  have ql : q ≠ l := by rintro rfl; rw [h.hl] at nq3; cases nq3
  have nq1 : H1 q = none := h.same.free nq3
  have qst : ∀ x ∈ st, x.2.1 ≠ q := fun x hx e => by have := h.hr x hx; rw [e, nq3] at this; cases this
  have both : ∀ {Pr : Fr → Prop}, (∀ y ∈ st, Pr y) → Pr (m, q, lm) → ∀ y ∈ st ++ [(m, q, lm)], Pr y := fun h1 h2 y hy => by
    rcases List.mem_append.mp hy with z | z
    · exact h1 y z
    · rw [List.mem_singleton.mp z]; exact h2
  refine ⟨Same.upn (Same.upn (Same.upn (Same.upn h.same h.fo) h.fp) nq1) h.fl, ?_, ?_, ?_, both (fun y hy => ?_) ?_, h.fo, h.fp, h.fl, both h.fr nq1, h.op, h.ol, h.pl, both h.ne ⟨qo, qp, ql⟩, ?_, both h.ok ⟨hok, lm, hT, fun a ha => ha⟩, ?_, ?_, fun n hn => ?_, fun n hn => ?_⟩
  · rw [upd_ne h.ol, upd_ne (Ne.symm qo), upd_ne h.op, upd_same]
  · rw [upd_ne h.pl, upd_ne (Ne.symm qp), upd_same]; simp
  · rw [upd_same]; simp
  · obtain ⟨n1, n2, n3⟩ := h.ne y hy
    rw [upd_ne n3, upd_ne (qst y hy), upd_ne n2, upd_ne n1]
    exact h.hr y hy
  · show upd _ l _ q = _
    rw [upd_ne ql, upd_same]
  · rw [List.map_append]
    exact List.nodup_append.mpr ⟨h.nd, by simp, fun a ha b hb e => by
      obtain ⟨x, hx, rfl⟩ := List.mem_map.mp ha
      have : b = q := List.mem_singleton.mp hb
      exact qst x hx (by rw [← this]; exact e)⟩
  · refine List.pairwise_append.mpr ⟨h.rks, by simp, fun x hx y hy => ?_⟩
    rw [List.mem_singleton.mp hy]
    exact hrk x hx
  · exact List.nodup_append.mpr ⟨h.ond, by simp, fun a ha b hb e => hm (by rw [List.mem_singleton.mp hb] at e; exact e ▸ ha)⟩
  · rcases List.mem_append.mp hn with z | z
    · exact h.o5 n z
    · rw [List.mem_singleton.mp z]; exact h5
  · rcases List.mem_append.mp hn with z | z
    · exact h.ook n z
    · rw [List.mem_singleton.mp z]; exact hok
end
section
variable {P : Program} {w : World} {K : PySem.W.Frag} {mg : Str → Option Value} {base : Heap}
def spClosure (K : PySem.W.Frag) : Sp := fun vs H Q _ => ∃ (d : Addr) (D : List Ln) (n : Str), vs = [.ref d, .str n] ∧ IsDoc K H d D ∧ WfD D ∧ D.length ≤ 30 ∧ OK D (tbOf D) n ∧
  ∀ (H' : Hp) (o : Addr) (O : List Str), Same H H' → H' o = some (.lst (strsV O)) → n ∈ O → (∀ m ∈ O, OK D (tbOf D) m) → O.length ≤ 5 → Q (.ref o) H'
theorem cal_closure (F : At K mg "closure" sClosure) (T : Cal P w K mg base CX0 2 "table_of" ["document"] (spTable K)) (mL : mg "list" = none) : Cal P w K mg base CX0 3 "closure" ["document", "root"] (spClosure K) := by
  refine F.cal scClosure (fun vs H Q E h => ?_) (fun _ _ _ _ _ _ us hl => match us, hl with | [_, _], _ => rfl) (fun f cdv A outer s H vs Q E hr h => ?_)
  · obtain ⟨d, D, n, rfl, _⟩ := h
    rfl
  · obtain ⟨d, D, n, rfl, hD, wf, hl30, okn, q⟩ := h
    refine ⟨_, pss_cons (ps_set (i := 2) scClosure.nd rfl (.inl rfl) (pe_cal0 T hr (pa_cons (pv 0) pa_nil)))
      <| pss_cons (ps_if (pt_cmp (pc_dnotin (hu_of hr) (pv 1) (pv 2))) (pss_one ps_never) pss_nil)
      <| pss_cons (ps_set (i := 3) scClosure.nd rfl (.inl rfl) (pe_lst (pa_cons (pv 1) pa_nil)))
      <| pss_cons (ps_set (i := 4) scClosure.nd rfl (.inl rfl) (pe_lst (pa_cons (pv 1) pa_nil)))
      <| pss_cons (ps_set (i := 5) scClosure.nd rfl (.inl rfl) (pe_lst (pa_cons (pe_callTy call_list_of (by rfl) mL (by decide +kernel) (pa_cons (pe_dget (hu_of hr) (pv 2) (pv 1) (fun _ _ => rfl)) pa_nil)) pa_nil)))
      <| pss_cons (ps_while PassesOwn.never (pt_truth (pv 4) (by intro _; rfl))
          (pss_cons (ps_if (pt_not (pt_truth (pe_ix ix_list (pv 5) (pe_un un_neg pe_int) (fun _ _ => rfl)) (by intro _; rfl)))
              (pss_cons (ps_expr (pe_bm0 PySem.F.plainAttrs_list PySem.F.slot_list_pop PySem.F.type_list_pop mt_pop (pv 4)))
              <| pss_cons (ps_expr (pe_bm0 PySem.F.plainAttrs_list PySem.F.slot_list_pop PySem.F.type_list_pop mt_pop (pv 5)))
              <| pss_one ps_continue) pss_nil)
          <| pss_cons (ps_set (i := 6) scClosure.nd rfl (.inl rfl) (pe_bm PySem.F.plainAttrs_list PySem.F.slot_list_pop PySem.F.type_list_pop mt_popAt (pe_ix ix_list (pv 5) (pe_un un_neg pe_int) (fun _ _ => rfl)) (pa_cons pe_int pa_nil)))
          <| pss_cons (ps_if (pt_cmpR op_ne (pe_ix ix_tup (pe_ix ix_tup (pv 0) (pv 6) (fun _ _ => rfl)) pe_int (fun _ _ => rfl)) pe_str (nomark _)) (pss_one ps_continue) pss_nil)
          <| pss_cons (ps_set (i := 7) scClosure.nd rfl (.inl rfl) (pe_ix ix_tup (pe_ix ix_tup (pv 0) (pv 6) (fun _ _ => rfl)) pe_int (fun _ _ => rfl)))
          <| pss_cons (ps_if (pt_cmp (pc_dnotin (hu_of hr) (pv 7) (pv 2))) (pss_one ps_never) pss_nil)
          <| pss_cons (ps_if (pt_cmpR op_in_seq (pv 7) (pv 4) (by rfl)) (pss_one ps_never) pss_nil)
          <| pss_one (ps_if (pt_cmpR op_notIn_seq (pv 7) (pv 3) (by rfl))
              (pss_cons (ps_expr (pe_bm PySem.F.plainAttrs_list PySem.F.slot_list_append PySem.F.type_list_append mt_append (pv 3) (pa_cons (pv 7) pa_nil)))
              <| pss_cons (ps_expr (pe_bm PySem.F.plainAttrs_list PySem.F.slot_list_append PySem.F.type_list_append mt_append (pv 4) (pa_cons (pv 7) pa_nil)))
              <| pss_one (ps_expr (pe_bm PySem.F.plainAttrs_list PySem.F.slot_list_append PySem.F.type_list_append mt_append (pv 5) (pa_cons (pe_callTy call_list_of (by rfl) mL (by decide +kernel) (pa_cons (pe_dget (hu_of hr) (pv 2) (pv 7) (fun _ _ => rfl)) pa_nil)) pa_nil)))) pss_nil)))
      <| pss_one (ps_ret (pv 3)), ?_⟩
    refine ⟨_, rfl, d, D, rfl, hD, wf, hl30, fun H1 t s1 hT => ?_⟩
    obtain ⟨ln, hln, _⟩ := okn.tab
    have tbw := tbW wf
    obtain ⟨ov, hg, ho⟩ := hT.in n
    refine ⟨_, rfl, _, rfl, t, _, rfl, hg, _, rfl, ?_⟩
    rw [ho, hln]
    refine iteF ⟨_, rfl, by show 1 ≤ sizeLine; decide, fun o no => ⟨_, rfl, by show 1 ≤ sizeLine; decide, fun p np => ?_⟩⟩
    have s2 : Same H1 (upd (upd H1 o (.lst [.str n])) p (.lst [.str n])) := (Same.new no).trans (Same.new np)
    obtain ⟨b, hgb, hb⟩ := (hT.mono s2).get hln
    refine ⟨_, rfl, _, rfl, t, _, rfl, hgb, b, _, rfl, .inl (SqL.of hb), fun a na => ⟨by show 1 ≤ sizeLine; decide, fun l nl => ?_⟩⟩
    have op : o ≠ p := by rintro rfl; rw [upd_same] at np; cases np
    have ao : a ≠ o := by rintro rfl; rw [upd_ne op, upd_same] at na; cases na
    have ap : a ≠ p := by rintro rfl; rw [upd_same] at na; cases na
    have la : l ≠ a := by rintro rfl; rw [upd_same] at nl; cases nl
    have lp : l ≠ p := by rintro rfl; rw [upd_ne (Ne.symm ap), upd_same] at nl; cases nl
    have lo : l ≠ o := by rintro rfl; rw [upd_ne (Ne.symm ao), upd_ne op, upd_same] at nl; cases nl
    have p1 : H1 p = none := by rw [upd_ne op.symm] at np; exact np
    have a1 : H1 a = none := by rw [upd_ne ap, upd_ne ao] at na; exact na
    have l1 : H1 l = none := by rw [upd_ne la, upd_ne lp, upd_ne lo] at nl; exact nl
    have I0 : ClI H1 (upd (upd (upd (upd H1 o (.lst [.str n])) p (.lst [.str n])) a (.lst (plP ln))) l (.lst [.ref a])) D o p l [n] [(n, a, ln)] := by
      refine ⟨(s2.trans (Same.new na)).trans (Same.new nl), ?_, ?_, upd_same, fun x hx => ?_, no, p1, l1, fun x hx => ?_, op, lo.symm, lp.symm, fun x hx => ?_, by simp, fun x hx => ?_, by simp, by simp, fun m hm => ?_, fun m hm => ?_⟩
      · rw [upd_ne lo.symm, upd_ne ao.symm, upd_ne op, upd_same]; rfl
      · rw [upd_ne lp.symm, upd_ne ap.symm, upd_same]; rfl
      · rw [List.mem_singleton.mp hx]
        show upd _ l _ a = _
        rw [upd_ne la.symm, upd_same]
      · rw [List.mem_singleton.mp hx]; exact a1
      · rw [List.mem_singleton.mp hx]; exact ⟨ao, ap, la.symm⟩
      · rw [List.mem_singleton.mp hx]; exact ⟨okn, ln, hln, fun _ h => h⟩
      · rw [List.mem_singleton.mp hm]; exact tbw.key n ln hln
      · rw [List.mem_singleton.mp hm]; exact okn
    refine ⟨fun m σ H3 => ∃ (O : List Str) (st : List Fr) (y6 y7 : Option V), σ = [some (.ref d), some (.str n), some (.ref t), some (.ref o), some (.ref p), some (.ref l), y6, y7] ∧ ClI H1 H3 D o p l O st ∧ n ∈ O ∧ m = clM O st,
      ⟨_, [n], [(n, a, ln)], none, none, rfl, I0, List.mem_cons_self, rfl⟩, ?_⟩
    rintro m σ H3 ⟨O, st, y6, y7, rfl, I, hnO, rfl⟩
    have hTT : TabI H H3 t (tbOf D) 30 := hT.mono I.same
    have hD3 : IsDoc K H3 d D := (hD.mono (TT.of_same s1)).mono (TT.of_same I.same)
    refine ⟨_, rfl, _, .inl ⟨_, SqL.of I.hp, rfl⟩, ?_⟩
    by_cases hst : st = []
    · subst hst
      refine iteF ⟨_, rfl, ?_⟩
      exact q H3 o O (s1.trans I.same) I.ho hnO I.ook I.len
    obtain ⟨st', ⟨nm, a', r⟩, rfl⟩ := last_split hst
    have hnn : (!(strsV ((st' ++ [(nm, a', r)]).map (·.1))).isEmpty) = true := by simp [strsV]
    rw [hnn]
    refine iteT ?_
    have hmem : (nm, a', r) ∈ st' ++ [(nm, a', r)] := List.mem_append_right _ List.mem_cons_self
    have hl3 : H3 l = some (.lst ((st'.map fun x => V.ref x.2.1) ++ [.ref a'])) := by have := I.hl; simpa using this
    have hp3 : H3 p = some (.lst (strsV (st'.map (·.1)) ++ [.str nm])) := by have := I.hp; simpa [strsV] using this
    have ha3 : H3 a' = some (.lst (plP r)) := I.hr _ hmem
    refine ⟨fun σ' H' => ∃ m', m' < clM O (st' ++ [(nm, a', r)]) ∧ ∃ (O : List Str) (st : List Fr) (y6 y7 : Option V), σ' = [some (.ref d), some (.str n), some (.ref t), some (.ref o), some (.ref p), some (.ref l), y6, y7] ∧ ClI H1 H' D o p l O st ∧ n ∈ O ∧ m' = clM O st, fun σ' H' h => h, ?_⟩
    refine ⟨_, rfl, 1, rfl, l, _, -1, _, rfl, rfl, SqL.of hl3, atI_last _ _, _, .inl ⟨_, SqL.of ha3, rfl⟩, ?_⟩
    cases r with
    | nil =>
      refine iteT ⟨_, rfl, .inl ⟨rfl, _, SqL.of I.hp⟩, p, _, .str nm, rfl, rfl, hp3, ?_, ?_⟩
      · simp
      have hl4 : upd H3 p (.lst (strsV (st'.map (·.1)) ++ [V.str nm]).dropLast) l = some (.lst ((st'.map fun x => V.ref x.2.1) ++ [.ref a'])) := by rw [upd_ne I.pl.symm]; exact hl3
      refine ⟨_, rfl, .inl ⟨rfl, _, SqL.of hl4⟩, l, _, .ref a', rfl, rfl, hl4, ?_, ?_⟩
      · simp
      rw [List.dropLast_concat, List.dropLast_concat]
      refine ⟨clM O st', ?_, O, st', y6, y7, rfl, I.pop, hnO, rfl⟩
      unfold clM
      simp <;> omega
    | cons r0 r =>
      refine iteF ?_
      obtain ⟨oknm, lx, hlx, hsub⟩ := I.ok _ hmem
      have hr0 : r0 ∈ lx := hsub r0 List.mem_cons_self
      obtain ⟨_, x0, hx0, hk2⟩ := tbw.mem nm lx hlx r0 hr0
      refine ⟨_, rfl, 1, rfl, l, _, -1, _, rfl, rfl, SqL.of hl3, atI_last _ _, .inl ⟨rfl, _, SqL.of ha3⟩, a', _, 0, 0, .int (r0 : Nat), rfl, rfl, ha3, by decide, by decide, (by rw [seqIndex_of (by decide) (by rw [plP_len, List.length_cons]; omega)]; rfl), rfl, ?_⟩
      have e1 : (plP (r0 :: r)).eraseIdx 0 = plP r := rfl
      rw [e1]
      have I4 := I.take
      have hM : clM O (st' ++ [(nm, a', r)]) < clM O (st' ++ [(nm, a', r0 :: r)]) := by
        unfold clM
        simp <;> omega
      have hD4 : IsDoc K (upd H3 a' (.lst (plP r))) d D := (hD.mono (TT.of_same s1)).mono (TT.of_same I4.same)
      have hT4 : TabI H (upd H3 a' (.lst (plP r))) t (tbOf D) 30 := hT.mono I4.same
      generalize upd H3 a' (.lst (plP r)) = H4 at I4 hD4 hT4 ⊢
      obtain ⟨vs, u, h1, h2, h3⟩ := hD4.at hx0
      have dl : ∀ {Q' : VK}, Q' (.ref u) H4 → rIxT K (.ref d) (.int (r0 : Int)) H4 Q' := fun {Q'} q' => ⟨d, vs, _, _, rfl, rfl, h1, h2, q'⟩
      refine ⟨_, rfl, _, rfl, dl ⟨u, _, 0, _, rfl, rfl, h3, atI_nat (j := 0) (lnV_0 _), rfl, _, rfl, ?_⟩⟩
      rw [kind_use]
      show if (!decide (x0.isK = 2)) = true then _ else _
      by_cases hu : x0.isK = 2
      · rw [decide_eq_true hu]
        refine iteF ?_
        obtain ⟨i0, m, rfl⟩ : ∃ i m, x0 = .use i m := by
          cases x0 with
          | use i m => exact ⟨i, m, rfl⟩
          | prose t => exact absurd (show 0 = 2 from hu) (by decide)
          | head t => exact absurd (show 1 = 2 from hu) (by decide)
          | code t => exact absurd (show 3 = 2 from hu) (by decide)
        refine ⟨_, rfl, _, rfl, dl ⟨u, _, 2, _, rfl, rfl, h3, atI_nat (j := 2) rfl, ?_⟩⟩
        have okm : OK D (tbOf D) m := OK.edge oknm hlx hr0 hx0
        have rkm := rk_edge oknm hlx hr0 hx0
        obtain ⟨lm, hlm, _⟩ := okm.tab
        have h5m : m ∈ five := tbw.key m lm hlm
        obtain ⟨ov2, hg2, ho2⟩ := hT4.in m
        refine ⟨_, rfl, _, rfl, t, _, rfl, hg2, _, rfl, ?_⟩
        rw [ho2, hlm]
        refine iteF ?_
        have rkall : ∀ x ∈ st' ++ [(nm, a', r)], rk D (tbOf D) m < rk D (tbOf D) x.1 := fun x hx => by
          rcases List.mem_append.mp hx with z | z
          · have := (List.pairwise_append.mp I4.rks).2.2 x z (nm, a', r) List.mem_cons_self
            exact Nat.lt_trans rkm this
          · rw [List.mem_singleton.mp z]; exact rkm
        have hmP : m ∉ (st' ++ [(nm, a', r)]).map (·.1) := fun z => by
          obtain ⟨x, hx, e⟩ := List.mem_map.mp z
          have := rkall x hx
          rw [e] at this
          omega
        refine ⟨_, rfl, _, rfl, p, _, rfl, .inl (SqL.of I4.hp), rfl, flat_strs _, _, rfl, ?_⟩
        show if inV (.str m) (strsV ((st' ++ [(nm, a', r)]).map (·.1))) = true then _ else _
        rw [inv_strs, decide_eq_false hmP]
        refine iteF ⟨_, rfl, _, rfl, o, _, rfl, .inl (SqL.of I4.ho), rfl, flat_strs _, _, rfl, ?_⟩
        show if (!inV (.str m) (strsV O)) = true then _ else _
        rw [inv_strs]
        by_cases hmO : m ∈ O
        · rw [decide_eq_true hmO]
          exact iteF ⟨_, hM, O, _, _, _, rfl, I4, hnO, rfl⟩
        · rw [decide_eq_false hmO]
          have hO5 := I4.len
          have hst5 : (st' ++ [(nm, a', r)]).length ≤ 7 := by
            have hnd : ((st' ++ [(nm, a', r)]).map (·.1)).Nodup := by
              have := I4.rks
              rw [List.nodup_iff_pairwise_ne, List.pairwise_map]
              exact this.imp fun {x y} hxy e => by rw [e] at hxy; omega
            have := nodup_le _ five hnd fun x hx => by
              obtain ⟨y, hy, rfl⟩ := List.mem_map.mp hx
              obtain ⟨_, ly, hly, _⟩ := I4.ok y hy
              exact tbw.key _ ly hly
            rw [List.length_map] at this
            exact Nat.le_trans this (by decide)
          refine iteT ⟨_, rfl, .inl ⟨rfl, _, SqL.of I4.ho⟩, _, rfl, o, _, _, rfl, rfl, I4.ho, by rw [strsV_len]; exact small5' (by omega), ?_⟩
          rw [← strsV_app]
          have hp5 : upd H4 o (.lst (strsV (O ++ [m]))) p = some (.lst (strsV ((st' ++ [(nm, a', r)]).map (·.1)))) := by rw [upd_ne I4.op.symm]; exact I4.hp
          refine ⟨_, rfl, .inl ⟨rfl, _, SqL.of hp5⟩, _, rfl, p, _, _, rfl, rfl, hp5, by rw [strsV_len, List.length_map]; exact small5' (by omega), ?_⟩
          rw [← strsV_app]
          have hl6 : upd (upd H4 o (.lst (strsV (O ++ [m])))) p (.lst (strsV ((st' ++ [(nm, a', r)]).map (·.1) ++ [m]))) l = some (.lst ((st' ++ [(nm, a', r)]).map fun x => V.ref x.2.1)) := by rw [upd_ne I4.pl.symm, upd_ne I4.ol.symm]; exact I4.hl
          have s6 : Same H1 (upd (upd H4 o (.lst (strsV (O ++ [m])))) p (.lst (strsV ((st' ++ [(nm, a', r)]).map (·.1) ++ [m])))) := Same.upn (Same.upn I4.same I4.fo) I4.fp
          obtain ⟨b6, hg6, hb6⟩ := (hT.mono s6).get hlm
          refine ⟨_, rfl, .inl ⟨rfl, _, SqL.of hl6⟩, _, rfl, _, rfl, t, _, rfl, hg6, b6, _, rfl, .inl (SqL.of hb6), fun q7 nq7 => ?_⟩
          have hl7 : upd (upd (upd H4 o (.lst (strsV (O ++ [m])))) p (.lst (strsV ((st' ++ [(nm, a', r)]).map (·.1) ++ [m])))) q7 (.lst (plP lm)) l = some (.lst ((st' ++ [(nm, a', r)]).map fun x => V.ref x.2.1)) := by rw [upd_ne (ne_of_none hl6 nq7)]; exact hl6
          refine ⟨l, _, _, rfl, rfl, hl7, by rw [List.length_map]; exact small5' (by omega), ?_⟩
          refine ⟨_, ?_, O ++ [m], (st' ++ [(nm, a', r)]) ++ [(m, q7, lm)], _, _, rfl, I4.push hmO h5m okm hlm rkall nq7, List.mem_append_left _ hnO, rfl⟩
          have hlm30 := tbw.len m lm hlm
          have hO6 : (O ++ [m]).length ≤ 5 := (I4.push hmO h5m okm hlm rkall nq7).len
          refine Nat.lt_of_le_of_lt ?_ hM
          unfold clM
          simp at hO6 ⊢
          omega
      · rw [decide_eq_false hu]
        exact iteT ⟨_, hM, O, _, _, _, rfl, I4, hnO, rfl⟩
end
end K31
set_option maxHeartbeats 2000000
/-! P4: lengths_of. -/
namespace K31
open PySem PySem.Spec PyProof.Rows L2
abbrev sLengths : Stmt := top 28
abbrev nLengths : List Str := ["document", "order", "table", "known", "waiting", "name", "needed", "unknown", "at", "other"]
theorem scLengths : FnScope nLengths ["document", "order"] (defScope sLengths) := ⟨rfl, rfl, rfl, by decide +kernel, rfl, by decide +kernel, by decide +kernel⟩
/-- the references among some lines -/
def useN : Option Ln → Option Str
  | some (.use _ m) => some m
  | _ => none
def edg (D : List Ln) (l : List Nat) : List Str := l.filterMap fun a => useN D[a]?
theorem useN_some {o : Option Ln} {m : Str} (h : useN o = some m) : ∃ i, o = some (.use i m) := by
  cases o with
  | none => cases h
  | some l =>
    cases l with
    | use i n => cases h; exact ⟨i, rfl⟩
    | prose t => cases h
    | head t => cases h
    | code t => cases h
theorem useN_none {o : Option Ln} (h : ∀ i m, o ≠ some (.use i m)) : useN o = none := by
  cases e : useN o with
  | none => rfl
  | some m => obtain ⟨i, q⟩ := useN_some e; exact absurd q (h i m)
theorem edg_mem {D : List Ln} {l : List Nat} {m : Str} : m ∈ edg D l ↔ ∃ a ∈ l, ∃ i, D[a]? = some (.use i m) := by
  unfold edg
  rw [List.mem_filterMap]
  constructor
  · rintro ⟨a, ha, h⟩
    exact ⟨a, ha, useN_some h⟩
  · rintro ⟨a, ha, i, e⟩
    exact ⟨a, ha, by rw [e]; rfl⟩
theorem edg_cons (D : List Ln) (a : Nat) (r : List Nat) : edg D (a :: r) = (match useN D[a]? with
    | some m => [m]
    | none => []) ++ edg D r := by
  unfold edg
  rw [List.filterMap_cons]
  cases useN D[a]? <;> rfl
theorem edg_sum (D : List Ln) (L : Str → Nat) : ∀ l : List Nat, ((l.length : Nat) : Int) - ((edg D l).length : Nat) + (((edg D l).map fun m => ((L m : Nat) : Int)).sum) = (((l.map (itm D (fun _ => 1) fun m _ => L m)).sum : Nat) : Int)
  | [] => by simp [edg]
  | a :: r => by
    have ih := edg_sum D L r
    by_cases q : ∃ i m, D[a]? = some (.use i m)
    · obtain ⟨i, m, hm⟩ := q
      have e1 : edg D (a :: r) = m :: edg D r := by rw [edg_cons, hm]; rfl
      rw [e1, List.map_cons, List.map_cons, itm_use hm]
      simp only [List.length_cons, List.sum_cons]
      omega
    · have q' : ∀ i m, D[a]? ≠ some (.use i m) := fun i m hm => q ⟨i, m, hm⟩
      have e1 : edg D (a :: r) = edg D r := by rw [edg_cons, useN_none q']; rfl
      rw [e1, List.map_cons, itm_not q']
      simp only [List.length_cons, List.sum_cons]
      omega
structure LeI (H1 H3 : Hp) (D : List Ln) (k w : Addr) (O N bs ch : List Str) : Prop where
  same : Same H1 H3
  kn : KnI (Lf D (tbOf D)) H3 k N
  hw : H3 w = some (.lst (strsV (bs ++ ch)))
  fk : H1 k = none
  fw : H1 w = none
  ok : ∀ n ∈ bs ++ ch, OK D (tbOf D) n
  cn : ∀ n ∈ ch, n ∉ N
  rks : ch.Pairwise fun x y => rk D (tbOf D) y < rk D (tbOf D) x
  cl : ∀ n ∈ N, ∀ l, tbOf D n = some l → ∀ m ∈ edg D l, m ∈ N
  all : ∀ n ∈ O, n ∈ N ∨ n ∈ bs
  b5 : bs.length ≤ 5
def leM (D : List Ln) (N bs ch : List Str) : Nat := 100 * (5 - N.length) + 2 * (match ch.getLast? with
  | some n => rk D (tbOf D) n
  | none => 7) + (bs.length + ch.length)
theorem leM_nil (D : List Ln) (N bs : List Str) : leM D N bs [] = 100 * (5 - N.length) + 14 + bs.length := by simp [leM]
theorem leM_app (D : List Ln) (N bs ch : List Str) (n : Str) : leM D N bs (ch ++ [n]) = 100 * (5 - N.length) + 2 * rk D (tbOf D) n + (bs.length + ch.length + 1) := by simp [leM]; omega
theorem leM_le (D : List Ln) (N bs ch : List Str) : leM D N bs ch ≤ 100 * (5 - N.length) + 14 + (bs.length + ch.length) := by
  unfold leM
  have : (match ch.getLast? with
    | some n => rk D (tbOf D) n
    | none => 7) ≤ 7 := by
    split
    · exact Nat.le_trans (rk_le _) (by decide)
    · exact Nat.le_refl _
  omega
section
variable {P : Program} {w : World} {K : PySem.W.Frag} {mg : Str → Option Value} {base : Heap}
def spLengths (K : PySem.W.Frag) : Sp := fun vs H Q _ => ∃ (d o : Addr) (D : List Ln) (O : List Str), vs = [.ref d, .ref o] ∧ IsDoc K H d D ∧ WfD D ∧ D.length ≤ 30 ∧ H o = some (.lst (strsV O)) ∧ (∀ n ∈ O, OK D (tbOf D) n) ∧ O.length ≤ 5 ∧
  ∀ (H' : Hp) (k : Addr) (N : List Str), Same H H' → KnI (Lf D (tbOf D)) H' k N → (∀ n ∈ O, n ∈ N) → (∀ n ∈ N, ∀ l, tbOf D n = some l → ∀ m ∈ edg D l, m ∈ N) → Q (.ref k) H'
theorem cal_lengths (F : At K mg "lengths_of" sLengths) (T : Cal P w K mg base CX0 2 "table_of" ["document"] (spTable K)) (mL : mg "list" = none) (mN : mg "len" = none) (mS : mg "sum" = none) :
    Cal P w K mg base CX0 3 "lengths_of" ["document", "order"] (spLengths K) := by
  refine F.cal scLengths (fun vs H Q E h => ?_) (fun _ _ _ _ _ _ us hl => match us, hl with | [_, _], _ => rfl) (fun f cdv A outer s H vs Q E hr h => ?_)
  · obtain ⟨d, o, D, O, rfl, _⟩ := h
    rfl
  · obtain ⟨d, o, D, O, rfl, hD, wf, hl30, hO, hok, hO5, q⟩ := h
    refine ⟨_, pss_cons (ps_set (i := 2) scLengths.nd rfl (.inl rfl) (pe_cal0 T hr (pa_cons (pv 0) pa_nil)))
      <| pss_cons (ps_set (i := 3) scLengths.nd rfl (.inr rfl) pe_dnewK)
      <| pss_cons (ps_set (i := 4) scLengths.nd rfl (.inl rfl) (pe_callTy call_list_of (by rfl) mL (by decide +kernel) (pa_cons (pv 1) pa_nil)))
      <| pss_cons (ps_while PassesOwn.never (pt_truth (pv 4) (by intro _; rfl))
          (pss_cons (ps_set (i := 5) scLengths.nd rfl (.inl rfl) (pe_ix ix_list (pv 4) (pe_un un_neg pe_int) (fun _ _ => rfl)))
          <| pss_cons (ps_setLc (i := 6) (own := [("at", 8)]) (g := gName 8) (by rfl) scLengths.nd rfl rfl (sw_true rfl rfl rfl (by decide +kernel)) (pi_list (pe_dget (hu_of hr) (pv 2) (pv 5) (fun _ _ => rfl)))
              (blkOk_by (own := [("at", 8)]) (N := nLengths) (sc := defScope sLengths) (by decide +kernel)) (fun _ _ _ _ _ => pg_name (i := 8) scLengths.nd rfl (Or.inl rfl))
              (fun _ _ _ _ _ => pts_one (pt_cmpR op_eq (pe_ix (show IxR _ (rIxT K) from ix_tup) (pe_ix (show IxR _ (rIxT K) from ix_tup) (pv 0) (pv 8) (fun _ _ => rfl)) pe_int (fun _ _ => rfl)) pe_str (nomark _)))
              (fun _ _ _ _ _ => pe_ix (show IxR _ (rIxT K) from ix_tup) (pe_ix (show IxR _ (rIxT K) from ix_tup) (pv 0) (pv 8) (fun _ _ => rfl)) pe_int (fun _ _ => rfl)))
          <| pss_cons (ps_setLc (i := 7) (own := [("other", 9)]) (g := gName 9) (by rfl) scLengths.nd rfl rfl (sw_true rfl rfl rfl (by decide +kernel)) (pi_list (pv 6))
              (blkOk_by (own := [("other", 9)]) (N := nLengths) (sc := defScope sLengths) (by decide +kernel)) (fun _ _ _ _ _ => pg_name (i := 9) scLengths.nd rfl (Or.inl rfl))
              (fun _ _ _ _ _ => pts_one (pt_cmp (pc_dnotin (hu_of hr) (pv 9) (pv 3)))) (fun _ _ _ _ _ => pv 9))
          <| pss_one (ps_if (pt_cmp (pc_din (hu_of hr) (pv 5) (pv 3))) (pss_one (ps_expr (pe_bm0 PySem.F.plainAttrs_list PySem.F.slot_list_pop PySem.F.type_list_pop mt_pop (pv 4))))
              (pss_one (ps_if (pt_truth (pv 7) (by intro _; rfl))
                (pss_one (ps_expr (pe_bm PySem.F.plainAttrs_list PySem.F.slot_list_append PySem.F.type_list_append mt_append (pv 4) (pa_cons (pe_ix ix_list (pv 7) pe_int (fun _ _ => rfl)) pa_nil))))
                (pss_cons (ps_dput (hu_of hr) (pv 3) (pv 5) (pe_op op_add (pe_op op_sub (pe_callB call_len_seq (by rfl) mN PySem.boot_len (pa_cons (pe_dget (hu_of hr) (pv 2) (pv 5) (fun _ _ => rfl)) pa_nil)) (pe_callB call_len_seq (by rfl) mN PySem.boot_len (pa_cons (pv 6) pa_nil)))
                    (pe_callB (cr_sum (by rfl)) (by rfl) mS (by decide +kernel) (pa_cons (pe_lc (own := [("other", 9)]) (g := gName 9) (by rfl) scLengths.nd (pi_list (pv 6)) (blkOk_by (own := [("other", 9)]) (N := nLengths) (sc := defScope sLengths) (by decide +kernel))
                      (fun _ _ _ _ _ => pg_name (i := 9) scLengths.nd rfl (Or.inl rfl)) (fun _ _ _ _ _ => pts_nil) (fun _ _ _ _ _ => pe_dget (hu_of hr) (pv 3) (pv 9) (fun _ _ => rfl))) pa_nil))) rfl)
                <| pss_one (ps_expr (pe_bm0 PySem.F.plainAttrs_list PySem.F.slot_list_pop PySem.F.type_list_pop mt_pop (pv 4)))))))))
      <| pss_one (ps_ret (pv 3)), ?_⟩
    refine ⟨_, rfl, d, D, rfl, hD, wf, hl30, fun H1 t s1 hT => ?_⟩
    have tbw := tbW wf
    have hO1 := s1 _ _ hO
    refine fun k nk => ?_
    refine ⟨_, rfl, o, _, rfl, .inl (SqL.of (Same.new nk _ _ hO1)), fun wt nw => ?_⟩
    have wk : wt ≠ k := by rintro rfl; rw [upd_same] at nw; cases nw
    have w1 : H1 wt = none := by rw [upd_ne wk] at nw; exact nw
    refine ⟨fun m σ H3 => ∃ (N bs ch : List Str) (y5 y6 y7 y8 y9 : Option V), σ = [some (.ref d), some (.ref o), some (.ref t), some (.ref k), some (.ref wt), y5, y6, y7, y8, y9] ∧ LeI H1 H3 D k wt O N bs ch ∧ m = leM D N bs ch,
      ⟨_, [], O, [], none, none, none, none, none, rfl, ⟨(Same.new nk).trans (Same.new nw), ⟨by rw [upd_ne wk.symm, upd_same]; rfl, by simp, (fun n hn => by cases hn)⟩, by rw [upd_same, List.append_nil], nk, w1, fun n hn => hok n (by simpa using hn), (fun n hn => by cases hn), .nil, (fun n hn => by cases hn), fun n hn => .inr hn, hO5⟩, rfl⟩, ?_⟩
    rintro m σ H3 ⟨N, bs, ch, y5, y6, y7, y8, y9, rfl, I, rfl⟩
    refine ⟨_, rfl, _, .inl ⟨_, SqL.of I.hw, rfl⟩, ?_⟩
    by_cases hst : bs ++ ch = []
    · rw [hst]
      refine iteF ⟨_, rfl, q H3 k N (s1.trans I.same) I.kn (fun n hn => ?_) I.cl⟩
      rcases I.all n hn with z | z
      · exact z
      · exact absurd z (by rw [(List.append_eq_nil_iff.mp hst).1]; simp)
    obtain ⟨r, n, hrn⟩ := last_split hst
    have hnn : (!(strsV (bs ++ ch)).isEmpty) = true := by rw [hrn]; simp [strsV]
    rw [hnn]
    refine iteT ?_
    have hw3 : H3 wt = some (.lst (strsV r ++ [.str n])) := by rw [I.hw, hrn, strsV_app]
    have okn : OK D (tbOf D) n := I.ok n (by rw [hrn]; exact List.mem_append_right _ List.mem_cons_self)
    obtain ⟨ln, hln, _⟩ := okn.tab
    have h5n := tbw.key n ln hln
    have hT3 : TabI H H3 t (tbOf D) 30 := hT.mono I.same
    obtain ⟨b, hgb, hb⟩ := hT3.get hln
    have hD3 : IsDoc K H3 d D := (hD.mono (TT.of_same s1)).mono (TT.of_same I.same)
    refine ⟨fun σ' H' => ∃ m', m' < leM D N bs ch ∧ ∃ (N bs ch : List Str) (y5 y6 y7 y8 y9 : Option V), σ' = [some (.ref d), some (.ref o), some (.ref t), some (.ref k), some (.ref wt), y5, y6, y7, y8, y9] ∧ LeI H1 H' D k wt O N bs ch ∧ m' = leM D N bs ch, fun σ' H' h => h, ?_⟩
    refine ⟨_, rfl, 1, rfl, wt, _, -1, _, rfl, rfl, SqL.of hw3, atI_last _ _, ?_⟩
    -- needed
    refine ⟨_, rfl, _, rfl, t, _, rfl, hgb, b, rfl, ⟨_, SqL.of hb⟩, fun L1 n1 => ?_⟩
    refine lc_list (xs := plP ln) (fun i H' => H' = upd H3 L1 (.lst (strsV (edg D (ln.take i))))) rfl ?_ ?_ ?_
    · rintro i H' hi rfl
      exact SqL.of (by rw [upd_ne (ne_of_none hb n1)]; exact hb)
    · rintro i x H' hx rfl
      obtain ⟨a, ha, rfl⟩ := plP_at hx
      obtain ⟨_, x0, hx0, hk2⟩ := tbw.mem n ln hln a (List.mem_of_getElem? ha)
      obtain ⟨vs, u, h1, h2, h3⟩ := (hD3.mono (TT.new (o := .lst (strsV (edg D (ln.take i)))) n1)).at hx0
      have dl : ∀ {Q' : VK}, Q' (.ref u) (upd H3 L1 (.lst (strsV (edg D (ln.take i))))) → rIxT K (.ref d) (.int (a : Int)) (upd H3 L1 (.lst (strsV (edg D (ln.take i))))) Q' := fun {Q'} q' => ⟨d, vs, _, _, rfl, rfl, h1, h2, q'⟩
      refine ⟨rfl, ?_⟩
      refine ⟨_, rfl, _, rfl, dl ⟨u, _, 0, _, rfl, rfl, h3, atI_nat (j := 0) (lnV_0 _), rfl, _, rfl, ?_⟩⟩
      rw [kind_use]
      show if decide (x0.isK = 2) = true then _ else _
      have et : edg D (ln.take (i + 1)) = edg D (ln.take i) ++ edg D [a] := by
        rw [List.take_add_one, ha]
        unfold edg
        rw [List.filterMap_append]
        rfl
      refine ite2 (fun hu => ?_) (fun hu => ?_)
      · obtain ⟨i0, mm, rfl⟩ : ∃ i m, x0 = .use i m := by
          cases x0 with
          | use i m => exact ⟨i, m, rfl⟩
          | prose t => exact absurd (show decide (0 = 2) = true from hu) (by decide)
          | head t => exact absurd (show decide (1 = 2) = true from hu) (by decide)
          | code t => exact absurd (show decide (3 = 2) = true from hu) (by decide)
        refine ⟨_, rfl, _, rfl, dl ⟨u, _, 2, _, rfl, rfl, h3, atI_nat (j := 2) rfl, _, upd_same, ?_, ?_⟩⟩
        · rw [strsV_len]
          have := tbw.len n ln hln
          have h4 : (edg D (ln.take i)).length ≤ (ln.take i).length := List.length_filterMap_le _ _
          rw [List.length_take] at h4
          exact small5' (by omega)
        · rw [upd_upd, ← strsV_app, et]
          rw [edg_cons, hx0]
          rfl
      · rw [et, edg_cons, useN_none (fun i1 m1 e1 => by rw [hx0] at e1; cases e1; exact absurd (decide_eq_true rfl) hu)]
        show upd H3 L1 (.lst (strsV (edg D (ln.take i)))) = upd H3 L1 (.lst (strsV (edg D (ln.take i) ++ ([] ++ []))))
        rw [List.append_nil, List.append_nil]
    rintro H' rfl
    rw [plP_len, List.take_length]
    have I1 : LeI H1 (upd H3 L1 (.lst (strsV (edg D ln)))) D k wt O N bs ch := ⟨I.same.trans (Same.new n1), I.kn.same (Same.new n1), Same.new n1 _ _ I.hw, I.fk, I.fw, I.ok, I.cn, I.rks, I.cl, I.all, I.b5⟩
    have hb1 : upd H3 L1 (.lst (strsV (edg D ln))) b = some (.lst (plP ln)) := Same.new n1 _ _ hb
    have hT4 : TabI H (upd H3 L1 (.lst (strsV (edg D ln)))) t (tbOf D) 30 := hT.mono I1.same
    have hL1 : upd H3 L1 (.lst (strsV (edg D ln))) L1 = some (.lst (strsV (edg D ln))) := upd_same
    have fL1 : H1 L1 = none := I.same.free n1
    have lnb : ln.length ≤ 30 := Nat.le_trans (tbw.len n ln hln) hl30
    have hedl : (edg D ln).length ≤ ln.length := List.length_filterMap_le _ _
    generalize upd H3 L1 (.lst (strsV (edg D ln))) = H4 at I1 hb1 hT4 hL1 ⊢
    -- unknown
    refine ⟨_, rfl, L1, rfl, ⟨_, SqL.of hL1⟩, fun L2 n2 => ?_⟩
    have kn4 := I1.kn
    refine lc_list (xs := strsV (edg D ln)) (fun i H' => H' = upd H4 L2 (.lst (strsV (((edg D ln).take i).filter fun x => decide (x ∉ N))))) rfl ?_ ?_ ?_
    · rintro i H' hi rfl
      exact SqL.of (Same.new n2 _ _ hL1)
    · rintro i x H' hx rfl
      obtain ⟨mm, hm, rfl⟩ : ∃ m, (edg D ln)[i]? = some m ∧ x = .str m := by
        rw [strsV, List.getElem?_map] at hx
        cases e : (edg D ln)[i]? with
        | none => rw [e] at hx; cases hx
        | some m => rw [e] at hx; exact ⟨m, rfl, (Option.some.inj hx).symm⟩
      have kn5 := kn4.same (Same.new (o := .lst (strsV (((edg D ln).take i).filter fun x => decide (x ∉ N)))) n2)
      refine ⟨rfl, ?_⟩
      refine ⟨_, rfl, _, rfl, k, _, rfl, kn5.get mm, _, rfl, ?_⟩
      have et : ((edg D ln).take (i + 1)).filter (fun x => decide (x ∉ N)) = ((edg D ln).take i).filter (fun x => decide (x ∉ N)) ++ if mm ∈ N then [] else [mm] := by
        rw [List.take_add_one, hm, List.filter_append]
        by_cases z : mm ∈ N
        · simp [z]
        · simp [z]
      by_cases z : mm ∈ N
      · rw [if_pos z]
        refine iteF ?_
        rw [et, if_pos z, List.append_nil]
      · rw [if_neg z]
        refine iteT ⟨_, rfl, _, upd_same, ?_, ?_⟩
        · rw [strsV_len]
          have h4 : (((edg D ln).take i).filter fun x => decide (x ∉ N)).length ≤ ((edg D ln).take i).length := List.length_filter_le _ _
          rw [List.length_take] at h4
          exact small5' (by omega)
        · rw [upd_upd, ← strsV_app, et, if_neg z]
    rintro H' rfl
    rw [strsV_len, List.take_length]
    have I2 : LeI H1 (upd H4 L2 (.lst (strsV ((edg D ln).filter fun x => decide (x ∉ N))))) D k wt O N bs ch := ⟨I1.same.trans (Same.new n2), I1.kn.same (Same.new n2), Same.new n2 _ _ I1.hw, I.fk, I.fw, I.ok, I.cn, I.rks, I.cl, I.all, I.b5⟩
    have hT5 : TabI H (upd H4 L2 (.lst (strsV ((edg D ln).filter fun x => decide (x ∉ N))))) t (tbOf D) 30 := hT.mono I2.same
    have hL1' : upd H4 L2 (.lst (strsV ((edg D ln).filter fun x => decide (x ∉ N)))) L1 = some (.lst (strsV (edg D ln))) := Same.new n2 _ _ hL1
    have hL2 : upd H4 L2 (.lst (strsV ((edg D ln).filter fun x => decide (x ∉ N)))) L2 = some (.lst (strsV ((edg D ln).filter fun x => decide (x ∉ N)))) := upd_same
    generalize upd H4 L2 (.lst (strsV ((edg D ln).filter fun x => decide (x ∉ N)))) = H5 at I2 hT5 hL1' hL2 ⊢
    have hw5 : H5 wt = some (.lst (strsV r ++ [.str n])) := by rw [I2.hw, hrn, strsV_app]
    have wtk : wt ≠ k := by
      rintro rfl
      rw [I2.kn.at_] at hw5
      cases hw5
    have hrl : (bs ++ ch).length = r.length + 1 := by rw [hrn]; simp
    have hbl : bs.length + ch.length = r.length + 1 := by rw [← hrl]; simp
    have hch5 : ch.length ≤ 5 := by
      have hnd : ch.Nodup := by
        rw [List.nodup_iff_pairwise_ne]
        exact I.rks.imp fun {x y} hxy e => by rw [e] at hxy; omega
      exact nodup_le ch five hnd fun x hx => by
        obtain ⟨lx, hlx, _⟩ := (I.ok x (List.mem_append_right _ hx)).tab
        exact tbw.key x lx hlx
    have hrlen : r.length ≤ 20 := by have := I.b5; omega
    refine ⟨_, rfl, _, rfl, k, _, rfl, I2.kn.get n, _, rfl, ?_⟩
    by_cases hnN : n ∈ N
    · -- it is known
      rw [if_pos hnN]
      have hch : ch = [] := by
        by_cases z : ch = []
        · exact z
        · obtain ⟨c', x, rfl⟩ := last_split z
          rw [← List.append_assoc] at hrn
          have : x = n := by have := (List.append_inj' hrn rfl).2; simpa using this
          exact absurd hnN (I.cn n (by rw [← this]; exact List.mem_append_right _ List.mem_cons_self))
      subst hch
      rw [List.append_nil] at hrn
      refine iteT ⟨_, rfl, .inl ⟨rfl, _, SqL.of hw5⟩, wt, _, .str n, rfl, rfl, hw5, ?_, ?_⟩
      · simp
      rw [List.dropLast_concat]
      refine ⟨_, ?_, N, r, [], _, _, _, _, _, rfl, ⟨Same.upn I2.same I.fw, ⟨by rw [upd_ne wtk.symm]; exact I2.kn.at_, I2.kn.nd, I2.kn.sub⟩, by rw [upd_same, List.append_nil], I.fk, I.fw, fun x hx => I.ok x (by rw [hrn]; exact List.mem_append_left _ (List.mem_append_left _ (by simpa using hx))), (fun x hx => by cases hx), .nil, I.cl, fun x hx => ?_, ?_⟩, rfl⟩
      · rw [leM_nil, leM_nil, hrn]; simp
      · rcases I.all x hx with z | z
        · exact .inl z
        · rw [hrn] at z
          rcases List.mem_append.mp z with y | y
          · exact .inr y
          · rw [List.mem_singleton.mp y]; exact .inl hnN
      · have := I.b5; rw [hrn] at this; simp at this; omega
    · rw [if_neg hnN]
      refine iteF ⟨_, rfl, _, .inl ⟨_, SqL.of hL2, rfl⟩, ?_⟩
      cases hunk : (edg D ln).filter fun x => decide (x ∉ N) with
      | cons mm rest =>
        refine iteT ⟨_, rfl, .inl ⟨rfl, _, SqL.of hw5⟩, _, rfl, L2, _, 0, _, rfl, rfl, SqL.of hL2, atI_nat (j := 0) (by rw [hunk]; rfl), ?_⟩
        have hmm : mm ∈ (edg D ln).filter fun x => decide (x ∉ N) := by rw [hunk]; exact List.mem_cons_self
        obtain ⟨hme, hmN⟩ := List.mem_filter.mp hmm
        have hmN : mm ∉ N := of_decide_eq_true hmN
        obtain ⟨a, ha, i0, hx0⟩ := edg_mem.mp hme
        have okm : OK D (tbOf D) mm := OK.edge okn hln ha hx0
        have rkm := rk_edge okn hln ha hx0
        refine ⟨wt, _, _, rfl, rfl, hw5, by simp [strsV]; exact small5' (by omega), ?_⟩
        have ew : strsV r ++ [.str n] ++ [.str mm] = strsV (bs ++ (ch ++ [mm])) := by rw [← List.append_assoc, hrn]; simp [strsV]
        rw [ew]
        refine ⟨_, ?_, N, bs, ch ++ [mm], _, _, _, _, _, rfl, ⟨Same.upn I2.same I.fw, ⟨by rw [upd_ne wtk.symm]; exact I2.kn.at_, I2.kn.nd, I2.kn.sub⟩, upd_same, I.fk, I.fw, fun x hx => ?_, fun x hx => ?_, ?_, I.cl, I.all, I.b5⟩, rfl⟩
        · rw [leM_app]
          by_cases z : ch = []
          · subst z
            rw [leM_nil]
            have := rk_le (D := D) (T := tbOf D) mm
            simp
            omega
          · obtain ⟨c', x, rfl⟩ := last_split z
            rw [← List.append_assoc] at hrn
            have : x = n := by have := (List.append_inj' hrn rfl).2; simpa using this
            subst this
            rw [leM_app]
            simp
            omega
        · rw [← List.append_assoc] at hx
          rcases List.mem_append.mp hx with y | y
          · exact I.ok x y
          · rw [List.mem_singleton.mp y]; exact okm
        · rcases List.mem_append.mp hx with y | y
          · exact I.cn x y
          · rw [List.mem_singleton.mp y]; exact hmN
        · refine List.pairwise_append.mpr ⟨I.rks, by simp, fun x hx y hy => ?_⟩
          rw [List.mem_singleton.mp hy]
          obtain ⟨c', x', rfl⟩ := last_split (show ch ≠ [] from fun z => by rw [z] at hx; cases hx)
          rw [← List.append_assoc] at hrn
          have : x' = n := by have := (List.append_inj' hrn rfl).2; simpa using this
          subst this
          rcases List.mem_append.mp hx with z | z
          · exact Nat.lt_trans rkm ((List.pairwise_append.mp I.rks).2.2 x z x' List.mem_cons_self)
          · rw [List.mem_singleton.mp z]; exact rkm
      | nil =>
        have hall : ∀ m ∈ edg D ln, m ∈ N := fun m hm => by
          by_cases z : m ∈ N
          · exact z
          · have : m ∈ (edg D ln).filter fun x => decide (x ∉ N) := List.mem_filter.mpr ⟨hm, decide_eq_true z⟩
            rw [hunk] at this
            cases this
        obtain ⟨b5, hg5, hb5⟩ := hT5.get hln
        refine iteF ⟨_, rfl, _, rfl, t, _, rfl, hg5, b5, _, rfl, .inl (SqL.of hb5), _, rfl, L1, _, rfl, .inl (SqL.of hL1'), _, _, rfl, rfl, ?_⟩
        rw [plP_len, strsV_len]
        refine ⟨_, rfl, L1, rfl, ⟨_, SqL.of hL1'⟩, fun L3 n3 => ?_⟩
        refine lc_list (xs := strsV (edg D ln)) (fun i H' => H' = upd H5 L3 (.lst ((((edg D ln).take i).map fun m => ((Lf D (tbOf D) m : Nat) : Int)).map V.int))) rfl ?_ ?_ ?_
        · rintro i H' hi rfl
          exact SqL.of (Same.new n3 _ _ hL1')
        · rintro i x H' hx rfl
          obtain ⟨mm, hm, rfl⟩ : ∃ m, (edg D ln)[i]? = some m ∧ x = .str m := by
            rw [strsV, List.getElem?_map] at hx
            cases e : (edg D ln)[i]? with
            | none => rw [e] at hx; cases hx
            | some m => rw [e] at hx; exact ⟨m, rfl, (Option.some.inj hx).symm⟩
          have kn6 := I2.kn.same (Same.new (o := .lst ((((edg D ln).take i).map fun m => ((Lf D (tbOf D) m : Nat) : Int)).map V.int)) n3)
          have hg := kn6.get mm
          rw [if_pos (hall mm (List.mem_of_getElem? hm))] at hg
          refine ⟨rfl, ?_⟩
          refine ⟨_, rfl, _, rfl, k, _, rfl, hg, _, upd_same, ?_, ?_⟩
          · rw [List.length_map, List.length_map, List.length_take]; exact small5' (by omega)
          · rw [upd_upd, List.take_add_one, hm]; simp
        rintro H' rfl
        rw [strsV_len, List.take_length]
        refine ⟨L3, _, rfl, SqL.of upd_same, ?_⟩
        have hL3k : L3 ≠ k := by rintro rfl; rw [I2.kn.at_] at n3; cases n3
        have hL3w : L3 ≠ wt := by rintro rfl; rw [hw5] at n3; cases n3
        refine ⟨_, _, rfl, rfl, ?_⟩
        obtain ⟨H7, N7, hput, bt7, kn7, hn7, hsub7, hin7⟩ := (I2.kn.same (Same.new (o := .lst (((edg D ln).map fun m => ((Lf D (tbOf D) m : Nat) : Int)).map V.int)) n3)).put h5n
        have hv := edg_sum D (Lf D (tbOf D)) ln
        rw [← Lf_unf okn hln] at hv
        rw [← hv] at hput
        refine ⟨_, rfl, _, rfl, k, H7, rfl, hput, ?_⟩
        have hw7 : H7 wt = some (.lst (strsV r ++ [.str n])) := bt7 _ _ wtk (Same.new n3 _ _ hw5)
        have s7 : Same H1 H7 := fun x ob hx => bt7 x ob (ne_of_none hx I.fk) ((I2.same.trans (Same.new n3)) x ob hx)
        refine ⟨_, rfl, .inl ⟨rfl, _, SqL.of hw7⟩, wt, _, .str n, rfl, rfl, hw7, ?_, ?_⟩
        · simp
        rw [List.dropLast_concat]
        have cl7 : ∀ x ∈ N7, ∀ l, tbOf D x = some l → ∀ m ∈ edg D l, m ∈ N7 := fun x hx l hl m hm => by
          rcases hin7 x hx with z | z
          · exact hsub7 m (I.cl x z l hl m hm)
          · rw [z, hln] at hl
            cases hl
            exact hsub7 m (hall m hm)
        have hlen7 : N.length + 1 ≤ N7.length := by
          have hnd : (n :: N).Nodup := List.nodup_cons.mpr ⟨hnN, I.kn.nd⟩
          have := nodup_le (n :: N) N7 hnd fun x hx => by
            rcases List.mem_cons.mp hx with z | z
            · rw [z]; exact hn7
            · exact hsub7 x z
          simpa using this
        have h75 := nodup_le N7 five kn7.nd kn7.sub
        have h55 : five.length = 5 := rfl
        have meas : ∀ bs' ch' : List Str, bs'.length + ch'.length = r.length → leM D N7 bs' ch' < leM D N bs ch := fun bs' ch' hbc => by
          have h1 := leM_le D N7 bs' ch'
          have h2 : 100 * (5 - N.length) + (bs.length + ch.length) ≤ leM D N bs ch := by unfold leM; omega
          omega
        by_cases z : ch = []
        · subst z
          rw [List.append_nil] at hrn
          refine ⟨_, meas r [] (by simp), N7, r, [], _, _, _, _, _, rfl, ⟨Same.upn s7 I.fw, ⟨by rw [upd_ne wtk.symm]; exact kn7.at_, kn7.nd, kn7.sub⟩, by rw [upd_same, List.append_nil], I.fk, I.fw, fun x hx => I.ok x (by rw [hrn]; exact List.mem_append_left _ (List.mem_append_left _ (by simpa using hx))), (fun x hx => by cases hx), .nil, cl7, fun x hx => ?_, ?_⟩, rfl⟩
          · rcases I.all x hx with y | y
            · exact .inl (hsub7 x y)
            · rw [hrn] at y
              rcases List.mem_append.mp y with v | v
              · exact .inr v
              · rw [List.mem_singleton.mp v]; exact .inl hn7
          · have := I.b5; rw [hrn] at this; simp at this; omega
        · obtain ⟨c', x', rfl⟩ := last_split z
          have hrn' := hrn
          rw [← List.append_assoc] at hrn'
          have e1 : x' = n := by have := (List.append_inj' hrn' rfl).2; simpa using this
          have e2 : bs ++ c' = r := (List.append_inj' hrn' rfl).1
          subst e1
          refine ⟨_, meas bs c' (by rw [← e2]; simp), N7, bs, c', _, _, _, _, _, rfl, ⟨Same.upn s7 I.fw, ⟨by rw [upd_ne wtk.symm]; exact kn7.at_, kn7.nd, kn7.sub⟩, by rw [upd_same, e2], I.fk, I.fw, fun x hx => I.ok x (by rw [← List.append_assoc]; exact List.mem_append_left _ hx), fun x hx hx7 => ?_, (List.pairwise_append.mp I.rks).1, cl7, fun x hx => ?_, I.b5⟩, rfl⟩
          · rcases hin7 x hx7 with v | v
            · exact I.cn x (List.mem_append_left _ hx) v
            · have := (List.pairwise_append.mp I.rks).2.2 x hx x' List.mem_cons_self
              rw [v] at this
              omega
          · rcases I.all x hx with y | y
            · exact .inl (hsub7 x y)
            · exact .inr y
end
end K31
set_option maxHeartbeats 2000000
/-! P5: tangle. -/
namespace K31
open PySem PySem.Spec PyProof.Rows L2
abbrev sShown : Stmt := top 29
abbrev sTangle : Stmt := top 30
theorem scShown : FnScope ["indent", "text"] ["indent", "text"] (defScope sShown) := ⟨rfl, rfl, rfl, by decide +kernel, rfl, by decide +kernel, by decide +kernel⟩
abbrev nTangle : List Str := ["document", "root", "known", "table", "program", "at", "waiting", "indent", "path", "line", "inner"]
theorem scTangle : FnScope nTangle ["document", "root"] (defScope sTangle) := ⟨rfl, rfl, rfl, by decide +kernel, rfl, by decide +kernel, by decide +kernel⟩
/-! ### reversed -/
theorem rev_at {xs : List V} {i : Nat} {x : V} (h : i < xs.length) (e : xs[xs.length - 1 - i]? = some x) : xs.reverse[i]? = some x := by rw [List.getElem?_reverse h]; exact e
theorem for_rev {K : PySem.W.Frag} {a : Addr} {xs : List V} {g : TG} {tb : TS} {D : Ends} {σ : L2.St} {H : Hp} (Pv : Nat → L2.St → Hp → Prop) (h0 : Pv 0 σ H) (hl : ∀ i σ H, i ≤ xs.length → Pv i σ H → SqL K H a xs)
    (hs : ∀ i x σ H, xs.reverse[i]? = some x → Pv i σ H → g x σ H fun σ2 H2 => tb { D with nx := Pv (i + 1), ct := Pv (i + 1), bk := D.nx } σ2 H2) (hd : ∀ σ H, Pv xs.length σ H → D.nx σ H) :
    ∃ W : Nat → Nat → L2.St → Hp → Prop, (∃ m, W 0 m σ H) ∧ ∀ i m σ H, W i m σ H →
      ((Itv K a xs.length).stop i H ∧ D.nx σ H) ∨ ((Itv K a xs.length).go i H ∧ ∃ N : L2.St → Hp → Prop, (∀ σ' H', N σ' H' → ∃ m', m' < m ∧ W (i + 1) m' σ' H') ∧ ∀ x H', (Itv K a xs.length).yld i H x H' → g x σ H' fun σ2 H2 => tb { D with nx := N, ct := N, bk := D.nx } σ2 H2) := by
  refine ⟨fun i m σ H => m = xs.length - i ∧ i ≤ xs.length ∧ Pv i σ H, ⟨xs.length, by simp, Nat.zero_le _, h0⟩, ?_⟩
  rintro i m σ H ⟨rfl, hi, p⟩
  have q := hl i σ H hi p
  by_cases hlt : i < xs.length
  · have e := List.getElem?_eq_getElem (show xs.length - 1 - i < xs.length by omega)
    refine .inr ⟨⟨hlt, xs, _, q, e⟩, Pv (i + 1), fun σ' H' p' => ⟨xs.length - (i + 1), by omega, rfl, hlt, p'⟩, fun x H' y => ?_⟩
    obtain ⟨rfl, hz⟩ := y
    exact hs i x σ _ (rev_at hlt (hz xs q)) p
  · have e : i = xs.length := by omega
    subst e
    exact .inl ⟨Nat.le_refl _, hd σ H p⟩
theorem lc_rev {K : PySem.W.Frag} {a : Addr} {xs : List V} {g : TG} {tt : L2.TT} {te : TE} {vs : List Nat} {σ : L2.St} {H1 : Hp} {D : Addr} {Qd : Hp → Prop} (Pv : Nat → Hp → Prop) (h0 : Pv 0 (upd H1 D (.lst []))) (hl : ∀ i H, i ≤ xs.length → Pv i H → SqL K H a xs)
    (hs : ∀ i x H, xs.reverse[i]? = some x → Pv i H → g x (wipe σ vs) H fun σ2 H2 => wipe σ2 vs = wipe σ vs ∧ tt σ2 H2 fun b H3 =>
      if b = true then te σ2 H3 fun y H4 => ∃ acc, H4 D = some (.lst acc) ∧ acc.length < sizeLine ∧ Pv (i + 1) (upd H4 D (.lst (acc ++ [y]))) else Pv (i + 1) H3) (hd : ∀ H, Pv xs.length H → Qd H) :
    ∃ W : Nat → Nat → Hp → Prop, (∃ m, W 0 m (upd H1 D (.lst []))) ∧ ∀ i m H, W i m H →
      ((Itv K a xs.length).stop i H ∧ Qd H) ∨ ((Itv K a xs.length).go i H ∧ ∃ Nx : Hp → Prop, (∀ H', Nx H' → ∃ m', m' < m ∧ W (i + 1) m' H') ∧ ∀ x H', (Itv K a xs.length).yld i H x H' → g x (wipe σ vs) H' fun σ2 H2 => wipe σ2 vs = wipe σ vs ∧ tt σ2 H2 fun b H3 =>
        if b = true then te σ2 H3 fun y H4 => ∃ acc, H4 D = some (.lst acc) ∧ acc.length < sizeLine ∧ Nx (upd H4 D (.lst (acc ++ [y]))) else Nx H3) := by
  refine ⟨fun i m H => m = xs.length - i ∧ i ≤ xs.length ∧ Pv i H, ⟨xs.length, by simp, Nat.zero_le _, h0⟩, ?_⟩
  rintro i m H ⟨rfl, hi, p⟩
  have q := hl i H hi p
  by_cases hlt : i < xs.length
  · have e := List.getElem?_eq_getElem (show xs.length - 1 - i < xs.length by omega)
    refine .inr ⟨⟨hlt, xs, _, q, e⟩, Pv (i + 1), fun H' p' => ⟨xs.length - (i + 1), by omega, rfl, hlt, p'⟩, fun x H' y => ?_⟩
    obtain ⟨rfl, hz⟩ := y
    exact hs i x _ (rev_at hlt (hz xs q)) p
  · have e : i = xs.length := by omega
    subst e
    exact .inl ⟨Nat.le_refl _, hd H p⟩
/-! ### what waits -/
abbrev Wa := Nat × Nat × List Nat
def IsWa (K : PySem.W.Frag) (H : Hp) (v : V) (x : Wa) : Prop := ∃ u c : Addr, v = .ref u ∧ SqT K H u [.int (x.1 : Nat), .int (x.2.1 : Nat), .ref c] ∧ SqT K H c (plP x.2.2)
theorem IsWa.mono {K : PySem.W.Frag} {H H1 : Hp} (t : TT K H H1) {v : V} {x : Wa} (h : IsWa K H v x) : IsWa K H1 v x := let ⟨a, c, e, q, q2⟩ := h; ⟨a, c, e, t _ _ q, t _ _ q2⟩
/-- what comes of a waiting line -/
def exW (D : List Ln) (T : Tb) (x : Wa) : List PL := itm D (fun a => [(a, x.2.2)]) (fun m a => Pr D T m (x.2.2 ++ [a])) x.1
def wtW (D : List Ln) (T : Tb) (x : Wa) : Nat := itm D (fun _ => 1) (fun m _ => 1 + Sz D T m) x.1
/-- a waiting line is so -/
structure WaOk (D : List Ln) (T : Tb) (N : List Str) (x : Wa) : Prop where
  ln : ∃ y, D[x.1]? = some y ∧ 2 ≤ y.isK
  pl : x.2.2.length ≤ 6
  ind : x.2.1 ≤ 4 * x.2.2.length
  use : ∀ i m, D[x.1]? = some (.use i m) → OK D T m ∧ m ∈ N ∧ x.2.2.length + 1 + rk D T m ≤ 6
structure TaI (H1 H3 : Hp) (K : PySem.W.Frag) (D : List Ln) (T : Tb) (N : List Str) (n : Str) (p w : Addr) (R : List PL) (S : List Wa) : Prop where
  same : Same H1 H3
  fp : H1 p = none
  fw : H1 w = none
  pw : p ≠ w
  hp : IsProg K H3 p R
  hw : ∃ vs, H3 w = some (.lst vs) ∧ Paired (IsWa K H3) vs S
  ok : ∀ x ∈ S, WaOk D T N x
  few : ∀ j x, S[j]? = some x → j + 1 ≤ 30 * (x.2.2.length + 1)
  sum : R ++ S.reverse.flatMap (exW D T) = Pr D T n []
theorem few_len {S : List Wa} (h : ∀ j x, S[j]? = some x → j + 1 ≤ 30 * (x.2.2.length + 1)) (hp : ∀ x ∈ S, x.2.2.length ≤ 6) : S.length ≤ 210 := by
  rcases Nat.eq_zero_or_pos S.length with z | z
  · omega
  · have e := List.getElem?_eq_getElem (show S.length - 1 < S.length by omega)
    have h1 := h _ _ e
    have h2 := hp _ (List.mem_of_getElem? e)
    omega
theorem few_sub {S : List Wa} {x : Wa} (h : ∀ j y, (S ++ [x])[j]? = some y → j + 1 ≤ 30 * (y.2.2.length + 1)) : (∀ j y, S[j]? = some y → j + 1 ≤ 30 * (y.2.2.length + 1)) ∧ S.length + 1 ≤ 30 * (x.2.2.length + 1) := by
  refine ⟨fun j y e => h j y ?_, h S.length x (by simp)⟩
  rw [List.getElem?_append_left (List.getElem?_eq_some_iff.mp e).1]
  exact e
theorem wa_map {l : List Nat} {i : Nat} {p : List Nat} {K : PySem.W.Frag} {H : Hp} {vs : List V} (h : Paired (IsWa K H) vs (l.map fun b => ((b, i, p) : Wa))) : vs.length = l.length := by
  have := h.length
  rw [List.length_map] at this
  exact this
theorem len_of {R S A : List PL} (h : R ++ S = A) : R.length ≤ A.length := by rw [← h, List.length_append]; omega
section
variable {P : Program} {w : World} {K : PySem.W.Frag} {mg : Str → Option Value} {base : Heap}
theorem cal_shown (F : At K mg "shown" sShown) : Cal P w K mg base CX0 1 "shown" ["indent", "text"] spPut := by
  refine F.cal scShown (fun vs H Q E h => ?_) (fun _ _ _ _ _ _ us hl => match us, hl with | [_, _], _ => rfl) (fun f cdv A outer s H vs Q E hr h => ?_)
  · obtain ⟨n, t, rfl, _⟩ := h
    rfl
  · obtain ⟨n, t, rfl, hn, hm, q⟩ := h
    refine ⟨_, pss_cons (ps_if (pt_cmpR op_eq (pv 1) pe_str (nomark _)) (pss_one (ps_ret pe_str)) pss_nil)
      (pss_one (ps_ret (pe_op op_add_str (pe_op op_mul_str pe_str (pv 0)) (pv 1)))), ?_⟩
    refine ⟨_, rfl, rfl, _, rfl, ite2 (fun e => ?_) (fun e => ?_)⟩
    · have e1 : t = "" := V.str.inj (of_decide_eq_true e)
      rw [putS, if_pos e1] at q
      exact q
    · have e1 : ¬ t = "" := fun z => e (decide_eq_true (by rw [z]))
      rw [putS, if_neg e1] at q
      refine ⟨_, rfl, n, " ", rfl, rfl, rfl, by omega, ?_⟩
      rw [mul_sp]
      exact ⟨_, rfl, sp n, t, rfl, rfl, small5 (by rw [sp_len]; omega), q⟩
def spTangle (K : PySem.W.Frag) : Sp := fun vs H Q _ => ∃ (d : Addr) (D : List Ln) (n : Str), vs = [.ref d, .str n] ∧ IsDoc K H d D ∧ WfD D ∧ D.length ≤ 30 ∧ OK D (tbOf D) n ∧ Lf D (tbOf D) n ≤ 120 ∧
  ∀ (H' : Hp) (p : Addr), Same H H' → H p = none → IsProg K H' p (Pr D (tbOf D) n []) → Q (.ref p) H'
theorem cal_tangle (F : At K mg "tangle" sTangle) (T : Cal P w K mg base CX0 2 "table_of" ["document"] (spTable K)) (C : Cal P w K mg base CX0 3 "closure" ["document", "root"] (spClosure K)) (L : Cal P w K mg base CX0 3 "lengths_of" ["document", "order"] (spLengths K))
    (Sh : Cal P w K mg base CX0 1 "shown" ["indent", "text"] spPut) {tM : Tok} (mM : mg "MOST_LINES" = some (.int 2000 tM)) (mR : mg "reversed" = none) :
    Cal P w K mg base CX0 4 "tangle" ["document", "root"] (spTangle K) := by
  refine F.cal scTangle (fun vs H Q E h => ?_) (fun _ _ _ _ _ _ us hl => match us, hl with | [_, _], _ => rfl) (fun f cdv A outer s H vs Q E hr h => ?_)
  · obtain ⟨d, D, n, rfl, _⟩ := h
    rfl
  · obtain ⟨d, D, n, rfl, hD, wf, hl30, okn, h120, q⟩ := h
    refine ⟨_, pss_cons (ps_set (i := 2) scTangle.nd rfl (.inl rfl) (pe_cal0 L hr (pa_cons (pv 0) (pa_cons (pe_cal0 C hr (pa_cons (pv 0) (pa_cons (pv 1) pa_nil))) pa_nil))))
      <| pss_cons (ps_if (pt_cmpR op_gt (pe_dget (hu_of hr) (pv 2) (pv 1) (fun _ _ => rfl)) (pe_glob (v := .int 2000) (by rfl) mM ⟨_, rfl⟩) (nomark _)) (pss_one ps_never) pss_nil)
      <| pss_cons (ps_set (i := 3) scTangle.nd rfl (.inl rfl) (pe_cal0 T (hr.mono (by decide)) (pa_cons (pv 0) pa_nil)))
      <| pss_cons (ps_set (i := 4) scTangle.nd rfl (.inl rfl) (pe_lst pa_nil))
      <| pss_cons (ps_setLc (i := 6) (own := [("at", 5)]) (g := gName 5) (by rfl) scTangle.nd rfl rfl (sw_true rfl rfl rfl (by decide +kernel)) (pi_reversed (by rfl) mR (pa_cons (pe_dget (hu_of hr) (pv 3) (pv 1) (fun _ _ => rfl)) pa_nil))
          (blkOk_by (own := [("at", 5)]) (N := nTangle) (sc := defScope sTangle) (by decide +kernel)) (fun _ _ _ _ _ => pg_name (i := 5) scTangle.nd rfl (Or.inl rfl)) (fun _ _ _ _ _ => pts_nil)
          (fun _ _ _ _ _ => pe_tup (pa_cons (pv 5) (pa_cons pe_int (pa_cons (pe_tup pa_nil) pa_nil)))))
      <| pss_cons (ps_while PassesOwn.never (pt_truth (pv 6) (by intro _; rfl))
          (pss_cons (ps_asg (pe_bm0 PySem.F.plainAttrs_list PySem.F.slot_list_pop PySem.F.type_list_pop mt_pop (pv 6)) (pg_tup (by rfl) (pgs_cons (pg_name (i := 5) scTangle.nd rfl (.inl rfl)) (pgs_cons (pg_name (i := 7) scTangle.nd rfl (.inl rfl)) (pgs_cons (pg_name (i := 8) scTangle.nd rfl (.inl rfl)) pgs_nil)))))
          <| pss_cons (ps_set (i := 9) scTangle.nd rfl (.inl rfl) (pe_ix ix_tup (pv 0) (pv 5) (fun _ _ => rfl)))
          <| pss_one (ps_if (pt_cmpR op_eq (pe_ix ix_tup (pv 9) pe_int (fun _ _ => rfl)) pe_str (nomark _))
              (pss_one (ps_expr (pe_bm PySem.F.plainAttrs_list PySem.F.slot_list_append PySem.F.type_list_append mt_append (pv 4) (pa_cons (pe_tup (pa_cons (pe_cal0 Sh (hr.mono (by decide)) (pa_cons (pv 7) (pa_cons (pe_ix ix_tup (pv 9) pe_int (fun _ _ => rfl)) pa_nil))) (pa_cons (pv 5) (pa_cons (pv 8) pa_nil)))) pa_nil))))
              (pss_one (ps_if (pt_cmpR op_gt (pe_dget (hu_of hr) (pv 2) (pe_ix ix_tup (pv 9) pe_int (fun _ _ => rfl)) (fun _ _ => rfl)) pe_int (nomark _))
                (pss_one (ps_for PassesOwn.never rfl (pi_reversed (by rfl) mR (pa_cons (pe_dget (hu_of hr) (pv 3) (pe_ix ix_tup (pv 9) pe_int (fun _ _ => rfl)) (fun _ _ => rfl)) pa_nil)) (pg_name (i := 10) scTangle.nd rfl (.inl rfl))
                  (pss_one (ps_expr (pe_bm PySem.F.plainAttrs_list PySem.F.slot_list_append PySem.F.type_list_append mt_append (pv 6) (pa_cons (pe_tup (pa_cons (pv 10) (pa_cons (pe_op op_add (pv 7) (pe_ix ix_tup (pv 9) pe_int (fun _ _ => rfl))) (pa_cons (pe_op op_catA (pv 8) (pe_tup (pa_cons (pv 5) pa_nil))) pa_nil)))) pa_nil)))))) pss_nil)))))
      <| pss_one (ps_ret (pv 4)), ?_⟩
    refine ⟨_, rfl, _, rfl, _, rfl, d, D, n, rfl, hD, wf, hl30, okn, fun H1 o O s1 ho hnO hOok hO5 => ?_⟩
    refine ⟨d, o, D, O, rfl, hD.mono (TT.of_same s1), wf, hl30, ho, hOok, hO5, fun H2 k N s2 kn hON hcl => ?_⟩
    have s02 : Same H H2 := s1.trans s2
    have hg := kn.get n
    rw [if_pos (hON n hnO)] at hg
    refine ⟨_, rfl, _, rfl, k, _, rfl, hg, _, _, rfl, rfl, _, rfl, ?_⟩
    rw [decide_eq_false (show ¬ ((Lf D (tbOf D) n : Nat) : Int) > 2000 by omega)]
    refine iteF ⟨_, rfl, d, D, rfl, hD.mono (TT.of_same s02), wf, hl30, fun H3 t s3 hT => ?_⟩
    have tbw := tbW wf
    refine ⟨Nat.zero_le _, fun p np => ?_⟩
    obtain ⟨ln, hln, _⟩ := okn.tab
    have s03 : Same H H3 := s02.trans s3
    have p0 : H p = none := s03.free np
    have kn3 : KnI (Lf D (tbOf D)) H3 k N := kn.same s3
    obtain ⟨b, hgb, hb⟩ := (hT.mono (Same.new (o := .lst []) np)).get hln
    refine ⟨_, rfl, _, rfl, t, _, rfl, hgb, b, _, rfl, SqL.of hb, fun wt nw => ?_⟩
    have pw : p ≠ wt := by rintro rfl; rw [upd_same] at nw; cases nw
    have w3 : H3 wt = none := by rw [upd_ne pw.symm] at nw; exact nw
    have lnb : ln.length ≤ 30 := Nat.le_trans (tbw.len n ln hln) hl30
    have bw : b ≠ wt := ne_of_none hb nw
    refine lc_rev (xs := plP ln) (fun i H' => Same (upd H3 p (.lst [])) H' ∧ ∃ vs, H' wt = some (.lst vs) ∧ Paired (IsWa K H') vs ((ln.reverse.take i).map fun a => ((a, 0, []) : Wa))) ⟨Same.new nw, [], upd_same, .nil⟩ ?_ ?_ ?_
    · rintro i H' hi ⟨sm, _⟩
      exact SqL.of (sm _ _ hb)
    · rintro i x H' hx ⟨sm, vs, hvs, hP⟩
      obtain ⟨a, ha, rfl⟩ : ∃ a : Nat, ln.reverse[i]? = some a ∧ x = .int (a : Int) := by
        rw [plP, ← List.map_reverse, List.getElem?_map] at hx
        cases e : ln.reverse[i]? with
        | none => rw [e] at hx; cases hx
        | some a => rw [e] at hx; exact ⟨a, rfl, (Option.some.inj hx).symm⟩
      refine ⟨rfl, ?_⟩
      refine ⟨_, rfl, by show 0 ≤ sizeLine; decide, fun c nc => ⟨by show 3 ≤ sizeLine; decide, fun u nu => ?_⟩⟩
      have sm2 : Same H' (upd (upd H' c (.tup [])) u (.tup [.int (a : Int), .int 0, .ref c])) := (Same.new nc).trans (Same.new nu)
      have hvs2 := sm2 _ _ hvs
      refine ⟨vs, hvs2, ?_, Same.upn (sm.trans sm2) nw, _, upd_same, ?_⟩
      · rw [hP.length, List.length_map, List.length_take, List.length_reverse]; exact small5' (by omega)
      · rw [List.take_add_one, ha]
        have tt : TT K H' (upd (upd (upd H' c (.tup [])) u (.tup [.int (a : Int), .int 0, .ref c])) wt (.lst (vs ++ [.ref u]))) := (TT.of_same sm2).trans (TT.lst hvs2)
        rw [List.map_append]
        refine Papp (Pmap hP fun _ _ z => z.mono tt) (.cons ⟨u, c, rfl, TT.lst hvs2 _ _ (SqT.of upd_same), TT.lst hvs2 _ _ (SqT.of ?_)⟩ .nil)
        rw [upd_ne (show c ≠ u from by rintro rfl; rw [upd_same] at nu; cases nu)]
        exact upd_same
    rintro H4 ⟨s34, vs0, hvs0, hP0⟩
    rw [plP_len, show ln.reverse.take ln.length = ln.reverse from by rw [← List.length_reverse]; exact List.take_length] at hP0
    have hp4 : H4 p = some (.lst []) := s34 _ _ upd_same
    have s4 : Same H3 H4 := (Same.new np).trans s34
    have memln : ∀ a ∈ ln, WaOk D (tbOf D) N (a, 0, []) := fun a ha => by
      obtain ⟨_, y, hy, hk⟩ := tbw.mem n ln hln a ha
      refine ⟨⟨y, hy, hk⟩, by show 0 ≤ 6; decide, Nat.zero_le _, fun i m hm => ⟨OK.edge okn hln ha hm, hcl n (hON n hnO) ln hln m (edg_mem.mpr ⟨a, ha, i, hm⟩), ?_⟩⟩
      have h1 := rk_edge okn hln ha hm
      have h2 := rk_le (D := D) (T := tbOf D) n
      show 0 + 1 + rk D (tbOf D) m ≤ 6
      omega
    have I0 : TaI H3 H4 K D (tbOf D) N n p wt [] (ln.reverse.map fun a => ((a, 0, []) : Wa)) := by
      refine ⟨s4, np, w3, pw, ⟨[], hp4, .nil⟩, ⟨vs0, hvs0, hP0⟩, fun x hx => ?_, fun j x hx => ?_, ?_⟩
      · obtain ⟨a, ha, rfl⟩ := List.mem_map.mp hx
        exact memln a (List.mem_reverse.mp ha)
      · have h1 := (List.getElem?_eq_some_iff.mp hx).1
        obtain ⟨a, ha, rfl⟩ := List.mem_map.mp (List.mem_of_getElem? hx)
        rw [List.length_map, List.length_reverse] at h1
        show j + 1 ≤ 30 * (0 + 1)
        omega
      · rw [List.nil_append, ← List.map_reverse, List.reverse_reverse, Pr_unf okn hln, List.flatMap_map]
        rfl
    refine ⟨fun m σ H5 => ∃ (R : List PL) (S : List Wa) (y5 y7 y8 y9 y10 : Option V), σ = [some (.ref d), some (.str n), some (.ref k), some (.ref t), some (.ref p), y5, some (.ref wt), y7, y8, y9, y10] ∧ TaI H3 H5 K D (tbOf D) N n p wt R S ∧ m = (S.map (wtW D (tbOf D))).sum,
      ⟨_, [], _, none, none, none, none, none, rfl, I0, rfl⟩, ?_⟩
    rintro m σ H5 ⟨R, S, y5, y7, y8, y9, y10, rfl, I, rfl⟩
    obtain ⟨ws, hws, hPw⟩ := I.hw
    refine ⟨_, rfl, _, .inl ⟨_, SqL.of hws, rfl⟩, ?_⟩
    by_cases hS : S = []
    · subst hS
      cases hPw
      refine iteF ⟨_, rfl, ?_⟩
      have := I.sum
      simp only [List.reverse_nil, List.flatMap_nil, List.append_nil] at this
      have hp := I.hp
      rw [this] at hp
      exact q H5 p (s03.trans I.same) p0 hp
    obtain ⟨S', x, rfl⟩ := last_split hS
    obtain ⟨ws', v, rfl, hPw', hv⟩ := Psnoc hPw
    have hne : (!(ws' ++ [v]).isEmpty) = true := by simp
    rw [hne]
    refine iteT ?_
    obtain ⟨a, ni, pa⟩ := x
    have okx := I.ok _ (List.mem_append_right _ List.mem_cons_self)
    obtain ⟨fewS, hfew⟩ := few_sub I.few
    have hS200 : S'.length ≤ 210 := few_len fewS fun y hy => (I.ok y (List.mem_append_left _ hy)).pl
    refine ⟨fun σ' H' => ∃ m', m' < ((S' ++ [(a, ni, pa)]).map (wtW D (tbOf D))).sum ∧ ∃ (R : List PL) (S : List Wa) (y5 y7 y8 y9 y10 : Option V), σ' = [some (.ref d), some (.str n), some (.ref k), some (.ref t), some (.ref p), y5, some (.ref wt), y7, y8, y9, y10] ∧ TaI H3 H' K D (tbOf D) N n p wt R S ∧ m' = (S.map (wtW D (tbOf D))).sum, fun σ' H' h => h, ?_⟩
    refine ⟨_, rfl, .inl ⟨rfl, _, SqL.of hws⟩, wt, _, v, rfl, rfl, hws, by simp, ?_⟩
    rw [List.dropLast_concat]
    obtain ⟨u, c, rfl, hu, hc⟩ := hv
    have t6 : TT K H5 (upd H5 wt (.lst ws')) := TT.lst hws
    have s6 : Same H3 (upd H5 wt (.lst ws')) := Same.upn I.same I.fw
    have hw6 : upd H5 wt (.lst ws') wt = some (.lst ws') := upd_same
    have hP6 : Paired (IsWa K (upd H5 wt (.lst ws'))) ws' S' := Pmap hPw' fun _ _ z => z.mono t6
    have hp6 : IsProg K (upd H5 wt (.lst ws')) p R := I.hp.mono t6 fun l h => by rw [upd_ne I.pw]; exact h
    have hu6 := t6 _ _ hu
    have hc6 := t6 _ _ hc
    have hsum := I.sum
    generalize upd H5 wt (.lst ws') = H6 at t6 s6 hw6 hP6 hp6 hu6 hc6 ⊢
    have hD6 : IsDoc K H6 d D := (hD.mono (TT.of_same s03)).mono (TT.of_same s6)
    obtain ⟨y, hy, hk2⟩ := okx.ln
    obtain ⟨vs, ua, h1, h2, h3⟩ := hD6.at hy
    refine ⟨u, _, rfl, hu6, rfl, _, _, rfl, _, _, rfl, _, _, rfl, rfl, ?_⟩
    refine ⟨_, rfl, _, rfl, d, vs, _, _, rfl, rfl, h1, h2, ?_⟩
    refine ⟨_, rfl, ua, _, 0, _, rfl, rfl, h3, atI_nat (j := 0) (lnV_0 _), rfl, _, rfl, ?_⟩
    rw [kind_code]
    show if decide (y.isK = 3) = true then _ else _
    rw [List.reverse_append, List.reverse_cons, List.reverse_nil, List.nil_append, List.cons_append, List.nil_append, List.flatMap_cons] at hsum
    have ok6 : ∀ x ∈ S', WaOk D (tbOf D) N x := fun x hx => I.ok x (List.mem_append_left _ hx)
    have mless : ∀ z : Nat, z < wtW D (tbOf D) (a, ni, pa) → (S'.map (wtW D (tbOf D))).sum + z < ((S' ++ [(a, ni, pa)]).map (wtW D (tbOf D))).sum := fun z hz => by
      rw [List.map_append, List.sum_append]
      simp
      exact hz
    refine ite2 (fun hcd => ?_) (fun hcd => ?_)
    · obtain ⟨tx, rfl⟩ : ∃ tx, y = .code tx := by
        cases y with
        | code tx => exact ⟨tx, rfl⟩
        | prose t => exact absurd (show decide (0 = 3) = true from hcd) (by decide)
        | head t => exact absurd (show decide (1 = 3) = true from hcd) (by decide)
        | use i m => exact absurd (show decide (2 = 3) = true from hcd) (by decide)
      have hnu : ∀ i m, D[a]? ≠ some (.use i m) := fun i m z => by rw [hy] at z; cases z
      have htx : TxOk 10 tx := wf.ok _ _ hy
      obtain ⟨rs, hrs, hPr⟩ := _root_.id hp6
      refine ⟨_, rfl, .inl ⟨rfl, _, SqL.of hrs⟩, _, rfl, _, rfl, ua, _, 1, _, rfl, rfl, h3, atI_nat (j := 1) rfl, ni, tx, rfl, ?_, by have := htx.2; omega, _, rfl, _, rfl, by show 3 ≤ sizeLine; decide, fun e ne => ?_⟩
      · have := okx.ind; have := okx.pl; dsimp only at *; omega
      have hrs7 : upd H6 e (.tup [.str (putS ni tx), .int (a : Nat), .ref c]) p = some (.lst rs) := by rw [upd_ne (ne_of_none hrs ne)]; exact hrs
      have hR : R.length ≤ 120 := by
        have h4 := len_of hsum
        rw [show (Pr D (tbOf D) n []).length = Lf D (tbOf D) n from Pr_len okn (Nat.le_refl _) []] at h4
        omega
      refine ⟨p, _, _, rfl, rfl, hrs7, by rw [hPr.length]; exact small5' (by omega), ?_⟩
      have t7 : TT K H6 (upd (upd H6 e (.tup [.str (putS ni tx), .int (a : Nat), .ref c])) p (.lst (rs ++ [.ref e]))) := (TT.new ne).trans (TT.lst hrs7)
      refine ⟨(S'.map (wtW D (tbOf D))).sum + 0, mless 0 ?_, R ++ [(a, pa)], S', some (.int (a : Nat)), some (.int (ni : Nat)), some (.ref c), some (.ref ua), y10, rfl, ⟨Same.upn (s6.trans (Same.new ne)) I.fp, I.fp, I.fw, I.pw, ⟨_, upd_same, Papp (Pmap hPr fun _ _ z => z.mono t7) (.cons ⟨e, c, putS ni tx, rfl, ?_, t7 _ _ hc6⟩ .nil)⟩, ⟨ws', ?_, Pmap hP6 fun _ _ z => z.mono t7⟩, ok6, fewS, ?_⟩, rfl⟩
      · rw [wtW, itm_not hnu]; decide
      · exact TT.lst hrs7 _ _ (SqT.of upd_same)
      · rw [upd_ne I.pw.symm, upd_ne (ne_of_none hw6 ne)]; exact hw6
      · rw [← hsum, exW, itm_not hnu]; simp
    · obtain ⟨i0, m, rfl⟩ : ∃ i m, y = .use i m := by
        cases y with
        | use i m => exact ⟨i, m, rfl⟩
        | prose t => exact absurd (show 2 ≤ 0 from hk2) (by decide)
        | head t => exact absurd (show 2 ≤ 1 from hk2) (by decide)
        | code t => exact absurd (decide_eq_true rfl) hcd
      obtain ⟨okm, hmN, hrkm⟩ := okx.use _ _ hy
      obtain ⟨lm, hlm, _⟩ := okm.tab
      have i4 : i0 ≤ 4 := wf.ok _ _ hy
      have kn6 := kn3.same s6
      have hgm := kn6.get m
      rw [if_pos hmN] at hgm
      refine ⟨_, rfl, _, rfl, ua, _, 2, _, rfl, rfl, h3, atI_nat (j := 2) rfl, k, _, rfl, hgm, _, _, rfl, rfl, _, rfl, ?_⟩
      have hex : exW D (tbOf D) (a, ni, pa) = Pr D (tbOf D) m (pa ++ [a]) := itm_use hy
      have hwt : wtW D (tbOf D) (a, ni, pa) = 1 + Sz D (tbOf D) m := itm_use hy
      refine ite2 (fun hpos => ?_) (fun hpos => ?_)
      · -- the lines of m
        have hT6 : TabI H2 H6 t (tbOf D) 30 := hT.mono s6
        obtain ⟨b6, hg6, hb6⟩ := hT6.get hlm
        refine ⟨_, rfl, _, rfl, ua, _, 2, _, rfl, rfl, h3, atI_nat (j := 2) rfl, t, _, rfl, hg6, b6, _, rfl, SqL.of hb6, ?_⟩
        have hb3 : b6 ≠ wt := by
          obtain ⟨b7, _, hb7⟩ := hT.get hlm
          obtain ⟨kvs, ek, _, q1, _⟩ := hT.ex
          obtain ⟨b8, q2, q3⟩ := q1 m lm hlm
          have e8 : b6 = b8 := by
            rcases hg6 with ⟨k1, x1, z1, z2, z3⟩ | ⟨k1, x1, x2, z1, z2, _⟩
            · have hx1 : x1 = .inr m := by cases x1 <;> simp [kV] at z2; rw [z2]
              have : k1 = kvs := by
                rcases z1 with z1 | ⟨_, z1⟩
                · rw [s6 _ _ ek] at z1; cases z1; rfl
                · rw [s6 _ _ ek] at z1; cases z1
              rw [this, hx1, q2] at z3
              cases z3
              rfl
            · cases z2
          rw [e8]
          exact ne_of_none q3 I.fw
        refine for_rev (xs := plP lm) (fun j σ H7 => ∃ y10 : Option V, σ = [some (.ref d), some (.str n), some (.ref k), some (.ref t), some (.ref p), some (.int (a : Nat)), some (.ref wt), some (.int (ni : Nat)), some (.ref c), some (.ref ua), y10] ∧
          Same H3 H7 ∧ TT K H6 H7 ∧ H7 b6 = some (.lst (plP lm)) ∧ IsProg K H7 p R ∧ (∃ vs, H7 wt = some (.lst vs) ∧ Paired (IsWa K H7) vs (S' ++ (lm.reverse.take j).map fun e => ((e, ni + i0, pa ++ [a]) : Wa)))) ?_ ?_ ?_ ?_
        · exact ⟨y10, rfl, s6, TT.refl _, hb6, hp6, ws', hw6, by simpa using hP6⟩
        · rintro j σ H7 hj ⟨y10, rfl, s7, t7, hb7, _⟩
          exact SqL.of hb7
        · rintro j x σ H7 hx ⟨y10, rfl, s7, t7, hb7, hp7, vs7, hv7, hP7⟩
          obtain ⟨e, he, rfl⟩ : ∃ e : Nat, lm.reverse[j]? = some e ∧ x = .int (e : Int) := by
            rw [plP, ← List.map_reverse, List.getElem?_map] at hx
            cases z : lm.reverse[j]? with
            | none => rw [z] at hx; cases hx
            | some e => rw [z] at hx; exact ⟨e, rfl, (Option.some.inj hx).symm⟩
          have lmb : lm.length ≤ 30 := Nat.le_trans (tbw.len m lm hlm) hl30
          refine ⟨_, rfl, .inl ⟨rfl, _, SqL.of hv7⟩, _, rfl, _, rfl, _, rfl, ua, _, 1, _, rfl, rfl, t7 _ _ h3, atI_nat (j := 1) rfl, _, _, rfl, rfl, _, rfl, _, rfl, by show 1 ≤ sizeLine; decide, fun g ng => ?_⟩
          have hcg : SqT K (upd H7 g (.tup [.int (a : Nat)])) c (plP pa) := TT.new ng _ _ (t7 _ _ hc6)
          have fin : ∀ (H8 : Hp) (z : Addr), Same (upd H7 g (.tup [.int (a : Nat)])) H8 → SqT K H8 z (plP (pa ++ [a])) → ∀ e2, H8 e2 = none → ∃ l xs y, (V.ref wt) = .ref l ∧ [(V.ref e2)] = [y] ∧ upd H8 e2 (.tup [.int (e : Nat), .int ((ni : Int) + (i0 : Int)), .ref z]) l = some (.lst xs) ∧ xs.length < sizeLine ∧
              ∃ y10 : Option V, [some (V.ref d), some (.str n), some (.ref k), some (.ref t), some (.ref p), some (.int (a : Nat)), some (.ref wt), some (.int (ni : Nat)), some (.ref c), some (.ref ua), some (.int (e : Nat))] = [some (.ref d), some (.str n), some (.ref k), some (.ref t), some (.ref p), some (.int (a : Nat)), some (.ref wt), some (.int (ni : Nat)), some (.ref c), some (.ref ua), y10] ∧
              Same H3 (upd (upd H8 e2 (.tup [.int (e : Nat), .int ((ni : Int) + (i0 : Int)), .ref z])) l (.lst (xs ++ [y]))) ∧ TT K H6 (upd (upd H8 e2 (.tup [.int (e : Nat), .int ((ni : Int) + (i0 : Int)), .ref z])) l (.lst (xs ++ [y]))) ∧
              upd (upd H8 e2 (.tup [.int (e : Nat), .int ((ni : Int) + (i0 : Int)), .ref z])) l (.lst (xs ++ [y])) b6 = some (.lst (plP lm)) ∧ IsProg K (upd (upd H8 e2 (.tup [.int (e : Nat), .int ((ni : Int) + (i0 : Int)), .ref z])) l (.lst (xs ++ [y]))) p R ∧
              (∃ vs, upd (upd H8 e2 (.tup [.int (e : Nat), .int ((ni : Int) + (i0 : Int)), .ref z])) l (.lst (xs ++ [y])) wt = some (.lst vs) ∧ Paired (IsWa K (upd (upd H8 e2 (.tup [.int (e : Nat), .int ((ni : Int) + (i0 : Int)), .ref z])) l (.lst (xs ++ [y])))) vs (S' ++ (lm.reverse.take (j + 1)).map fun e => ((e, ni + i0, pa ++ [a]) : Wa))) := by
            intro H8 z s8 hz e2 ne2
            have s78 : Same H7 (upd H8 e2 (.tup [.int (e : Nat), .int ((ni : Int) + (i0 : Int)), .ref z])) := ((Same.new ng).trans s8).trans (Same.new ne2)
            have hv8 := s78 _ _ hv7
            have tt : TT K H7 (upd (upd H8 e2 (.tup [.int (e : Nat), .int ((ni : Int) + (i0 : Int)), .ref z])) wt (.lst (vs7 ++ [.ref e2]))) := (TT.of_same s78).trans (TT.lst hv8)
            refine ⟨wt, _, _, rfl, rfl, hv8, ?_, _, rfl, Same.upn (s7.trans s78) I.fw, t7.trans tt, ?_, hp7.mono tt fun l hl => ?_, _, upd_same, ?_⟩
            · rw [hP7.length, List.length_append, List.length_map, List.length_take, List.length_reverse]; exact small5' (by omega)
            · rw [upd_ne hb3]; exact s78 _ _ hb7
            · rw [upd_ne I.pw]; exact s78 _ _ hl
            · rw [List.take_add_one, he, List.map_append, ← List.append_assoc]
              exact Papp (Pmap hP7 fun _ _ z => z.mono tt) (.cons ⟨e2, z, rfl, TT.lst hv8 _ _ (SqT.of upd_same), TT.lst hv8 _ _ (TT.new ne2 _ _ hz)⟩ .nil)
          refine ⟨c, g, _, _, rfl, rfl, hcg, SqT.of upd_same, ?_, fun e1 => ?_, fun e1 e2 => (nomatch e2), fun e1 e2 z nz => ?_⟩
          · rw [plP_len]; have := okx.pl; dsimp only at this; exact small5 (by simp; omega)
          · have : pa = [] := by simpa [plP] using e1
            subst this
            refine ⟨by show 3 ≤ sizeLine; decide, fin _ g (Same.refl _) (SqT.of upd_same)⟩
          · refine ⟨by show 3 ≤ sizeLine; decide, fin _ z (Same.new nz) (SqT.of ?_)⟩
            rw [upd_same, plP_app]
        · rintro σ H7 ⟨y10, rfl, s7, t7, hb7, hp7, vs7, hv7, hP7⟩
          rw [plP_len, show lm.reverse.take lm.length = lm.reverse from by rw [← List.length_reverse]; exact List.take_length] at hP7
          refine ⟨(S'.map (wtW D (tbOf D))).sum + Sz D (tbOf D) m, mless _ (by rw [hwt]; omega), R, _, _, _, _, _, _, rfl, ⟨s7, I.fp, I.fw, I.pw, hp7, ⟨vs7, hv7, hP7⟩, fun x hx => ?_, fun j x hx => ?_, ?_⟩, ?_⟩
          · rcases List.mem_append.mp hx with z | z
            · exact ok6 x z
            · obtain ⟨e, he, rfl⟩ := List.mem_map.mp z
              have he := List.mem_reverse.mp he
              obtain ⟨_, y2, hy2, hk3⟩ := tbw.mem m lm hlm e he
              refine ⟨⟨y2, hy2, hk3⟩, ?_, ?_, fun i2 m2 hm2 => ⟨OK.edge okm hlm he hm2, hcl m hmN lm hlm m2 (edg_mem.mpr ⟨e, he, i2, hm2⟩), ?_⟩⟩
              · show (pa ++ [a]).length ≤ 6
                simp
                dsimp only at hrkm
                omega
              · show ni + i0 ≤ 4 * (pa ++ [a]).length
                have := okx.ind
                simp
                dsimp only at this
                omega
              · have h1 := rk_edge okm hlm he hm2
                show (pa ++ [a]).length + 1 + rk D (tbOf D) m2 ≤ 6
                simp
                dsimp only at hrkm
                omega
          · by_cases hj : j < S'.length
            · rw [List.getElem?_append_left hj] at hx
              exact fewS j x hx
            · have hj2 := (List.getElem?_eq_some_iff.mp hx).1
              rw [List.getElem?_append_right (by omega)] at hx
              obtain ⟨e, he, rfl⟩ := List.mem_map.mp (List.mem_of_getElem? hx)
              rw [List.length_append, List.length_map, List.length_reverse] at hj2
              have := tbw.len m lm hlm
              show j + 1 ≤ 30 * ((pa ++ [a]).length + 1)
              simp
              dsimp only at hfew
              omega
          · rw [List.reverse_append, ← List.map_reverse, List.reverse_reverse, List.flatMap_append, List.flatMap_map, ← hsum, hex, Pr_unf okm hlm]
            rfl
          · rw [List.map_append, List.sum_append]
            congr 1
            rw [Sz_unf okm hlm, List.map_map, List.map_reverse, List.sum_reverse]
            rfl
      · have h0 : Lf D (tbOf D) m = 0 := by
          by_cases z : Lf D (tbOf D) m = 0
          · exact z
          · exact absurd (decide_eq_true (show ((Lf D (tbOf D) m : Nat) : Int) > 0 by omega)) hpos
        have hnil : Pr D (tbOf D) m (pa ++ [a]) = [] := by
          have : (Pr D (tbOf D) m (pa ++ [a])).length = 0 := by rw [← h0]; exact Pr_len okm (Nat.le_refl _) _
          exact List.length_eq_zero_iff.mp this
        refine ⟨(S'.map (wtW D (tbOf D))).sum + 0, mless 0 (by rw [hwt]; omega), R, S', some (.int (a : Nat)), some (.int (ni : Nat)), some (.ref c), some (.ref ua), y10, rfl, ⟨s6, I.fp, I.fw, I.pw, hp6, ⟨ws', hw6, hP6⟩, ok6, fewS, ?_⟩, rfl⟩
        rw [← hsum, hex, hnil, List.nil_append]
end
end K31
set_option maxHeartbeats 2000000
/-! T1: texts, in plain Lean. -/
namespace K31
open PySem PySem.Spec PyProof.Rows L2
def lst (t : Str) : Str := PySem.Txt.lstripChars t " "
def lawSigns : Str := "abcdefghijklmnopqrstuvwxyzABCDEFGHIJKLMNOPQRSTUVWXYZ0123456789-_."
def goodL (c : Nat) : Bool := decide (c ∈ lawSigns.cps.toList)
theorem good_eq {c : Nat} (h : c < 127) : goodSign c = goodL c := by
  have : ∀ c : Fin 127, goodSign c.val = goodL c.val := by decide +kernel
  exact this ⟨c, h⟩
def nameB (x : Str) : Bool := (decide (1 ≤ x.length) && decide (x.length ≤ 20)) && x.cps.toList.all goodSign
def refB (t : Str) : Bool := decide (cutS (lst t) none (some 1) = "<") && (decide (cutS (lst t) (some (-1)) none = ">") && nameB (cutS (lst t) (some 1) (some (-1))))
def fault (n : Nat) (t : Str) : Option Str := if t = "" then none else if cutS t none (some (n : Int)) ≠ sp n then some "indent" else if cutS t (some (n : Int)) none = "" then some "blank" else
  if refB (cutS t (some (n : Int)) none) = true then some "reference" else none
def restS (n : Nat) (t : Str) : Str := if t = "" then "" else cutS t (some (n : Int)) none
def codeC (n : Nat) : Chg → Chg
  | .text t => .text (restS n t)
  | c => c
def plainC (own : Str) (c : Chg) : Chg := if c = .text own then .keep else c
def codeE (n : Nat) (e : Ed) : Ed := ⟨e.ahead.map (restS n), codeC n e.chg, e.behind.map (restS n)⟩
def backE (n : Nat) (own : Str) (e : Ed) : Ed := ⟨e.ahead.map (restS n), plainC own (codeC n e.chg), e.behind.map (restS n)⟩
def textsC : Chg → List Str
  | .text t => [t]
  | _ => []
def texts (e : Ed) : List Str := e.ahead ++ (textsC e.chg ++ e.behind)
def faults (n : Nat) (l : List Str) : Option Str := l.findSome? (fault n)
theorem asc_sub {a b : Str} (h : Asc a) (hs : ∀ c ∈ b.cps.toList, c ∈ a.cps.toList) : Asc b := fun c hc => h c (hs c hc)
theorem cut_sub (z : Str) (lo hi : Option Int) : ∀ c ∈ (cutS z lo hi).cps.toList, c ∈ z.cps.toList := fun c hc => by
  have hc' : c ∈ ((z.cps.toList.drop (HT.sIx z.length 0 lo)).take (HT.sIx z.length z.length hi - HT.sIx z.length 0 lo)) := by
    unfold cutS at hc
    simpa using hc
  exact List.mem_of_mem_drop (List.mem_of_mem_take hc')
theorem cut_asc {z : Str} (h : Asc z) (lo hi : Option Int) : Asc (cutS z lo hi) := asc_sub h (cut_sub z lo hi)
theorem cut_len (z : Str) (lo hi : Option Int) : (cutS z lo hi).length ≤ z.length := by
  show (((z.cps.toList.drop (HT.sIx z.length 0 lo)).take (HT.sIx z.length z.length hi - HT.sIx z.length 0 lo)).toArray).size ≤ z.cps.size
  simp
  omega
theorem lst_asc {z : Str} (h : Asc z) : Asc (lst z) := by
  obtain ⟨i, hi, e⟩ := lstripChars_is_suffix z " "
  refine asc_sub h fun c hc => ?_
  unfold lst at hc
  rw [e] at hc
  have hc' : c ∈ (z.cps.extract i z.length).toList := hc
  rw [Array.toList_extract] at hc'
  exact List.mem_of_mem_drop (List.mem_of_mem_take hc')
theorem lst_len (z : Str) : (lst z).length ≤ z.length := PyProof.Rows.len_lstripChars z " "
theorem all_good {z : Str} (h : Asc z) : z.cps.toList.all goodSign = z.cps.toList.all goodL := by
  rw [Bool.eq_iff_iff, List.all_eq_true, List.all_eq_true]
  constructor
  · intro q c hc
    rw [← good_eq (h c hc).2]
    exact q c hc
  · intro q c hc
    rw [good_eq (h c hc).2]
    exact q c hc
theorem restS_ok {n m : Nat} {t : Str} (h : TxOk m t) : TxOk m (restS n t) := by
  unfold restS
  by_cases e : t = ""
  · rw [if_pos e, ← e]; exact h
  · rw [if_neg e]
    exact ⟨cut_asc h.1 _ _, Nat.le_trans (cut_len _ _ _) h.2⟩
theorem codeC_ok {n m : Nat} {c : Chg} (h : CgOk m c) : CgOk m (codeC n c) := by
  cases c with
  | text t => exact restS_ok h
  | keep => trivial
  | drop => trivial
theorem plainC_ok {m : Nat} {own : Str} {c : Chg} (h : CgOk m c) : CgOk m (plainC own c) := by
  unfold plainC
  by_cases e : c = .text own
  · rw [if_pos e]; trivial
  · rw [if_neg e]; exact h
theorem map_ok {n m : Nat} {l : List Str} (h : ∀ t ∈ l, TxOk m t) : ∀ t ∈ l.map (restS n), TxOk m t := fun t ht => by
  obtain ⟨u, hu, rfl⟩ := List.mem_map.mp ht
  exact restS_ok (h u hu)
theorem codeE_ok {n m na nb : Nat} {e : Ed} (h : EdOk m na nb e) : EdOk m na nb (codeE n e) := ⟨map_ok h.a, codeC_ok h.c, map_ok h.b, by show (e.ahead.map _).length ≤ na; rw [List.length_map]; exact h.la, by show (e.behind.map _).length ≤ nb; rw [List.length_map]; exact h.lb⟩
theorem backE_ok {n m na nb : Nat} {own : Str} {e : Ed} (h : EdOk m na nb e) : EdOk m na nb (backE n own e) := ⟨map_ok h.a, plainC_ok (codeC_ok h.c), map_ok h.b, by show (e.ahead.map _).length ≤ na; rw [List.length_map]; exact h.la, by show (e.behind.map _).length ≤ nb; rw [List.length_map]; exact h.lb⟩
theorem CgOk.asc {m : Nat} {c : Chg} (h : CgOk m c) : c.Asc := by
  cases c with
  | text t => exact h.1
  | keep => trivial
  | drop => trivial
theorem EdOk.asc {m na nb : Nat} {e : Ed} (h : EdOk m na nb e) : e.Asc := ⟨fun t ht => (h.a t ht).1, h.c.asc, fun t ht => (h.b t ht).1⟩
theorem texts_ok {m na nb : Nat} {e : Ed} (h : EdOk m na nb e) : ∀ t ∈ texts e, TxOk m t := fun t ht => by
  rcases List.mem_append.mp ht with z | z
  · exact h.a t z
  · rcases List.mem_append.mp z with y | y
    · have := h.c
      cases q : e.chg with
      | text u => rw [q] at y this; rw [List.mem_singleton.mp y]; exact this
      | keep => rw [q] at y; cases y
      | drop => rw [q] at y; cases y
    · exact h.b t y
theorem asc_no_lf {t : Str} (h : Asc t) : ¬ 10 ∈ t.cps.toList := fun z => by have := (h 10 z).1; omega
end K31
set_option maxHeartbeats 2000000
/-! T2: is_name, use_of, is_code; the law's own reading of texts. -/
namespace K31
open PySem PySem.Spec PyProof.Rows L2
abbrev sIsName : Stmt := top 15
abbrev sUseOf : Stmt := top 16
abbrev sIsCode : Stmt := top 17
abbrev sLIsName : Stmt := top 59
abbrev sLIsRef : Stmt := top 60
abbrev sLFault : Stmt := top 61
abbrev sLRest : Stmt := top 62
theorem scIsName : FnScope ["text"] ["text"] (defScope sIsName) := ⟨rfl, rfl, rfl, by decide +kernel, rfl, by decide +kernel, by decide +kernel⟩
theorem scUseOf : FnScope ["text", "rest"] ["text"] (defScope sUseOf) := ⟨rfl, rfl, rfl, by decide +kernel, rfl, by decide +kernel, by decide +kernel⟩
theorem scIsCode : FnScope ["text"] ["text"] (defScope sIsCode) := ⟨rfl, rfl, rfl, by decide +kernel, rfl, by decide +kernel, by decide +kernel⟩
theorem scLIsName : FnScope ["_law_name", "_law_sign"] ["_law_name"] (defScope sLIsName) := ⟨rfl, rfl, rfl, by decide +kernel, rfl, by decide +kernel, by decide +kernel⟩
theorem scLIsRef : FnScope ["_law_text_here", "_law_rest_here"] ["_law_text_here"] (defScope sLIsRef) := ⟨rfl, rfl, rfl, by decide +kernel, rfl, by decide +kernel, by decide +kernel⟩
theorem scLFault : FnScope ["_law_text_here", "_law_indent_here"] ["_law_text_here", "_law_indent_here"] (defScope sLFault) := ⟨rfl, rfl, rfl, by decide +kernel, rfl, by decide +kernel, by decide +kernel⟩
theorem scLRest : FnScope ["_law_text_here", "_law_indent_here"] ["_law_text_here", "_law_indent_here"] (defScope sLRest) := ⟨rfl, rfl, rfl, by decide +kernel, rfl, by decide +kernel, by decide +kernel⟩
/-- a def with its code object at c -/
structure AtT (K : PySem.W.Frag) (mg : Str → Option Value) (x : Str) (st : Stmt) (c : Addr) : Prop where
  ex : ∃ (f : Addr) (fd : FuncData) (oc : Value) (od : Option Addr) (kV doc pm : Value) (an : Option Addr) (ct : Value) (osl : Array (Option Value)),
    fd = PySem.W.fnOf x x (defArgs st) (defBody st) (defScope st) .none kV doc pm an (.ref c) ct ∧ K.lookup f = some ⟨oc, od, .func fd, osl⟩ ∧ PySem.W.codeIn K (.ref c) x = true ∧ PySem.W.keepIn K (.ref f) = true ∧ mg x = some (.ref f)
section
variable {P : Program} {w : World} {K : PySem.W.Frag} {mg : Str → Option Value} {base : Heap}
theorem AtT.cal {x : Str} {st : Stmt} {c : Addr} {N ps : List Str} {k : Nat} {sp : Sp} (F : AtT K mg x st c) (S : FnScope N ps (defScope st)) (len : ∀ vs H Q E, sp vs H Q E → vs.length = ps.length)
    (b : ∀ (kV doc pm : Value) (an : Option Addr) (cdv ct : Value) (us : List Value), us.length = ps.length → bindArgs (PySem.W.fnOf x x (defArgs st) (defBody st) (defScope st) .none kV doc pm an cdv ct) ⟨us, []⟩ = pure (ps.zip us))
    (hbody : ∀ (f : Addr) (A : Around) (outer : List Env) (s : Shared) (H : Hp) (vs : List V) (Q : VK) (E : XK), Room k (A.deeper (envOfC x (defScope st) s.heap.objs.size f (.ref c))) → sp vs H Q E →
      ∃ t, PSs (cxOf CX0 P w K mg base N x (defScope st) f (.ref c) A outer s H E).nox (defBody st) t ∧ t { nx := fun _ H' => Q .non H', rt := Q } (start N vs) H) : Cal P w K mg base CX0 (k + 1) x ps sp := by
  obtain ⟨f, fd, oc, od, kV, doc, pm, an, ct, osl, rfl, lk, hcd, kp, m⟩ := F.ex
  refine ⟨f, _, fn_of lk hcd S len fun A outer s H vs Q E hr hsp => ?_, m, kp, .all (b kV doc pm an (.ref c) ct)⟩
  obtain ⟨t, h, q⟩ := hbody f A outer s H vs Q E hr hsp
  exact ⟨t, h.nox, q⟩
theorem genS_sign (env : Env) : GxR.GenS env gScope "sign" := ⟨rfl, rfl, by decide +kernel, by decide +kernel, by decide +kernel, fun y hy e => by
  have h : ∀ y ∈ gScope.names, y.2 ≠ .free := by decide +kernel
  exact absurd e (h y hy)⟩
theorem Sm.tabbed {H H' : Hp} {P : Addr} (hT : GxR.TabG H P) (h : GxR.Tabbed P H H') : Sm H H' := by
  obtain ⟨ps, hp, _⟩ := hT
  refine ⟨fun b o e n => ?_, fun b o e => ?_, fun P' t => ?_⟩
  · by_cases z : b = P
    · rw [z, hp] at e; cases e; exact absurd rfl (n ps)
    · rw [h.2 b z]; exact e
  · by_cases z : b = P
    · obtain ⟨ps', e', _⟩ := h.1
      exact ⟨_, by rw [z]; exact e'⟩
    · exact ⟨o, by rw [h.2 b z]; exact e⟩
  · by_cases z : P' = P
    · rw [z]; exact h.1
    · obtain ⟨ps', e', k⟩ := t
      exact ⟨ps', by rw [h.2 P' z]; exact e', k⟩
/-- a test of a text, made anew on the way -/
def spTest (Pt : Addr) (g : Str → Bool) : Sp := fun vs H Q _ => ∃ t : Str, vs = [.str t] ∧ GxR.TabG H Pt ∧ Asc t ∧ t.length ≤ 1000 ∧ ∀ H', Sm H H' → Q (.bl (g t)) H'
theorem cal_isName {c Pt : Addr} {tN tM : Tok} (F : AtT K mg "is_name" sIsName c) (TB : GxR.TabB base mg c Pt) (FS : At K mg "is_name_sign" sSign) (mgN : mg "NAME_SIGNS" = some (.str "-_." tN)) (mgM : mg "NAME_MOST" = some (.int 20 tM)) (mA : mg "all" = none) (mL : mg "len" = none) :
    Cal P w K mg base CX0 2 "is_name" ["text"] (spTest Pt nameB) := by
  refine F.cal scIsName (fun vs H Q E h => ?_) (fun _ _ _ _ _ _ us hl => match us, hl with | [_], _ => rfl) (fun f A outer s H vs Q E hr h => ?_)
  · obtain ⟨t, rfl, _⟩ := h
    rfl
  · obtain ⟨t, rfl, hT, ha, hl, q⟩ := h
    obtain ⟨fS, fdS, FS1, mS⟩ := FS.ex
    refine ⟨_, pss_one (ps_ret (pe_and (pe_chain op_le op_le pe_int (pe_callB call_len_str (by rfl) mL PySem.boot_len (pa_cons (pv 0) pa_nil)) (pe_glob (v := .int 20) (by rfl) mgM ⟨_, rfl⟩))
      (pe_one (pe_allD (scope := gScope) (pb := goodSign) hr (by rfl) mA (by decide +kernel) TB rfl (genS_sign _) (pv 0) (fun M => elt_sign FS1 M mS mgN (show (A.deeper (envOfC "is_name" (defScope sIsName) s.heap.objs.size f (.ref c))).depth + 1 < recursionLimit by have := hr.dp; omega)) (fun _ => rfl))))), ?_⟩
    refine ⟨_, rfl, _, rfl, small5 (by omega), _, _, rfl, rfl, _, rfl, ?_⟩
    have name : ∀ b1 b2 b3 : Bool, decide (1 ≤ t.length) = b1 → decide (t.length ≤ 20) = b2 → t.cps.toList.all goodSign = b3 → nameB t = (b1 && b2 && b3) := fun b1 b2 b3 e1 e2 e3 => by unfold nameB; rw [e1, e2, e3]
    refine ite2 (fun h1 => ?_) (fun h1 => ?_)
    · have e1 : decide (1 ≤ t.length) = true := decide_eq_true (by have := of_decide_eq_true h1; omega)
      refine ⟨_, _, rfl, rfl, _, rfl, ?_⟩
      refine ite2 (fun h2 => ?_) (fun h2 => ?_)
      · have e2 : decide (t.length ≤ 20) = true := decide_eq_true (by have := of_decide_eq_true h2; omega)
        refine ⟨_, rfl, t, rfl, hT, fun H2 hT2 => ?_⟩
        have := q H2 (Sm.tabbed hT hT2)
        rw [name _ _ _ e1 e2 rfl] at this
        exact this
      · have e2 : decide (t.length ≤ 20) = false := decide_eq_false fun z => h2 (decide_eq_true (by omega))
        have := q H (Sm.refl H)
        rw [name _ _ _ e1 e2 rfl] at this
        have e3 : decide ((t.length : Int) ≤ 20) = false := decide_eq_false fun z => h2 (decide_eq_true z)
        exact this
    · have e1 : decide (1 ≤ t.length) = false := decide_eq_false fun z => h1 (decide_eq_true (by omega))
      have := q H (Sm.refl H)
      rw [name _ _ _ e1 rfl rfl] at this
      exact ⟨_, rfl, iteF this⟩
end
end K31
set_option maxHeartbeats 2000000
/-! T3: use_of, is_code; the law's own reading of texts. -/
namespace K31
open PySem PySem.Spec PyProof.Rows L2
theorem for_str {x : Str} {g : TG} {tb : TS} {D : Ends} {σ : L2.St} {H : Hp} (Pv : Nat → L2.St → Hp → Prop) (h0 : Pv 0 σ H)
    (hs : ∀ i c σ H, x.cps.toList[i]? = some c → Pv i σ H → g (.str ⟨#[c]⟩) σ H fun σ2 H2 => tb { D with nx := Pv (i + 1), ct := Pv (i + 1), bk := D.nx } σ2 H2) (hd : ∀ σ H, Pv x.cps.toList.length σ H → D.nx σ H) :
    ∃ W : Nat → Nat → L2.St → Hp → Prop, (∃ m, W 0 m σ H) ∧ ∀ i m σ H, W i m σ H →
      ((Its x).stop i H ∧ D.nx σ H) ∨ ((Its x).go i H ∧ ∃ N : L2.St → Hp → Prop, (∀ σ' H', N σ' H' → ∃ m', m' < m ∧ W (i + 1) m' σ' H') ∧ ∀ y H', (Its x).yld i H y H' → g y σ H' fun σ2 H2 => tb { D with nx := N, ct := N, bk := D.nx } σ2 H2) := by
  have hlen : x.cps.toList.length = x.cps.size := by simp
  refine ⟨fun i m σ H => m = x.cps.size - i ∧ i ≤ x.cps.size ∧ Pv i σ H, ⟨x.cps.size, by simp, Nat.zero_le _, h0⟩, ?_⟩
  rintro i m σ H ⟨rfl, hi, p⟩
  by_cases hlt : i < x.cps.size
  · refine .inr ⟨hlt, Pv (i + 1), fun σ' H' p' => ⟨x.cps.size - (i + 1), by omega, rfl, hlt, p'⟩, fun y H' hy => ?_⟩
    obtain ⟨rfl, c, hc, rfl⟩ := hy
    exact hs i c σ _ (by rw [Array.getElem?_toList]; exact hc) p
  · have e : i = x.cps.size := by omega
    subst e
    exact .inl ⟨Nat.le_refl _, hd σ H (by rw [hlen]; exact p)⟩
theorem cut_mid {z : Str} (h : z.length ≤ 2) : (cutS z (some 1) (some (-1))).length = 0 := by
  have h1 : HT.sIx z.length 0 (some (1 : Int)) = min 1 z.length := HT.sIx_nat z.length 0 1
  have h2 : HT.sIx z.length z.length (some (-1 : Int)) = z.length - 1 := by
    show (if (-1 : Int) < 0 then ((-1 : Int) + (z.length : Int)).toNat else min (-1 : Int).toNat z.length) = _
    rw [if_pos (by decide)]
    omega
  show (((z.cps.toList.drop (HT.sIx z.length 0 (some 1))).take (HT.sIx z.length z.length (some (-1)) - HT.sIx z.length 0 (some 1))).toArray).size = 0
  rw [h1, h2]
  simp
  left
  omega
theorem nameB_len {z : Str} (h : nameB z = true) : 1 ≤ z.length := by
  unfold nameB at h
  simp only [Bool.and_eq_true, decide_eq_true_eq] at h
  exact h.1.1
theorem mid_name {z : Str} : nameB (cutS z (some 1) (some (-1))) = (decide ((z.length : Int) > 2) && nameB (cutS z (some 1) (some (-1)))) := by
  by_cases h : z.length ≤ 2
  · cases q : nameB (cutS z (some 1) (some (-1))) with
    | false => rw [Bool.and_false]
    | true =>
      have := nameB_len q
      rw [cut_mid h] at this
      omega
  · rw [decide_eq_true (show (z.length : Int) > 2 by omega), Bool.true_and]
section
variable {P : Program} {w : World} {K : PySem.W.Frag} {mg : Str → Option Value} {base : Heap}
def spUseOf (Pt : Addr) : Sp := fun vs H Q _ => ∃ t : Str, vs = [.str t] ∧ GxR.TabG H Pt ∧ Asc t ∧ t.length ≤ 1000 ∧ (refB t = false → ∀ H', Sm H H' → Q .non H') ∧ (refB t = true → ∀ H' a, Sm H H' → Q (.ref a) H')
theorem sl_1 {X : Cx} {z : Str} {Q : VK} {H : Hp} (hz : z.length ≤ 1000) (q : Q (.str (cutS z none (some 1))) H) : rSlS (.str z) none (some 1) H Q := ⟨z, rfl, small5 (by omega), q⟩
theorem strdec (a b : Str) : decide (V.str a = V.str b) = decide (a = b) := by
  by_cases h : a = b
  · subst h; simp
  · rw [decide_eq_false h, decide_eq_false fun z => h (V.str.inj z)]
theorem cal_useOf {Pt : Addr} (F : At K mg "use_of" sUseOf) (Nm : Cal P w K mg base CX0 2 "is_name" ["text"] (spTest Pt nameB)) (mL : mg "len" = none) : Cal P w K mg base CX0 3 "use_of" ["text"] (spUseOf Pt) := by
  refine F.cal scUseOf (fun vs H Q E h => ?_) (fun _ _ _ _ _ _ us hl => match us, hl with | [_], _ => rfl) (fun f cdv A outer s H vs Q E hr h => ?_)
  · obtain ⟨t, rfl, _⟩ := h
    rfl
  · obtain ⟨t, rfl, hT, ha, hl, qf, qt⟩ := h
    refine ⟨_, pss_cons (ps_set (i := 1) scUseOf.nd rfl (.inl rfl) (pe_bm PySem.F.plainAttrs_str PySem.F.slot_str_lstrip PySem.F.type_str_lstrip mt_lstripChars (pv 0) (pa_cons pe_str pa_nil)))
      <| pss_cons (ps_if (PW.pt (pw_and (pt_cmpR op_eq (pe_slice sl_str (pv 1) po_none (po_some pe_int)) pe_str (nomark _)) (pw_and (pt_cmpR op_eq (pe_slice sl_str (pv 1) (po_some (pe_un un_neg pe_int)) po_none) pe_str (nomark _))
          (pw_and1 (pt_val (pe_cal0 Nm hr (pa_cons (pe_slice sl_str (pv 1) (po_some pe_int) (po_some (pe_un un_neg pe_int))) pa_nil)))))))
        (pss_one (ps_ret (pe_tup (pa_cons pe_str (pa_cons (pe_op op_sub (pe_callB call_len_str (by rfl) mL PySem.boot_len (pa_cons (pv 0) pa_nil)) (pe_callB call_len_str (by rfl) mL PySem.boot_len (pa_cons (pv 1) pa_nil)))
          (pa_cons (pe_slice sl_str (pv 1) (po_some pe_int) (po_some (pe_un un_neg pe_int))) pa_nil)))))) pss_nil)
      <| pss_one (ps_ret pe_non), ?_⟩
    have hl2 : (lst t).length ≤ 1000 := Nat.le_trans (lst_len t) hl
    refine ⟨_, rfl, rfl, t, " ", rfl, rfl, small5 (by omega), ?_⟩
    have z1 : lst t = PySem.Txt.lstripChars t " " := rfl
    rw [← z1]
    have n5 : (lst t).length ≤ sizeLine := small5 (by omega)
    have hR : refB t = (decide (cutS (lst t) none (some 1) = "<") && (decide (cutS (lst t) (some (-1)) none = ">") && nameB (cutS (lst t) (some 1) (some (-1))))) := rfl
    refine ⟨_, rfl, 1, rfl, lst t, rfl, n5, rfl, _, rfl, ?_⟩
    rw [strdec]
    cases b1 : decide (cutS (lst t) none (some 1) = "<") with
    | false => exact iteF (qf (by rw [hR, b1]; rfl) H (Sm.refl H))
    | true =>
      refine iteT ⟨_, rfl, 1, rfl, -1, rfl, lst t, rfl, n5, rfl, _, rfl, ?_⟩
      rw [strdec]
      cases b2 : decide (cutS (lst t) (some (-1)) none = ">") with
      | false => exact iteF (qf (by rw [hR, b1, b2]; rfl) H (Sm.refl H))
      | true =>
        refine iteT ⟨_, rfl, 1, rfl, 1, rfl, -1, rfl, lst t, rfl, n5, cutS (lst t) (some 1) (some (-1)), rfl, hT, cut_asc (lst_asc ha) _ _, Nat.le_trans (cut_len _ _ _) hl2, fun H' sm => ⟨_, rfl, ?_⟩⟩
        cases b3 : nameB (cutS (lst t) (some 1) (some (-1))) with
        | false => exact iteF (qf (by rw [hR, b1, b2, b3]; rfl) H' sm)
        | true =>
          refine iteT ⟨_, rfl, t, rfl, small5 (by omega), _, rfl, lst t, rfl, n5, _, _, rfl, rfl, _, rfl, 1, rfl, 1, rfl, -1, rfl, lst t, rfl, n5, by show 3 ≤ sizeLine; decide, fun u nu => ?_⟩
          exact qt (by rw [hR, b1, b2, b3]; rfl) _ u (sm.trans (Same.sm (Same.new nu)))
theorem cal_isCode {Pt : Addr} (F : At K mg "is_code" sIsCode) (U : Cal P w K mg base CX0 3 "use_of" ["text"] (spUseOf Pt)) : Cal P w K mg base CX0 4 "is_code" ["text"] (spTest Pt fun t => !refB t) := by
  refine F.cal scIsCode (fun vs H Q E h => ?_) (fun _ _ _ _ _ _ us hl => match us, hl with | [_], _ => rfl) (fun f cdv A outer s H vs Q E hr h => ?_)
  · obtain ⟨t, rfl, _⟩ := h
    rfl
  · obtain ⟨t, rfl, hT, ha, hl, q⟩ := h
    refine ⟨_, pss_one (ps_ret (pe_and (pe_cmpR op_notIn_sign pe_str (pv 0) (by rfl)) (pe_one (pe_cmpR op_isN (pe_cal0 U hr (pa_cons (pv 0) pa_nil)) pe_non (nomark _))))), ?_⟩
    refine ⟨_, rfl, 10, t, rfl, rfl, _, rfl, ?_⟩
    rw [decide_eq_false (asc_no_lf ha)]
    refine iteT ⟨_, rfl, t, rfl, hT, ha, hl, fun hb H' sm => ⟨rfl, ?_⟩, fun hb H' a sm => ⟨rfl, ?_⟩⟩
    · have := q H' sm
      rw [show (fun t => !refB t) t = !refB t from rfl, hb] at this
      exact this
    · have := q H' sm
      rw [show (fun t => !refB t) t = !refB t from rfl, hb] at this
      exact this
/-- the law's own -/
def spLName : Sp := fun vs H Q _ => ∃ t : Str, vs = [.str t] ∧ Asc t ∧ t.length ≤ 1000 ∧ Q (.bl (nameB t)) H
theorem cal_lIsName (F : At K mg "_law_is_name" sLIsName) (mL : mg "len" = none) : Cal P w K mg base CX0 1 "_law_is_name" ["_law_name"] spLName := by
  refine F.cal scLIsName (fun vs H Q E h => ?_) (fun _ _ _ _ _ _ us hl => match us, hl with | [_], _ => rfl) (fun f cdv A outer s H vs Q E hr h => ?_)
  · obtain ⟨t, rfl, _⟩ := h
    rfl
  · obtain ⟨t, rfl, ha, hl, q⟩ := h
    refine ⟨_, pss_cons (ps_for PassesOwn.never rfl (pi_str (pv 0)) (pg_name (i := 1) scLIsName.nd rfl (.inl rfl)) (pss_one (ps_if (pt_cmpR op_notIn_sign (pv 1) pe_str (by rfl)) (pss_one (ps_ret pe_bl)) pss_nil)))
      <| pss_one (ps_ret (pe_chain op_le op_le pe_int (pe_callB call_len_str (by rfl) mL PySem.boot_len (pa_cons (pv 0) pa_nil)) pe_int)), ?_⟩
    refine ⟨_, rfl, t, rfl, ?_⟩
    refine for_str (x := t) (fun i σ H3 => ∃ y1, σ = [some (.str t), y1] ∧ H3 = H ∧ (t.cps.toList.take i).all goodL = true) ⟨none, rfl, rfl, rfl⟩ ?_ ?_
    · rintro i c σ H3 hc ⟨y1, rfl, rfl, hg⟩
      refine ⟨_, rfl, c, lawSigns, rfl, rfl, _, rfl, ?_⟩
      cases hb : decide (c ∈ lawSigns.cps.toList) with
      | true =>
        refine iteF ⟨_, rfl, rfl, ?_⟩
        rw [List.take_add_one, hc, List.all_append, hg]
        show (true && (goodL c && true)) = true
        rw [goodL, hb]
        rfl
      | false =>
        refine iteT ?_
        have : nameB t = false := by
          unfold nameB
          rw [all_good ha]
          have : t.cps.toList.all goodL = false := by
            rw [List.all_eq_false]
            exact ⟨c, List.mem_of_getElem? hc, by rw [goodL, hb]; exact Bool.false_ne_true⟩
          rw [this, Bool.and_false]
        rw [this] at q
        exact q
    · rintro σ H3 ⟨y1, rfl, rfl, hg⟩
      rw [List.take_length] at hg
      have hn : nameB t = (decide (1 ≤ t.length) && decide (t.length ≤ 20)) := by unfold nameB; rw [all_good ha, hg, Bool.and_true]
      rw [hn] at q
      refine ⟨_, rfl, t, rfl, small5 (by omega), _, _, rfl, rfl, _, rfl, ?_⟩
      refine ite2 (fun h1 => ?_) (fun h1 => ?_)
      · have e1 : decide (1 ≤ t.length) = true := decide_eq_true (by have := of_decide_eq_true h1; omega)
        rw [e1, Bool.true_and] at q
        refine ⟨_, _, rfl, rfl, ?_⟩
        have e2 : decide ((t.length : Int) ≤ 20) = decide (t.length ≤ 20) := by
          by_cases z : t.length ≤ 20
          · rw [decide_eq_true z, decide_eq_true (by omega)]
          · rw [decide_eq_false z, decide_eq_false (by omega)]
        show Q (.bl (decide ((t.length : Int) ≤ 20))) H3
        rw [e2]
        exact q
      · have e1 : decide (1 ≤ t.length) = false := decide_eq_false fun z => h1 (decide_eq_true (by omega))
        rw [e1, Bool.false_and] at q
        exact q
def spLRef : Sp := fun vs H Q _ => ∃ t : Str, vs = [.str t] ∧ Asc t ∧ t.length ≤ 1000 ∧ Q (.bl (refB t)) H
theorem cal_lIsRef (F : At K mg "_law_is_reference" sLIsRef) (Nm : Cal P w K mg base CX0 1 "_law_is_name" ["_law_name"] spLName) (mL : mg "len" = none) : Cal P w K mg base CX0 2 "_law_is_reference" ["_law_text_here"] spLRef := by
  refine F.cal scLIsRef (fun vs H Q E h => ?_) (fun _ _ _ _ _ _ us hl => match us, hl with | [_], _ => rfl) (fun f cdv A outer s H vs Q E hr h => ?_)
  · obtain ⟨t, rfl, _⟩ := h
    rfl
  · obtain ⟨t, rfl, ha, hl, q⟩ := h
    refine ⟨_, pss_cons (ps_set (i := 1) scLIsRef.nd rfl (.inl rfl) (pe_bm PySem.F.plainAttrs_str PySem.F.slot_str_lstrip PySem.F.type_str_lstrip mt_lstripChars (pv 0) (pa_cons pe_str pa_nil)))
      <| pss_one (ps_ret (pe_and (pe_cmpR op_eq (pe_slice sl_str (pv 1) po_none (po_some pe_int)) pe_str (nomark _)) (pe_and (pe_cmpR op_eq (pe_slice sl_str (pv 1) (po_some (pe_un un_neg pe_int)) po_none) pe_str (nomark _))
          (pe_and (pe_cmpR op_gt (pe_callB call_len_str (by rfl) mL PySem.boot_len (pa_cons (pv 1) pa_nil)) pe_int (nomark _)) (pe_one (pe_cal0 Nm hr (pa_cons (pe_slice sl_str (pv 1) (po_some pe_int) (po_some (pe_un un_neg pe_int))) pa_nil))))))), ?_⟩
    have hl2 : (lst t).length ≤ 1000 := Nat.le_trans (lst_len t) hl
    refine ⟨_, rfl, rfl, t, " ", rfl, rfl, small5 (by omega), ?_⟩
    have z1 : lst t = PySem.Txt.lstripChars t " " := rfl
    rw [← z1]
    have n5 : (lst t).length ≤ sizeLine := small5 (by omega)
    have hR : refB t = (decide (cutS (lst t) none (some 1) = "<") && (decide (cutS (lst t) (some (-1)) none = ">") && (decide (((lst t).length : Int) > 2) && nameB (cutS (lst t) (some 1) (some (-1)))))) := by rw [← mid_name]; rfl
    rw [hR] at q
    refine ⟨_, rfl, 1, rfl, lst t, rfl, n5, rfl, _, rfl, ?_⟩
    rw [strdec]
    cases b1 : decide (cutS (lst t) none (some 1) = "<") with
    | false => rw [b1] at q; exact iteF q
    | true =>
      rw [b1, Bool.true_and] at q
      refine iteT ⟨_, rfl, 1, rfl, -1, rfl, lst t, rfl, n5, rfl, _, rfl, ?_⟩
      rw [strdec]
      cases b2 : decide (cutS (lst t) (some (-1)) none = ">") with
      | false => rw [b2] at q; exact iteF q
      | true =>
        rw [b2, Bool.true_and] at q
        refine iteT ⟨_, rfl, lst t, rfl, n5, _, _, rfl, rfl, _, rfl, ?_⟩
        refine ite2 (fun b3 => ?_) (fun b3 => ?_)
        · have b3' : decide (((lst t).length : Int) > 2) = true := b3
          rw [b3', Bool.true_and] at q
          exact ⟨_, rfl, 1, rfl, 1, rfl, -1, rfl, lst t, rfl, n5, cutS (lst t) (some 1) (some (-1)), rfl, cut_asc (lst_asc ha) _ _, Nat.le_trans (cut_len _ _ _) hl2, q⟩
        · have b3' : decide (((lst t).length : Int) > 2) = false := by
            cases z : decide (((lst t).length : Int) > 2) with
            | true => exact absurd z b3
            | false => rfl
          rw [b3', Bool.false_and] at q
          exact q
def spLFault : Sp := fun vs H Q _ => ∃ (t : Str) (n : Nat), vs = [.str t, .int (n : Int)] ∧ Asc t ∧ t.length ≤ 1000 ∧ n ≤ 1000 ∧ Q (.str ((fault n t).getD "")) H
theorem cal_lFault (F : At K mg "_law_fault" sLFault) (Rf : Cal P w K mg base CX0 2 "_law_is_reference" ["_law_text_here"] spLRef) : Cal P w K mg base CX0 3 "_law_fault" ["_law_text_here", "_law_indent_here"] spLFault := by
  refine F.cal scLFault (fun vs H Q E h => ?_) (fun _ _ _ _ _ _ us hl => match us, hl with | [_, _], _ => rfl) (fun f cdv A outer s H vs Q E hr h => ?_)
  · obtain ⟨t, n, rfl, _⟩ := h
    rfl
  · obtain ⟨t, n, rfl, ha, hl, hn, q⟩ := h
    refine ⟨_, pss_cons (ps_if (pt_cmpR op_eq (pv 0) pe_str (nomark _)) (pss_one (ps_ret pe_str)) pss_nil)
      <| pss_cons (ps_if (pt_cmpR op_ne (pe_slice sl_str (pv 0) po_none (po_some (pv 1))) (pe_op op_mul_str pe_str (pv 1)) (nomark _)) (pss_one (ps_ret pe_str)) pss_nil)
      <| pss_cons (ps_if (pt_cmpR op_eq (pe_slice sl_str (pv 0) (po_some (pv 1)) po_none) pe_str (nomark _)) (pss_one (ps_ret pe_str)) pss_nil)
      <| pss_cons (ps_if (pt_val (pe_cal0 Rf hr (pa_cons (pe_slice sl_str (pv 0) (po_some (pv 1)) po_none) pa_nil))) (pss_one (ps_ret pe_str)) pss_nil)
      <| pss_one (ps_ret pe_str), ?_⟩
    have n5 : t.length ≤ sizeLine := small5 (by omega)
    refine ⟨_, rfl, rfl, _, rfl, ?_⟩
    rw [strdec]
    by_cases h0 : t = ""
    · rw [decide_eq_true h0]
      rw [fault, if_pos h0] at q
      exact iteT q
    rw [decide_eq_false h0]
    rw [fault, if_neg h0] at q
    refine iteF ⟨_, rfl, _, rfl, n, rfl, t, rfl, n5, _, rfl, n, " ", rfl, rfl, rfl, by omega, rfl, _, rfl, ?_⟩
    rw [mul_sp, strdec]
    by_cases h1 : cutS t none (some (n : Int)) = sp n
    · rw [decide_eq_true h1]
      rw [if_neg (fun z => z h1)] at q
      refine iteF ⟨_, rfl, _, rfl, n, rfl, t, rfl, n5, rfl, _, rfl, ?_⟩
      rw [strdec]
      by_cases h2 : cutS t (some (n : Int)) none = ""
      · rw [decide_eq_true h2]
        rw [if_pos h2] at q
        exact iteT q
      · rw [decide_eq_false h2]
        rw [if_neg h2] at q
        refine iteF ⟨_, rfl, _, rfl, n, rfl, t, rfl, n5, _, rfl, cut_asc ha _ _, Nat.le_trans (cut_len _ _ _) hl, _, rfl, ?_⟩
        cases hb : refB (cutS t (some (n : Int)) none) with
        | true => rw [hb, if_pos rfl] at q; exact iteT q
        | false => rw [hb, if_neg Bool.false_ne_true] at q; exact iteF q
    · rw [decide_eq_false h1]
      rw [if_pos h1] at q
      exact iteT q
def spLRest : Sp := fun vs H Q _ => ∃ (t : Str) (n : Nat), vs = [.str t, .int (n : Int)] ∧ t.length ≤ 1000 ∧ Q (.str (restS n t)) H
theorem cal_lRest (F : At K mg "_law_rest" sLRest) : Cal P w K mg base CX0 1 "_law_rest" ["_law_text_here", "_law_indent_here"] spLRest := by
  refine F.cal scLRest (fun vs H Q E h => ?_) (fun _ _ _ _ _ _ us hl => match us, hl with | [_, _], _ => rfl) (fun f cdv A outer s H vs Q E hr h => ?_)
  · obtain ⟨t, n, rfl, _⟩ := h
    rfl
  · obtain ⟨t, n, rfl, hl, q⟩ := h
    refine ⟨_, pss_cons (ps_if (pt_cmpR op_eq (pv 0) pe_str (nomark _)) (pss_one (ps_ret pe_str)) pss_nil)
      <| pss_one (ps_ret (pe_slice sl_str (pv 0) (po_some (pv 1)) po_none)), ?_⟩
    refine ⟨_, rfl, rfl, _, rfl, ?_⟩
    rw [strdec]
    by_cases h0 : t = ""
    · rw [decide_eq_true h0]
      rw [restS, if_pos h0] at q
      exact iteT q
    · rw [decide_eq_false h0]
      rw [restS, if_neg h0] at q
      exact iteF ⟨_, rfl, _, rfl, n, rfl, t, rfl, small5 (by omega), q⟩
end
end K31
set_option maxHeartbeats 2000000
/-! T4: the law's texts of an edit, the edit brought back, the edits. -/
namespace K31
open PySem PySem.Spec PyProof.Rows L2
abbrev sLTexts : Stmt := top 63
abbrev sLBack : Stmt := top 64
abbrev sLEdits : Stmt := top 58
theorem scLTexts : FnScope ["_law_edit_here", "_law_found"] ["_law_edit_here"] (defScope sLTexts) := ⟨rfl, rfl, rfl, by decide +kernel, rfl, by decide +kernel, by decide +kernel⟩
abbrev nLBack : List Str := ["_law_edit_here", "_law_indent_here", "_law_own", "_law_ahead", "_law_change", "_law_behind", "_law_t"]
theorem scLBack : FnScope nLBack ["_law_edit_here", "_law_indent_here", "_law_own"] (defScope sLBack) := ⟨rfl, rfl, rfl, by decide +kernel, rfl, by decide +kernel, by decide +kernel⟩
abbrev nLEdits : List Str := ["_law_script", "_law_start", "_law_document_here", "_law_program", "_law_edits_here", "_law_line_here", "_law_fate_here", "_law_choice", "_law_at"]
theorem scLEdits : FnScope nLEdits ["_law_script", "_law_start", "_law_document_here", "_law_program"] (defScope sLEdits) := ⟨rfl, rfl, rfl, by decide +kernel, rfl, by decide +kernel, by decide +kernel⟩
theorem chg_dec (c : Chg) : ∃ z : Str, (chgV c)[0]? = some (.str z) ∧ ((∃ t, c = .text t ∧ decide (V.str z = V.str "text") = true) ∨ ((∀ t, c ≠ .text t) ∧ decide (V.str z = V.str "text") = false)) := by
  cases c with
  | keep => exact ⟨"keep", rfl, .inr ⟨(fun t z => by cases z), by decide +kernel⟩⟩
  | drop => exact ⟨"drop", rfl, .inr ⟨(fun t z => by cases z), by decide +kernel⟩⟩
  | text t => exact ⟨"text", rfl, .inl ⟨t, rfl, by decide +kernel⟩⟩
theorem ind_le {D : List Ln} (wf : WfD D) : ∀ p : List Nat, (∀ x ∈ p, UseAt D x) → ind D p ≤ 4 * p.length
  | [], _ => Nat.zero_le _
  | a :: r, h => by
    have ih := ind_le wf r fun x hx => h x (List.mem_cons_of_mem _ hx)
    obtain ⟨i, n, e⟩ := h a List.mem_cons_self
    have h4 : i ≤ 4 := wf.ok _ _ e
    have : indAt D a = i := by rw [indAt, e]
    unfold ind at ih ⊢
    simp only [List.map_cons, List.sum_cons, List.length_cons]
    omega
section
variable {P : Program} {w : World} {K : PySem.W.Frag} {mg : Str → Option Value} {base : Heap}
def spLTexts (K : PySem.W.Frag) : Sp := fun vs H Q _ => ∃ (v : V) (e : Ed), vs = [v] ∧ IsEd K H v e ∧ EdOk 120 2 3 e ∧ ∀ (H' : Hp) (p : Addr), Same H H' → H' p = some (.lst (strsV (texts e))) → Q (.ref p) H'
theorem cal_lTexts (F : At K mg "_law_texts" sLTexts) (mL : mg "list" = none) : Cal P w K mg base CX0 1 "_law_texts" ["_law_edit_here"] (spLTexts K) := by
  refine F.cal scLTexts (fun vs H Q E h => ?_) (fun _ _ _ _ _ _ us hl => match us, hl with | [_], _ => rfl) (fun f cdv A outer s H vs Q E hr h => ?_)
  · obtain ⟨v, e, rfl, _⟩ := h
    rfl
  · obtain ⟨v, e, rfl, hv, ho, q⟩ := h
    refine ⟨_, pss_cons (ps_set (i := 1) scLTexts.nd rfl (.inl rfl) (pe_callTy call_list_of (by rfl) mL (by decide +kernel) (pa_cons (pe_ix ix_tup (pv 0) pe_int (fun _ _ => rfl)) pa_nil)))
      <| C8.pss_cut (ps_if (pt_cmpR op_eq (pe_ix ix_tup (pe_ix ix_tup (pv 0) pe_int (fun _ _ => rfl)) pe_int (fun _ _ => rfl)) pe_str (nomark _))
          (pss_one (ps_expr (pe_bm PySem.F.plainAttrs_list PySem.F.slot_list_append PySem.F.type_list_append mt_append (pv 1) (pa_cons (pe_ix ix_tup (pe_ix ix_tup (pv 0) pe_int (fun _ _ => rfl)) pe_int (fun _ _ => rfl)) pa_nil)))) pss_nil)
      <| pss_one (ps_ret (pe_op op_cat (pv 1) (pe_callTy call_list_of (by rfl) mL (by decide +kernel) (pa_cons (pe_ix ix_tup (pv 0) pe_int (fun _ _ => rfl)) pa_nil)))), ?_⟩
    obtain ⟨a, x, c, z, rfl, h1, ⟨xa, rfl, hx⟩, ⟨ca, rfl, hc⟩, ⟨za, rfl, hz⟩⟩ := hv
    refine ⟨_, rfl, a, _, 0, _, rfl, rfl, h1, atI_nat (j := 0) rfl, xa, _, rfl, .inr hx, fun p np => ?_⟩
    have t1 := TT.new (K := K) (o := .lst (strsV e.ahead)) np
    refine ⟨fun σ' H' => σ' = [some (.ref a), some (.ref p)] ∧ Same H H' ∧ H' p = some (.lst (strsV (e.ahead ++ textsC e.chg))), ?_, ?_⟩
    · obtain ⟨z0, e0, hd⟩ := chg_dec e.chg
      refine ⟨_, rfl, a, _, 1, _, rfl, rfl, t1 _ _ h1, atI_nat (j := 1) rfl, ca, _, 0, _, rfl, rfl, t1 _ _ hc, atI_nat (j := 0) e0, rfl, _, rfl, ?_⟩
      rcases hd with ⟨t, et, hd⟩ | ⟨hn, hd⟩
      · rw [hd]
        have e1 : (chgV e.chg)[1]? = some (.str t) := by rw [et]; rfl
        refine iteT ⟨_, rfl, .inl ⟨rfl, _, SqL.of upd_same⟩, _, rfl, a, _, 1, _, rfl, rfl, t1 _ _ h1, atI_nat (j := 1) rfl, ca, _, 1, _, rfl, rfl, t1 _ _ hc, atI_nat (j := 1) e1, p, _, _, rfl, rfl, upd_same, by rw [strsV_len]; have := ho.la; exact small5' (by omega), rfl, Same.upn (Same.new np) np, ?_⟩
        rw [upd_same, et]
        simp [textsC, strsV]
      · rw [hd]
        refine iteF ⟨rfl, Same.new np, ?_⟩
        rw [upd_same]
        have : textsC e.chg = [] := by
          cases q : e.chg with
          | text t => exact absurd q (hn t)
          | keep => rfl
          | drop => rfl
        rw [this, List.append_nil]
    · rintro σ' H' ⟨rfl, sm, hp⟩
      refine ⟨_, rfl, _, rfl, a, _, 2, _, rfl, rfl, TT.of_same sm _ _ h1, atI_nat (j := 2) rfl, za, _, rfl, .inr (TT.of_same sm _ _ hz), fun p2 np2 => ?_⟩
      refine ⟨p, p2, _, _, rfl, rfl, Same.new np2 _ _ hp, upd_same, ?_, fun p3 np3 => ?_⟩
      · rw [strsV_len, strsV_len]
        have := ho.la
        have := ho.lb
        have : (textsC e.chg).length ≤ 1 := by cases e.chg <;> simp [textsC]
        exact small5 (by simp; omega)
      · refine q _ p3 ((sm.trans (Same.new np2)).trans (Same.new np3)) ?_
        rw [upd_same]
        simp [texts, strsV]
def spLBack (K : PySem.W.Frag) : Sp := fun vs H Q _ => ∃ (v : V) (n : Nat) (own : Str) (e : Ed), vs = [v, .int (n : Int), .str own] ∧ n ≤ 100 ∧ IsEd K H v e ∧ EdOk 120 2 3 e ∧ ∀ (H' : Hp) (v' : V), Same H H' → IsEd K H' v' (backE n own e) → Q v' H'
theorem cal_lBack (F : At K mg "_law_back" sLBack) (T : Cal P w K mg base CX0 1 "_law_rest" ["_law_text_here", "_law_indent_here"] spLRest) (mT : mg "tuple" = none) : Cal P w K mg base CX0 2 "_law_back" ["_law_edit_here", "_law_indent_here", "_law_own"] (spLBack K) := by
  refine F.cal scLBack (fun vs H Q E h => ?_) (fun _ _ _ _ _ _ us hl => match us, hl with | [_, _, _], _ => rfl) (fun f cdv A outer s H vs Q E hr h => ?_)
  · obtain ⟨v, n, own, e, rfl, _⟩ := h
    rfl
  · obtain ⟨v, n, own, e, rfl, hn, hv, ho, q⟩ := h
    refine ⟨_, pss_cons (ps_asg (pv 0) (pg_tup (by rfl) (pgs_cons (pg_name (i := 3) scLBack.nd rfl (.inl rfl)) (pgs_cons (pg_name (i := 4) scLBack.nd rfl (.inl rfl)) (pgs_cons (pg_name (i := 5) scLBack.nd rfl (.inl rfl)) pgs_nil)))))
      <| C8.pss_cut (ps_if (pt_cmpR op_eq (pe_ix ix_tup (pv 4) pe_int (fun _ _ => rfl)) pe_str (nomark _))
          (pss_cons (ps_set (i := 4) scLBack.nd rfl (.inl rfl) (pe_tup (pa_cons pe_str (pa_cons (pe_cal0 T hr (pa_cons (pe_ix ix_tup (pv 4) pe_int (fun _ _ => rfl)) (pa_cons (pv 1) pa_nil))) pa_nil))))
            <| pss_one (ps_if (pt_cmpR op_eq (pe_ix ix_tup (pv 4) pe_int (fun _ _ => rfl)) (pv 2) (nomark _)) (pss_one (ps_set (i := 4) scLBack.nd rfl (.inl rfl) (pe_tup (pa_cons pe_str pa_nil)))) pss_nil)) pss_nil)
      <| pss_one (ps_ret (pe_tup (pa_cons (pe_callTy call_tuple_of (by rfl) mT (by decide +kernel) (pa_cons
          (pe_lc (own := [("_law_t", 6)]) (g := gName 6) (by rfl) scLBack.nd (pi_tup (pv 3)) (blkOk_by (own := [("_law_t", 6)]) (N := nLBack) (sc := defScope sLBack) (by decide +kernel))
            (fun _ _ _ _ _ => pg_name (i := 6) scLBack.nd rfl (Or.inl rfl)) (fun _ _ _ _ _ => pts_nil) (fun _ _ _ _ _ => pe_cal0 T hr (pa_cons (pv 6) (pa_cons (pv 1) pa_nil)))) pa_nil))
        (pa_cons (pv 4) (pa_cons (pe_callTy call_tuple_of (by rfl) mT (by decide +kernel) (pa_cons
          (pe_lc (own := [("_law_t", 6)]) (g := gName 6) (by rfl) scLBack.nd (pi_tup (pv 5)) (blkOk_by (own := [("_law_t", 6)]) (N := nLBack) (sc := defScope sLBack) (by decide +kernel))
            (fun _ _ _ _ _ => pg_name (i := 6) scLBack.nd rfl (Or.inl rfl)) (fun _ _ _ _ _ => pts_nil) (fun _ _ _ _ _ => pe_cal0 T hr (pa_cons (pv 6) (pa_cons (pv 1) pa_nil)))) pa_nil)) pa_nil))))), ?_⟩
    obtain ⟨a, x, c, z, rfl, h1, ⟨xa, rfl, hx⟩, ⟨ca, rfl, hc⟩, ⟨za, rfl, hz⟩⟩ := hv
    refine ⟨_, rfl, a, _, rfl, h1, rfl, _, _, rfl, _, _, rfl, _, _, rfl, rfl, ?_⟩
    refine ⟨fun σ' H' => ∃ (v3 : V), σ' = [some (.ref a), some (.int (n : Int)), some (.str own), some (.ref xa), some v3, some (.ref za), none] ∧ Same H H' ∧ IsChg K H' v3 (plainC own (codeC n e.chg)), ?_, ?_⟩
    · obtain ⟨z0, e0, hd⟩ := chg_dec e.chg
      refine ⟨_, rfl, ca, _, 0, _, rfl, rfl, hc, atI_nat (j := 0) e0, rfl, _, rfl, ?_⟩
      rcases hd with ⟨t, et, hd⟩ | ⟨hnt, hd⟩
      · rw [hd]
        have e1 : (chgV e.chg)[1]? = some (.str t) := by rw [et]; rfl
        have htx : TxOk 120 t := by have := ho.c; rw [et] at this; exact this
        refine iteT ⟨_, rfl, ca, _, 1, _, rfl, rfl, hc, atI_nat (j := 1) e1, _, rfl, t, n, rfl, by have := htx.2; omega, by show 2 ≤ sizeLine; decide, fun k nk => ?_⟩
        refine ⟨_, rfl, k, _, 1, _, rfl, rfl, SqT.of upd_same, atI_nat (j := 1) rfl, _, rfl, rfl, _, rfl, ?_⟩
        rw [strdec]
        by_cases hw : restS n t = own
        · rw [decide_eq_true hw]
          refine iteT ⟨by show 1 ≤ sizeLine; decide, fun k2 nk2 => ?_⟩
          refine ⟨.ref k2, rfl, (Same.new nk).trans (Same.new nk2), ⟨k2, rfl, ?_⟩⟩
          rw [et, codeC, plainC, if_pos (by rw [hw])]
          exact SqT.of upd_same
        · rw [decide_eq_false hw]
          refine iteF ⟨.ref k, rfl, Same.new nk, ⟨k, rfl, ?_⟩⟩
          rw [et, codeC, plainC, if_neg (by intro z; cases z; exact hw rfl)]
          exact SqT.of upd_same
      · rw [hd]
        refine iteF ⟨.ref ca, rfl, Same.refl H, ⟨ca, rfl, ?_⟩⟩
        have : plainC own (codeC n e.chg) = e.chg := by
          cases q : e.chg with
          | text t => exact absurd q (hnt t)
          | keep => rfl
          | drop => rfl
        rw [this]
        exact hc
    rintro σ1 H2 ⟨v3, rfl, s2, hv3⟩
    have hl1 : e.ahead.length ≤ 1000 := Nat.le_trans ho.la (by decide)
    have hl2 : e.behind.length ≤ 1000 := Nat.le_trans ho.lb (by decide)
    refine ⟨_, rfl, xa, rfl, ⟨_, TT.of_same s2 _ _ hx⟩, fun L1 n1 => ?_⟩
    refine lc_mapS (xs := e.ahead) (g := restS n) n1 (TT.of_same s2 _ _ hx) hl1 (fun v => rfl) (fun t ht H' Q' q' => ?_) ?_
    · exact ⟨_, rfl, _, rfl, t, n, rfl, by have := (ho.a t ht).2; omega, q'⟩
    refine ⟨L1, _, rfl, .inl ⟨SqL.of upd_same, fun u1 nu1 => ?_⟩⟩
    refine ⟨_, rfl, ?_⟩
    have t1 : TT K H2 (upd (upd H2 L1 (.lst (strsV (e.ahead.map (restS n))))) u1 (.tup (strsV (e.ahead.map (restS n))))) := (TT.new n1).trans (TT.new nu1)
    have s3 : Same H2 (upd (upd H2 L1 (.lst (strsV (e.ahead.map (restS n))))) u1 (.tup (strsV (e.ahead.map (restS n))))) := (Same.new n1).trans (Same.new nu1)
    have hu1 : SqT K (upd (upd H2 L1 (.lst (strsV (e.ahead.map (restS n))))) u1 (.tup (strsV (e.ahead.map (restS n))))) u1 (strsV (e.ahead.map (restS n))) := SqT.of upd_same
    generalize upd (upd H2 L1 (.lst (strsV (e.ahead.map (restS n))))) u1 (.tup (strsV (e.ahead.map (restS n)))) = H3 at t1 s3 hu1 ⊢
    have hz3 : SqT K H3 za (strsV e.behind) := TT.of_same (s2.trans s3) _ _ hz
    refine ⟨_, rfl, za, rfl, ⟨_, hz3⟩, fun L2 n2 => ?_⟩
    refine lc_mapS (xs := e.behind) (g := restS n) n2 hz3 hl2 (fun v => rfl) (fun t ht H' Q' q' => ?_) ?_
    · exact ⟨_, rfl, _, rfl, t, n, rfl, by have := (ho.b t ht).2; omega, q'⟩
    refine ⟨L2, _, rfl, .inl ⟨SqL.of upd_same, fun u2 nu2 => ?_⟩⟩
    refine ⟨by show 3 ≤ sizeLine; decide, fun k nk => ?_⟩
    have t2 : TT K H3 (upd (upd (upd H3 L2 (.lst (strsV (e.behind.map (restS n))))) u2 (.tup (strsV (e.behind.map (restS n))))) k (.tup [.ref u1, v3, .ref u2])) := ((TT.new n2).trans (TT.new nu2)).trans (TT.new nk)
    exact q _ (.ref k) ((s2.trans s3).trans (((Same.new n2).trans (Same.new nu2)).trans (Same.new nk)))
      ⟨k, .ref u1, v3, .ref u2, rfl, SqT.of upd_same, ⟨u1, rfl, t2 _ _ hu1⟩, (hv3.mono t1).mono t2, ⟨u2, rfl, TT.new nk _ _ (SqT.of upd_same)⟩⟩
theorem IsPl.get {H : Hp} {v : V} {x : PL} (h : IsPl K H v x) : ∃ (a b : Addr) (t : Str), v = .ref a ∧ SqT K H a [.str t, .int (x.1 : Nat), .ref b] ∧ SqT K H b (plP x.2) := h
theorem pl_pos {D : List Ln} (wf : WfD D) {b : Nat} {x : PL} (h : PlOk D b x) : ∃ y, x.1 = y + 1 ∧ y < D.length ∧ ∃ t, D[y + 1]? = some (.code t) := by
  obtain ⟨⟨t, e⟩, _⟩ := h
  have h1 := wf_pos wf e (by show (3 : Nat) ≠ 1; decide)
  have h2 := (List.getElem?_eq_some_iff.mp e).1
  exact ⟨x.1 - 1, by omega, by omega, t, by rw [show x.1 - 1 + 1 = x.1 by omega]; exact e⟩
def spLEdits (K : PySem.W.Frag) : Sp := fun vs H Q _ => ∃ (s d p : Addr) (ns : List Int) (st : Nat) (D : List Ln) (R : List PL), vs = [.ref s, .int (st : Int), .ref d, .ref p] ∧ SqL K H s (ns.map V.int) ∧ IsDoc K H d D ∧ WfD D ∧ IsProg K H p R ∧ (∀ x ∈ R, PlOk D 6 x) ∧ R.length ≤ 120 ∧
  ∀ (H' : Hp) (q : Addr) (es : List Ed), Same H H' → IsEds K H' q es → es.length = R.length → (∀ e ∈ es, EdOk 120 2 3 e) → Q (.ref q) H'
theorem cal_lEdits (F : At K mg "_law_edits" sLEdits) (C : Cal P w K mg base CX0 1 "_law_cell" ["_law_script", "_law_k"] (spC K)) (Ft : Cal P w K mg base CX0 2 "_law_fate" ["_law_cell_here", "_law_is_first_here"] (spFate K))
    (Fi : Cal P w K mg base CX0 1 "_law_is_first" ["_law_document_here", "_law_line_here"] (spFirst K)) (Ed_ : Cal P w K mg base CX0 2 "_law_edit" ["_law_fate_here", "_law_indent_here"] (spEdit K)) (In : Cal P w K mg base CX0 1 "_law_indent" ["_law_document_here", "_law_path"] (spInd K))
    (Bg : Cal P w K mg base CX0 2 "_law_big" ["_law_cell_here"] spBig) (Br : Cal P w K mg base CX0 1 "_law_broken" ["_law_edit_here", "_law_draw", "_law_indent_here"] (spBroken K)) (mL : mg "len" = none) :
    Cal P w K mg base CX0 3 "_law_edits" ["_law_script", "_law_start", "_law_document_here", "_law_program"] (spLEdits K) := by
  refine F.cal scLEdits (fun vs H Q E h => ?_) (fun _ _ _ _ _ _ us hl => match us, hl with | [_, _, _, _], _ => rfl) (fun f cdv A outer s H vs Q E hr h => ?_)
  · obtain ⟨s, d, p, ns, st, D, R, rfl, _⟩ := h
    rfl
  · obtain ⟨sc, d, p, ns, st, D, R, rfl, hs, hD, wf, hP, hR, hlR, q⟩ := h
    refine ⟨_, pss_cons (ps_set (i := 4) scLEdits.nd rfl (.inl rfl) (pe_lst pa_nil))
      <| pss_cons (ps_for PassesOwn.never rfl (pi_list (pv 3)) (pg_name (i := 5) scLEdits.nd rfl (.inl rfl))
        (pss_cons (ps_set (i := 6) scLEdits.nd rfl (.inl rfl) (pe_cal0 Ft hr (pa_cons (pe_cal0 C (hr.mono (by decide)) (pa_cons (pv 0) (pa_cons (pe_op op_add (pv 1) (pe_op op_mod (pe_ix ix_tup (pv 5) pe_int (fun _ _ => rfl)) pe_int)) pa_nil)))
            (pa_cons (pe_cal0 Fi (hr.mono (by decide)) (pa_cons (pv 2) (pa_cons (pe_ix ix_tup (pv 5) pe_int (fun _ _ => rfl)) pa_nil))) pa_nil))))
        <| pss_one (ps_expr (pe_bm PySem.F.plainAttrs_list PySem.F.slot_list_append PySem.F.type_list_append mt_append (pv 4) (pa_cons (pe_cal0 Ed_ hr (pa_cons (pv 6) (pa_cons (pe_cal0 In (hr.mono (by decide)) (pa_cons (pv 2) (pa_cons (pe_ix ix_tup (pv 5) pe_int (fun _ _ => rfl)) pa_nil))) pa_nil))) pa_nil)))))
      <| pss_cons (ps_set (i := 7) scLEdits.nd rfl (.inl rfl) (pe_cal0 Bg hr (pa_cons (pe_cal0 C (hr.mono (by decide)) (pa_cons (pv 0) (pa_cons (pe_op op_add (pv 1) pe_int) pa_nil))) pa_nil)))
      <| pss_cons (ps_if (PW.pt (pw_and (pt_cmpR op_eq (pe_op op_mod (pv 7) pe_int) pe_int (nomark _)) (pw_and1 (pt_cmpR op_gt (pe_callB call_len_seq (by rfl) mL PySem.boot_len (pa_cons (pv 3) pa_nil)) pe_int (nomark _)))))
          (pss_cons (ps_set (i := 8) scLEdits.nd rfl (.inl rfl) (pe_op op_mod (pe_op op_fdiv (pv 7) pe_int) (pe_callB call_len_seq (by rfl) mL PySem.boot_len (pa_cons (pv 3) pa_nil))))
          <| pss_one (ps_asg (pe_cal0 Br (hr.mono (by decide)) (pa_cons (pe_ix ix_list (pv 4) (pv 8) (fun _ _ => rfl)) (pa_cons (pe_op op_fdiv (pv 7) pe_int) (pa_cons (pe_cal0 In (hr.mono (by decide)) (pa_cons (pv 2) (pa_cons (pe_ix ix_tup (pe_ix ix_list (pv 3) (pv 8) (fun _ _ => rfl)) pe_int (fun _ _ => rfl)) pa_nil))) pa_nil))))
              (pg_sub (pv 4) (pv 8) set_list))) pss_nil)
      <| pss_one (ps_ret (pv 4)), ?_⟩
    refine ⟨Nat.zero_le _, fun o no => ?_⟩
    obtain ⟨rs, hrs, hPr⟩ := _root_.id hP
    have indOk : ∀ x ∈ R, ind D x.2 ≤ 100 := fun x hx => by
      have h1 := ind_le wf x.2 (hR x hx).2.1
      have h2 := (hR x hx).2.2
      omega
    refine ⟨_, rfl, p, rfl, ⟨_, SqL.of (Same.new no _ _ hrs)⟩, ?_⟩
    refine for_list (xs := rs) (fun i σ H3 => ∃ (y5 y6 : Option V) (vs : List V) (es : List Ed), σ = [some (.ref sc), some (.int (st : Int)), some (.ref d), some (.ref p), some (.ref o), y5, y6, none, none] ∧ Same H H3 ∧ H3 o = some (.lst vs) ∧ Paired (IsEd K H3) vs es ∧ es.length = i ∧ ∀ e ∈ es, EdOk 110 1 2 e) ?_ ?_ ?_ ?_
    · exact ⟨none, none, [], [], rfl, Same.new no, upd_same, .nil, rfl, fun e he => by cases he⟩
    · rintro i σ H3 hi ⟨y5, y6, vs, es, rfl, sm, _⟩
      exact SqL.of (sm _ _ hrs)
    · rintro i x σ H3 hx ⟨y5, y6, vs, es, rfl, sm, ho, hE, hl, hOk⟩
      obtain ⟨xl, hxl, hv⟩ := Pg1 hPr hx
      have hxm := List.mem_of_getElem? hxl
      have hi : i < R.length := (List.getElem?_eq_some_iff.mp hxl).1
      obtain ⟨a, b, t, rfl, ha, hb⟩ := (hv.mono (TT.of_same sm)).get
      obtain ⟨y, ey, hy, _⟩ := pl_pos wf (hR xl hxm)
      have hD3 := hD.mono (TT.of_same sm)
      obtain ⟨j, ej, hj⟩ := mod_nat xl.1 (m := 20) (by decide)
      refine ⟨_, rfl, _, rfl, _, rfl, a, _, 1, _, rfl, rfl, ha, atI_nat (j := 1) rfl, _, _, rfl, rfl, (by show (0 : Int) < 20; decide), _, _, rfl, rfl, sc, ns, st + j, ?_, sm.seq hs, fun zc => ?_⟩
      · show [V.ref sc, V.int ((st : Int) + ((xl.1 : Nat) : Int) % 20)] = _
        rw [show ((xl.1 : Nat) : Int) % 20 = (j : Int) from ej]
        simp
      refine ⟨_, rfl, _, rfl, a, _, 1, _, rfl, rfl, ha, atI_nat (j := 1) rfl, d, D, y, (by show [V.ref d, V.int ((xl.1 : Nat) : Int)] = _; rw [ey]), hD3, hy, zc, headB D y, rfl, fun H4 v e s4 hve hoe => ?_⟩
      have s34 : Same H H4 := sm.trans s4
      have ho4 := s4 _ _ ho
      refine ⟨_, rfl, .inl ⟨rfl, _, SqL.of ho4⟩, _, rfl, _, rfl, _, rfl, a, _, 2, _, rfl, rfl, TT.of_same s4 _ _ ha, atI_nat (j := 2) rfl, d, b, D, xl.2, rfl, hD.mono (TT.of_same s34), TT.of_same s4 _ _ hb, by have := (hR xl hxm).2.2; omega, (hR xl hxm).2.1, fun H5 s5 => ?_⟩
      refine ⟨v, ind D xl.2, e, rfl, indOk xl hxm, hve.mono (TT.of_same s5), hoe, fun H6 v6 e6 s6 hv6 ho6 => ?_⟩
      have ho7 := s6 _ _ (s5 _ _ ho4)
      have s46 := s5.trans s6
      refine ⟨o, _, _, rfl, rfl, ho7, by rw [hE.length, hl]; exact small5' (by omega), ?_⟩
      have tt : TT K H3 (upd H6 o (.lst (vs ++ [v6]))) := (TT.of_same (s4.trans s46)).trans (TT.lst ho7)
      refine ⟨_, _, _, es ++ [e6], rfl, Same.upn (s34.trans s46) no, upd_same, Papp (Pmap hE fun _ _ z => z.mono tt) (.cons (hv6.mono (TT.lst ho7)) .nil), by simp [hl], fun e' he' => ?_⟩
      rcases List.mem_append.mp he' with z | z
      · exact hOk e' z
      · rw [List.mem_singleton.mp z]; exact ho6
    · rintro σ H3 ⟨y5, y6, vs, es, rfl, sm, ho, hE, hl, hOk⟩
      have hlR2 : es.length = R.length := by rw [hl, hPr.length]
      have hOk2 : ∀ e ∈ es, EdOk 120 2 3 e := fun e he => (hOk e he).mono (by decide) (by decide) (by decide)
      refine ⟨_, rfl, _, rfl, _, _, rfl, rfl, sc, ns, st + 20, rfl, sm.seq hs, fun zc => ⟨zc, rfl, fun H4 n s4 => ?_⟩⟩
      have s34 : Same H H4 := sm.trans s4
      have ho4 := s4 _ _ ho
      have hE4 : Paired (IsEd K H4) vs es := Pmap hE fun _ _ z => z.mono (TT.of_same s4)
      have hp4 := s34 _ _ hrs
      have fin : ∃ v, [some (V.ref sc), some (.int (st : Int)), some (.ref d), some (.ref p), some (.ref o), y5, y6, some (.int (n : Int)), none][4]? = some (some v) ∧ Q v H4 := ⟨_, rfl, q H4 o es s34 ⟨vs, ho4, hE4⟩ hlR2 hOk2⟩
      refine ⟨_, rfl, _, _, rfl, rfl, (by show (0 : Int) < 3; decide), rfl, _, rfl, ?_⟩
      refine ite2 (fun h1 => ?_) (fun h1 => ?_)
      · refine ⟨_, rfl, p, _, rfl, .inl (SqL.of hp4), _, _, rfl, rfl, _, rfl, ite2 (fun h2 => ?_) (fun h2 => fin)⟩
        have hpos : 0 < rs.length := by
          have : (rs.length : Int) > 0 := of_decide_eq_true h2
          omega
        obtain ⟨j, ej, hj⟩ : ∃ j : Nat, ((n : Int) / 3) % (rs.length : Int) = (j : Int) ∧ j < rs.length := by
          refine ⟨n / 3 % rs.length, by simp, Nat.mod_lt _ hpos⟩
        refine ⟨_, rfl, _, _, rfl, rfl, ⟨by decide, by decide⟩, _, rfl, p, _, rfl, .inl (SqL.of hp4), _, _, rfl, rfl, (by show (0 : Int) < (rs.length : Int); omega), ?_⟩
        show gName 8 (V.int ((n : Int) / 3 % (rs.length : Int))) _ _ _
        rw [ej]
        have hjR : j < R.length := by rw [← hPr.length]; exact hj
        have hjE : j < es.length := by omega
        obtain ⟨ve, hve, hved⟩ := Pg2 hE4 (List.getElem?_eq_getElem hjE)
        obtain ⟨vr, hvr, hvrp⟩ := Pg2 hPr (List.getElem?_eq_getElem hjR)
        have hxm := List.getElem_mem hjR
        obtain ⟨a, b, t, rfl, ha, hb⟩ := (hvrp.mono (TT.of_same s34)).get
        refine ⟨_, rfl, _, rfl, o, _, _, ve, rfl, rfl, SqL.of ho4, atI_nat hve, _, rfl, _, _, rfl, rfl, ⟨by decide, by decide⟩, _, rfl, _, rfl, _, rfl, p, _, _, .ref a, rfl, rfl, SqL.of hp4, atI_nat hvr, a, _, 2, _, rfl, rfl, ha, atI_nat (j := 2) rfl, d, b, D, R[j].2, rfl, hD.mono (TT.of_same s34), hb, by have := (hR _ hxm).2.2; omega, (hR _ hxm).2.1, fun H5 s5 => ?_⟩
        refine ⟨ve, n / 1000, ind D R[j].2, es[j], ?_, indOk _ hxm, hved.mono (TT.of_same s5), hOk _ (List.getElem_mem hjE), fun H6 v6 e6 s6 hv6 ho6 => ?_⟩
        · show [ve, V.int ((n : Int) / 1000), V.int (ind D R[j].2 : Nat)] = _
          simp
        have ho7 := s6 _ _ (s5 _ _ ho4)
        refine ⟨_, rfl, _, rfl, o, _, _, j, rfl, rfl, ho7, ?_, ?_⟩
        · unfold ixN
          have : vs.length = es.length := hE4.length
          rw [if_pos (by omega), if_pos (by omega)]
          simp
        have tt : TT K H4 (upd H6 o (.lst (vs.set j v6))) := (TT.of_same (s5.trans s6)).trans (TT.lst ho7)
        refine ⟨_, rfl, q _ o (es.set j e6) (Same.upn (s34.trans (s5.trans s6)) no) ⟨_, upd_same, Pset (hv6.mono (TT.lst ho7)) j (Pmap hE4 fun _ _ z => z.mono tt)⟩ (by rw [List.length_set]; exact hlR2) fun e' he' => ?_⟩
        rcases List.mem_or_eq_of_mem_set he' with z | z
        · exact hOk2 e' z
        · rw [z]; exact ho6
      · exact fin
end
end K31
set_option maxHeartbeats 2000000
/-! T5: what is due: in plain Lean, and the law's own reckoning. -/
namespace K31
open PySem PySem.Spec PyProof.Rows L2
abbrev KnL := List (Nat × Ed × Nat)
inductive Out where
  | unfit (i : Nat) (w : Str)
  | apart (i j : Nat)
  | known (kn : KnL)
def look (l : Nat) : KnL → Option (Ed × Nat)
  | [] => none
  | x :: r => if x.1 = l then some x.2 else look l r
def own (D : List Ln) (a : Nat) : Str := match D[a]? with
  | some (.code t) => t
  | _ => ""
def stepR (D : List Ln) (i : Nat) (x : PL) (e : Ed) (kn : KnL) : Out :=
  if e.ahead ≠ [] ∧ headB D (x.1 - 1) = false then .unfit i "place" else
  match faults (ind D x.2) (texts e) with
  | some w => .unfit i w
  | none => match look x.1 kn with
    | none => .known (kn ++ [(x.1, backE (ind D x.2) (own D x.1) e, i)])
    | some g => if g.1 = backE (ind D x.2) (own D x.1) e then .known kn else .apart i g.2
def runR (D : List Ln) (R : List PL) (es : List Ed) : Nat → Out
  | 0 => .known []
  | k + 1 => match runR D R es k with
    | .known kn => match R[k]?, es[k]? with
      | some x, some e => stepR D k x e kn
      | _, _ => .known kn
    | o => o
section
variable {D : List Ln} {R : List PL} {es : List Ed}
theorem runR_step {k : Nat} {kn : KnL} {x : PL} {e : Ed} (h : runR D R es k = .known kn) (hx : R[k]? = some x) (he : es[k]? = some e) : runR D R es (k + 1) = stepR D k x e kn := by simp only [runR, h, hx, he]
theorem runR_stay {o : Out} {k : Nat} (h : runR D R es k = o) (hn : ∀ kn, o ≠ .known kn) : ∀ {j}, k ≤ j → runR D R es j = o := by
  intro j hj
  induction j with
  | zero =>
    have : k = 0 := by omega
    rw [this] at h
    exact h
  | succ j ih =>
    by_cases z : k = j + 1
    · rw [← z]; exact h
    · have := ih (by omega)
      cases o with
      | known kn => exact absurd rfl (hn kn)
      | unfit i w => simp only [runR, this]
      | apart i j => simp only [runR, this]
theorem step_place {i : Nat} {x : PL} {e : Ed} {kn : KnL} (h : e.ahead ≠ []) (hb : headB D (x.1 - 1) = false) : stepR D i x e kn = .unfit i "place" := if_pos ⟨h, hb⟩
theorem step_fault {i : Nat} {x : PL} {e : Ed} {kn : KnL} {w : Str} (h : ¬ (e.ahead ≠ [] ∧ headB D (x.1 - 1) = false)) (hw : faults (ind D x.2) (texts e) = some w) : stepR D i x e kn = .unfit i w := by
  unfold stepR
  rw [if_neg h, hw]
theorem step_new {i : Nat} {x : PL} {e : Ed} {kn : KnL} (h : ¬ (e.ahead ≠ [] ∧ headB D (x.1 - 1) = false)) (hw : faults (ind D x.2) (texts e) = none) (hl : look x.1 kn = none) : stepR D i x e kn = .known (kn ++ [(x.1, backE (ind D x.2) (own D x.1) e, i)]) := by
  unfold stepR
  rw [if_neg h, hw, hl]
theorem step_same {i : Nat} {x : PL} {e : Ed} {kn : KnL} {g : Ed × Nat} (h : ¬ (e.ahead ≠ [] ∧ headB D (x.1 - 1) = false)) (hw : faults (ind D x.2) (texts e) = none) (hl : look x.1 kn = some g) (hg : g.1 = backE (ind D x.2) (own D x.1) e) : stepR D i x e kn = .known kn := by
  unfold stepR
  rw [if_neg h, hw, hl]
  exact if_pos hg
theorem step_apart {i : Nat} {x : PL} {e : Ed} {kn : KnL} {g : Ed × Nat} (h : ¬ (e.ahead ≠ [] ∧ headB D (x.1 - 1) = false)) (hw : faults (ind D x.2) (texts e) = none) (hl : look x.1 kn = some g) (hg : ¬ g.1 = backE (ind D x.2) (own D x.1) e) : stepR D i x e kn = .apart i g.2 := by
  unfold stepR
  rw [if_neg h, hw, hl]
  exact if_neg hg
theorem look_mem {l : Nat} {g : Ed × Nat} : ∀ {kn : KnL}, look l kn = some g → (l, g) ∈ kn
  | x :: r, h => by
    unfold look at h
    by_cases z : x.1 = l
    · rw [if_pos z] at h
      have : x.2 = g := Option.some.inj h
      rw [← z, ← this]
      exact List.mem_cons_self
    · rw [if_neg z] at h
      exact List.mem_cons_of_mem _ (look_mem h)
theorem look_none {l : Nat} : ∀ {kn : KnL}, look l kn = none → ∀ x ∈ kn, x.1 ≠ l
  | y :: r, h, x, hx => by
    unfold look at h
    by_cases z : y.1 = l
    · rw [if_pos z] at h; cases h
    · rw [if_neg z] at h
      rcases List.mem_cons.mp hx with q | q
      · rw [q]; exact z
      · exact look_none h x q
theorem faults_take {n : Nat} {l : List Str} {i : Nat} {t : Str} (h : l[i]? = some t) (hp : faults n (l.take i) = none) {w : Str} (hw : fault n t = some w) : faults n l = some w := by
  have e : l = l.take i ++ (t :: l.drop (i + 1)) := by
    have hi := (List.getElem?_eq_some_iff.mp h)
    obtain ⟨hi1, hi2⟩ := hi
    rw [← hi2, List.getElem_cons_drop, List.take_append_drop]
  rw [e]
  unfold faults at hp ⊢
  rw [List.findSome?_append, hp, List.findSome?_cons, hw]
  rfl
theorem faults_succ {n : Nat} {l : List Str} {i : Nat} {t : Str} (h : l[i]? = some t) (hp : faults n (l.take i) = none) (hw : fault n t = none) : faults n (l.take (i + 1)) = none := by
  unfold faults at hp ⊢
  rw [List.take_add_one, h, List.findSome?_append, hp]
  show ([t].findSome? (fault n)) = none
  rw [List.findSome?_cons, hw]
  rfl
theorem fault_ne {n : Nat} {t w : Str} (h : fault n t = some w) : w ≠ "" := by
  unfold fault at h
  by_cases h0 : t = ""
  · rw [if_pos h0] at h; cases h
  · rw [if_neg h0] at h
    by_cases h1 : cutS t none (some (n : Int)) ≠ sp n
    · rw [if_pos h1] at h; rw [← Option.some.inj h]; decide +kernel
    · rw [if_neg h1] at h
      by_cases h2 : cutS t (some (n : Int)) none = ""
      · rw [if_pos h2] at h; rw [← Option.some.inj h]; decide +kernel
      · rw [if_neg h2] at h
        by_cases h3 : refB (cutS t (some (n : Int)) none) = true
        · rw [if_pos h3] at h; rw [← Option.some.inj h]; decide +kernel
        · rw [if_neg h3] at h; cases h
end
/-- a dict from lines -/
def KnD (G : V → Ed × Nat → Prop) (H : Hp) (k : Addr) (kn : KnL) : Prop := ∃ kvs : List (Key × V), H k = some (.dK kvs) ∧ Paired (fun (p : Key × V) (x : Nat × Ed × Nat) => p.1 = Sum.inl (x.1 : Int) ∧ G p.2 x.2) kvs kn
theorem kn_val {G : V → Ed × Nat → Prop} {l : Nat} : ∀ {kvs : List (Key × V)} {kn : KnL}, Paired (fun (p : Key × V) (x : Nat × Ed × Nat) => p.1 = Sum.inl (x.1 : Int) ∧ G p.2 x.2) kvs kn →
    (look l kn = none → valV kvs (Sum.inl (l : Int)) = none) ∧ ∀ g, look l kn = some g → ∃ v, valV kvs (Sum.inl (l : Int)) = some v ∧ G v g
  | _, _, .nil => ⟨fun _ => rfl, fun g h => by cases h⟩
  | p :: kvs, x :: kn, .cons ⟨h1, h2⟩ t => by
    obtain ⟨i1, i2⟩ := kn_val (l := l) t
    by_cases z : x.1 = l
    · have e : valV (p :: kvs) (Sum.inl (l : Int)) = some p.2 := valV_pos (by rw [h1, z])
      refine ⟨fun h => ?_, fun g h => ?_⟩
      · unfold look at h; rw [if_pos z] at h; cases h
      · unfold look at h
        rw [if_pos z] at h
        exact ⟨p.2, e, by rw [← Option.some.inj h]; exact h2⟩
    · have e : valV (p :: kvs) (Sum.inl (l : Int)) = valV kvs (Sum.inl (l : Int)) := valV_neg (by
        rw [h1]
        intro w
        have := Sum.inl.inj w
        exact z (by omega))
      refine ⟨fun h => ?_, fun g h => ?_⟩
      · unfold look at h; rw [if_neg z] at h; rw [e]; exact i1 h
      · unfold look at h; rw [if_neg z] at h; rw [e]; exact i2 g h
/-- the law's: the fate and its first line -/
def gLaw (K : PySem.W.Frag) (H : Hp) (v : V) (g : Ed × Nat) : Prop := ∃ (t : Addr) (u : V), v = .ref t ∧ SqT K H t [u, .int (g.2 : Nat)] ∧ IsEd K H u g.1
theorem gLaw.mono {K : PySem.W.Frag} {H H1 : Hp} (t : TT K H H1) {v : V} {g : Ed × Nat} (h : gLaw K H v g) : gLaw K H1 v g := let ⟨a, u, e, q, z⟩ := h; ⟨a, u, e, t _ _ q, z.mono t⟩
def IsDue (K : PySem.W.Frag) (H : Hp) (v : V) : Out → Prop
  | .unfit i w => ∃ a, v = .ref a ∧ SqT K H a [.str "unfit", .int (i : Nat), .str w]
  | .apart i j => ∃ a, v = .ref a ∧ SqT K H a [.str "apart", .int (i : Nat), .int (j : Nat)]
  | .known kn => ∃ a k, v = .ref a ∧ SqT K H a [.str "fates", .ref k] ∧ KnD (gLaw K H) H k kn ∧ (∀ x ∈ kn, EdOk 120 2 3 x.2.1) ∧ kn.length ≤ 120
abbrev sLDue : Stmt := top 65
abbrev nLDue : List Str := ["_law_document_here", "_law_program", "_law_edits_here", "_law_known", "_law_at", "_law_line_here", "_law_indent_here", "_law_text_here", "_law_fate_here"]
theorem scLDue : FnScope nLDue ["_law_document_here", "_law_program", "_law_edits_here"] (defScope sLDue) := ⟨rfl, rfl, rfl, by decide +kernel, rfl, by decide +kernel, by decide +kernel⟩
section
variable {P : Program} {w : World} {K : PySem.W.Frag} {mg : Str → Option Value} {base : Heap}
def spLDue (K : PySem.W.Frag) : Sp := fun vs H Q _ => ∃ (d p q : Addr) (D : List Ln) (R : List PL) (es : List Ed), vs = [.ref d, .ref p, .ref q] ∧ IsDoc K H d D ∧ WfD D ∧ IsProg K H p R ∧ (∀ x ∈ R, PlOk D 6 x) ∧ R.length ≤ 120 ∧ IsEds K H q es ∧ es.length = R.length ∧ (∀ e ∈ es, EdOk 120 2 3 e) ∧
  ∀ (H' : Hp) (v : V), Same H H' → IsDue K H' v (runR D R es R.length) → Q v H'
theorem lnV_own {D : List Ln} {a : Nat} {t : Str} (h : D[a]? = some (.code t)) : own D a = t := by rw [own, h]
theorem cal_lDue (F : At K mg "_law_due" sLDue) (In : Cal P w K mg base CX0 1 "_law_indent" ["_law_document_here", "_law_path"] (spInd K)) (Fi : Cal P w K mg base CX0 1 "_law_is_first" ["_law_document_here", "_law_line_here"] (spFirst K))
    (Tx : Cal P w K mg base CX0 1 "_law_texts" ["_law_edit_here"] (spLTexts K)) (Fa : Cal P w K mg base CX0 3 "_law_fault" ["_law_text_here", "_law_indent_here"] spLFault) (Bk : Cal P w K mg base CX0 2 "_law_back" ["_law_edit_here", "_law_indent_here", "_law_own"] (spLBack K))
    (mR : mg "range" = none) (mL : mg "len" = none) : Cal P w K mg base CX0 4 "_law_due" ["_law_document_here", "_law_program", "_law_edits_here"] (spLDue K) := by
  refine F.cal scLDue (fun vs H Q E h => ?_) (fun _ _ _ _ _ _ us hl => match us, hl with | [_, _, _], _ => rfl) (fun f cdv A outer s H vs Q E hr h => ?_)
  · obtain ⟨d, p, q, D, R, es, rfl, _⟩ := h
    rfl
  · obtain ⟨d, p, q0, D, R, es, rfl, hD, wf, hP, hR, hlR, hE, hlE, hEok, q⟩ := h
    refine ⟨_, pss_cons (ps_set (i := 3) scLDue.nd rfl (.inl rfl) pe_dnewK)
      <| pss_cons (ps_for PassesOwn.never rfl (pi_range1 (by rfl) mR (pa_cons (pe_callB call_len_seq (by rfl) mL PySem.boot_len (pa_cons (pv 1) pa_nil)) pa_nil)) (pg_name (i := 4) scLDue.nd rfl (.inl rfl))
        (pss_cons (ps_set (i := 5) scLDue.nd rfl (.inl rfl) (pe_ix ix_tup (pe_ix ix_list (pv 1) (pv 4) (fun _ _ => rfl)) pe_int (fun _ _ => rfl)))
        <| pss_cons (ps_set (i := 6) scLDue.nd rfl (.inl rfl) (pe_cal0 In (hr.mono (by decide)) (pa_cons (pv 0) (pa_cons (pe_ix ix_tup (pe_ix ix_list (pv 1) (pv 4) (fun _ _ => rfl)) pe_int (fun _ _ => rfl)) pa_nil))))
        <| C8.pss_cut (ps_if (PW.pt (pw_and (pt_cmpR op_gt (pe_callB call_len_seq (by rfl) mL PySem.boot_len (pa_cons (pe_ix ix_tup (pe_ix ix_list (pv 2) (pv 4) (fun _ _ => rfl)) pe_int (fun _ _ => rfl)) pa_nil)) pe_int (nomark _))
              (pw_and1 (pt_not (pt_val (pe_cal0 Fi (hr.mono (by decide)) (pa_cons (pv 0) (pa_cons (pv 5) pa_nil))))))))
            (pss_one (ps_ret (pe_tup (pa_cons pe_str (pa_cons (pv 4) (pa_cons pe_str pa_nil)))))) pss_nil)
        <| pss_cons (ps_for PassesOwn.never rfl (pi_list (pe_cal0 Tx (hr.mono (by decide)) (pa_cons (pe_ix ix_list (pv 2) (pv 4) (fun _ _ => rfl)) pa_nil))) (pg_name (i := 7) scLDue.nd rfl (.inl rfl))
            (pss_one (ps_if (pt_cmpR op_ne (pe_cal0 Fa hr (pa_cons (pv 7) (pa_cons (pv 6) pa_nil))) pe_str (nomark _))
              (pss_one (ps_ret (pe_tup (pa_cons pe_str (pa_cons (pv 4) (pa_cons (pe_cal0 Fa hr (pa_cons (pv 7) (pa_cons (pv 6) pa_nil))) pa_nil)))))) pss_nil)))
        <| pss_cons (ps_set (i := 8) scLDue.nd rfl (.inl rfl) (pe_cal0 Bk (hr.mono (by decide)) (pa_cons (pe_ix ix_list (pv 2) (pv 4) (fun _ _ => rfl)) (pa_cons (pv 6) (pa_cons (pe_ix ix_tup (pe_ix ix_tup (pv 0) (pv 5) (fun _ _ => rfl)) pe_int (fun _ _ => rfl)) pa_nil)))))
        <| pss_one (ps_if (pt_cmp (pc_dnotin (hu_of hr) (pv 5) (pv 3))) (pss_one (ps_dput (hu_of hr) (pv 3) (pv 5) (pe_tup (pa_cons (pv 8) (pa_cons (pv 4) pa_nil))) rfl))
            (pss_one (ps_if (pt_cmpR (op_neD hr.units) (pe_ix ix_tup (pe_dget (hu_of hr) (pv 3) (pv 5) (fun _ _ => rfl)) pe_int (fun _ _ => rfl)) (pv 8) (nomark _))
              (pss_one (ps_ret (pe_tup (pa_cons pe_str (pa_cons (pv 4) (pa_cons (pe_ix ix_tup (pe_dget (hu_of hr) (pv 3) (pv 5) (fun _ _ => rfl)) pe_int (fun _ _ => rfl)) pa_nil)))))) pss_nil)))))
      <| pss_one (ps_ret (pe_tup (pa_cons pe_str (pa_cons (pv 3) pa_nil)))), ?_⟩
    refine fun k nk => ?_
    obtain ⟨rs, hrs, hPr⟩ := _root_.id hP
    obtain ⟨ev, hev, hEv⟩ := _root_.id hE
    refine ⟨_, rfl, p, rs, rfl, .inl (SqL.of (Same.new nk _ _ hrs)), (R.length : Int), by rw [hPr.length], by omega, by omega, ?_⟩
    have tell : ∀ (H' : Hp) (o : Out) (i : Nat) (v : V), Same H H' → i < R.length → runR D R es (i + 1) = o → (∀ kn, o ≠ .known kn) → IsDue K H' v o → Q v H' := fun H' o i v sm hi ho hn hd => q H' v sm (by rw [runR_stay ho hn (by omega)]; exact hd)
    refine for_range (n := R.length) (fun i σ H3 => ∃ (y4 y5 y6 y7 y8 : Option V) (kn : KnL), σ = [some (.ref d), some (.ref p), some (.ref q0), some (.ref k), y4, y5, y6, y7, y8] ∧ Same H H3 ∧ runR D R es i = .known kn ∧ KnD (gLaw K H3) H3 k kn ∧ (∀ x ∈ kn, EdOk 120 2 3 x.2.1) ∧ kn.length ≤ i ∧ i ≤ R.length) ?_ ?_ ?_
    · exact ⟨none, none, none, none, none, [], rfl, Same.new nk, rfl, ⟨[], upd_same, .nil⟩, (fun x hx => by cases hx), Nat.le_refl _, Nat.zero_le _⟩
    · rintro i σ H3 hi ⟨y4, y5, y6, y7, y8, kn, rfl, sm, hrun, hk, hok, hkl, _⟩
      have ei : (0 : Int) + (i : Int) = (i : Int) := by omega
      have hRi := List.getElem?_eq_getElem hi
      have hEi := List.getElem?_eq_getElem (show i < es.length by omega)
      have hxm := List.getElem_mem hi
      have hem := List.getElem_mem (show i < es.length by omega)
      obtain ⟨vr, hvr, hvrp⟩ := Pg2 hPr hRi
      obtain ⟨ve, hve, hvee⟩ := Pg2 hEv hEi
      obtain ⟨y, ey, hy, tx, htx⟩ := pl_pos wf (hR _ hxm)
      have hpl := hR _ hxm
      have heo := hEok _ hem
      have hstep := runR_step hrun hRi hEi
      generalize R[i] = x at hRi hxm hvrp ey htx hpl hstep
      generalize es[i] = e at hEi hem hvee heo hstep
      obtain ⟨a, b, t, rfl, ha, hb⟩ := hvrp.get
      have haH : ∀ {H' : Hp}, Same H H' → SqT K H' a [.str t, .int (x.1 : Nat), .ref b] := fun s => TT.of_same s _ _ ha
      have hrL : ∀ {H' : Hp}, Same H H' → SqL K H' p rs := fun s => SqL.of (s _ _ hrs)
      have heL : ∀ {H' : Hp}, Same H H' → SqL K H' q0 ev := fun s => SqL.of (s _ _ hev)
      have atR : atI rs (0 + (i : Int)) = some (.ref a) := by rw [ei]; exact atI_nat hvr
      have atE : atI ev (0 + (i : Int)) = some ve := by rw [ei]; exact atI_nat hve
      have own_ := lnV_own htx
      rw [← ey] at htx own_
      have hi100 : ind D x.2 ≤ 100 := by
        have h1 := ind_le wf x.2 hpl.2.1
        have h2 := hpl.2.2
        omega
      refine ⟨_, rfl, _, rfl, p, _, _, _, rfl, rfl, hrL sm, atR, a, _, 1, _, rfl, rfl, haH sm, atI_nat (j := 1) rfl, ?_⟩
      refine ⟨_, rfl, _, rfl, _, rfl, p, _, _, _, rfl, rfl, hrL sm, atR, a, _, 2, _, rfl, rfl, haH sm, atI_nat (j := 2) rfl, d, b, D, x.2, rfl, hD.mono (TT.of_same sm), TT.of_same sm _ _ hb, by have := hpl.2.2; omega, hpl.2.1, fun H4 s4 => ?_⟩
      have s04 : Same H H4 := sm.trans s4
      obtain ⟨ea, ex, ec, ez, rfl, e1, ⟨exa, rfl, ehx⟩, ⟨eca, rfl, ehc⟩, ⟨eza, rfl, ehz⟩⟩ := hvee
      have hee : ∀ {H' : Hp}, Same H H' → IsEd K H' (.ref ea) e := fun s => IsEd.mono (TT.of_same s) ⟨ea, _, _, _, rfl, e1, ⟨exa, rfl, ehx⟩, ⟨eca, rfl, ehc⟩, ⟨eza, rfl, ehz⟩⟩
      refine ⟨fun σ' H' => σ' = [some (.ref d), some (.ref p), some (.ref q0), some (.ref k), some (.int (0 + (i : Int))), some (.int (x.1 : Nat)), some (.int (ind D x.2 : Nat)), y7, y8] ∧ H' = H4 ∧ ¬ (e.ahead ≠ [] ∧ headB D (x.1 - 1) = false), ?_, ?_⟩
      · refine ⟨_, rfl, _, rfl, q0, _, _, _, rfl, rfl, heL s04, atE, ea, _, 0, _, rfl, rfl, TT.of_same s04 _ _ e1, atI_nat (j := 0) rfl, exa, _, rfl, .inr (TT.of_same s04 _ _ ehx), _, _, rfl, rfl, _, rfl, ?_⟩
        refine ite2 (fun h1 => ?_) (fun h1 => ?_)
        · have hne : e.ahead ≠ [] := fun z => by
            have h2 : (((strsV e.ahead).length : Nat) : Int) > 0 := of_decide_eq_true h1
            rw [strsV_len, z] at h2
            exact absurd h2 (by decide)
          have hy1 : x.1 - 1 = y := by omega
          refine ⟨_, rfl, _, rfl, d, D, y, (by show [V.ref d, V.int ((x.1 : Nat) : Int)] = _; rw [ey]), hD.mono (TT.of_same s04), hy, _, rfl, ?_⟩
          cases hb : headB D y with
          | false =>
            refine iteT ⟨_, rfl, by show 3 ≤ sizeLine; decide, fun u nu => ?_⟩
            refine tell _ (.unfit i "place") i (.ref u) (s04.trans (Same.new nu)) hi ?_ (fun kn z => by cases z) ⟨u, rfl, SqT.of (by rw [ei]; exact upd_same)⟩
            rw [hstep]
            exact step_place hne (by rw [hy1]; exact hb)
          | true => exact iteF ⟨rfl, rfl, fun z => by rw [hy1, hb] at z; exact absurd z.2 (by decide)⟩
        · refine ⟨rfl, rfl, fun z => h1 (decide_eq_true ?_)⟩
          show (((strsV e.ahead).length : Nat) : Int) > 0
          rw [strsV_len]
          have := List.length_pos_iff.mpr z.1
          omega
      rintro σ' H' ⟨rfl, rfl, hno⟩
      -- the texts
      refine ⟨_, rfl, _, rfl, q0, _, _, _, rfl, rfl, heL s04, atE, .ref ea, e, rfl, hee s04, heo, fun H5 L s5 hL => ?_⟩
      have s05 : Same H H5 := s04.trans s5
      have htk := texts_ok heo
      refine ⟨L, rfl, ⟨_, SqL.of hL⟩, ?_⟩
      refine for_list (xs := strsV (texts e)) (fun j σ H6 => ∃ y7 : Option V, σ = [some (.ref d), some (.ref p), some (.ref q0), some (.ref k), some (.int (0 + (i : Int))), some (.int (x.1 : Nat)), some (.int (ind D x.2 : Nat)), y7, y8] ∧ H6 = H5 ∧ faults (ind D x.2) ((texts e).take j) = none) ⟨y7, rfl, rfl, rfl⟩ ?_ ?_ ?_
      · rintro j σ H6 hj ⟨y7, rfl, rfl, _⟩
        exact SqL.of hL
      · rintro j v σ H6 hv ⟨y7, rfl, rfl, hnone⟩
        obtain ⟨t1, ht1, rfl⟩ : ∃ t1, (texts e)[j]? = some t1 ∧ v = .str t1 := by
          rw [strsV, List.getElem?_map] at hv
          cases z : (texts e)[j]? with
          | none => rw [z] at hv; cases hv
          | some m => rw [z] at hv; exact ⟨m, rfl, (Option.some.inj hv).symm⟩
        have ht2 := htk t1 (List.mem_of_getElem? ht1)
        refine ⟨_, rfl, _, rfl, t1, ind D x.2, rfl, ht2.1, by have := ht2.2; omega, by omega, rfl, _, rfl, ?_⟩
        rw [strdec]
        cases hf : fault (ind D x.2) t1 with
        | none =>
          show if (!decide (("" : Str) = "")) = true then _ else _
          rw [decide_eq_true rfl]
          exact iteF ⟨_, rfl, rfl, faults_succ ht1 hnone hf⟩
        | some w0 =>
          show if (!decide (w0 = "")) = true then _ else _
          rw [decide_eq_false (fault_ne hf)]
          refine iteT ⟨_, rfl, _, rfl, _, rfl, t1, ind D x.2, rfl, ht2.1, by have := ht2.2; omega, by omega, by show 3 ≤ sizeLine; decide, fun u nu => ?_⟩
          refine tell _ (.unfit i w0) i (.ref u) (s05.trans (Same.new nu)) hi ?_ (fun kn z => by cases z) ⟨u, rfl, SqT.of (by rw [ei, hf]; exact upd_same)⟩
          rw [hstep]
          exact step_fault hno (faults_take ht1 hnone hf)
      · rintro σ H6 ⟨y7, rfl, rfl, hnone⟩
        rw [strsV_len, List.take_length] at hnone
        obtain ⟨dv, da, d1, d2, d3⟩ := (hD.mono (TT.of_same s05)).at htx
        refine ⟨_, rfl, _, rfl, q0, _, _, _, rfl, rfl, heL s05, atE, _, rfl, _, rfl, _, rfl, d, dv, _, _, rfl, rfl, d1, d2, da, _, 1, _, rfl, rfl, d3, atI_nat (j := 1) rfl, ?_⟩
        refine ⟨.ref ea, ind D x.2, tx, e, rfl, hi100, hee s05, heo, fun H7 v7 s7 hv7 => ?_⟩
        have s07 : Same H H7 := s05.trans s7
        have s37 : Same H3 H7 := (s4.trans s5).trans s7
        obtain ⟨kvs, hkv, hkp⟩ := hk
        have hkv7 := s37 _ _ hkv
        have hkp7 : Paired (fun (p : Key × V) (x : Nat × Ed × Nat) => p.1 = Sum.inl (x.1 : Int) ∧ gLaw K H7 p.2 x.2) kvs kn := Pmap hkp fun _ _ z => ⟨z.1, z.2.mono (TT.of_same s37)⟩
        obtain ⟨k1, k2⟩ := kn_val (l := x.1) hkp7
        have hbk : backE (ind D x.2) (own D x.1) e = backE (ind D x.2) tx e := by rw [own_]
        refine ⟨_, rfl, _, rfl, k, _, rfl, DGet.k (k := Sum.inl ((x.1 : Nat) : Int)) hkv7, _, rfl, ?_⟩
        cases hlk : look x.1 kn with
        | none =>
          rw [k1 hlk]
          refine iteT ⟨_, rfl, _, rfl, by show 2 ≤ sizeLine; decide, fun u nu => ?_⟩
          have hkv8 : upd H7 u (.tup [v7, .int (0 + (i : Int))]) k = some (.dK kvs) := by rw [upd_ne (ne_of_none hkv7 nu)]; exact hkv7
          refine ⟨_, rfl, _, rfl, k, _, rfl, DPut.k (k := Sum.inl ((x.1 : Nat) : Int)) hkv8 (small5' (by rw [hkp.length]; omega)), ?_⟩
          rw [putK_new _ (k1 hlk)]
          have tt : TT K H7 (upd (upd H7 u (.tup [v7, .int (0 + (i : Int))])) k (.dK (kvs ++ [(Sum.inl ((x.1 : Nat) : Int), .ref u)]))) := (TT.new nu).trans (TT.dk hkv8)
          refine ⟨_, _, _, _, _, kn ++ [(x.1, backE (ind D x.2) (own D x.1) e, i)], rfl, Same.upn (s07.trans (Same.new nu)) nk, ?_, ⟨_, upd_same, Papp (Pmap hkp7 fun _ _ z => ⟨z.1, z.2.mono tt⟩) (.cons ⟨rfl, u, v7, rfl, TT.dk hkv8 _ _ (SqT.of (by rw [ei]; exact upd_same)), ?_⟩ .nil)⟩, ?_, by simp; omega, by omega⟩
          · rw [hstep]; exact step_new hno hnone hlk
          · show IsEd K _ v7 (backE (ind D x.2) (own D x.1) e)
            rw [hbk]
            exact hv7.mono tt
          · intro x' hx'
            rcases List.mem_append.mp hx' with z | z
            · exact hok x' z
            · rw [List.mem_singleton.mp z]; exact backE_ok heo
        | some g =>
          obtain ⟨vg, hvg, tg, ug, rfl, g1, g2⟩ := k2 g hlk
          rw [hvg]
          have hgo : EdOk 120 2 3 g.1 := hok _ (look_mem hlk)
          have hg : DGet H7 k (.int ((x.1 : Nat) : Int)) (some (.ref tg)) := by rw [← hvg]; exact DGet.k (k := Sum.inl ((x.1 : Nat) : Int)) hkv7
          refine iteF ⟨_, rfl, _, rfl, k, _, rfl, hg, tg, _, 0, _, rfl, rfl, g1, atI_nat (j := 0) rfl, _, rfl, edD g.1, edD (backE (ind D x.2) tx e), g2.dp, hv7.dp, shaped_ed hgo.asc, shaped_ed (backE_ok heo).asc, _, rfl, ?_⟩
          rw [eqv_ed]
          by_cases hge : g.1 = backE (ind D x.2) tx e
          · rw [decide_eq_true hge]
            refine iteF ⟨_, _, _, _, _, kn, rfl, s07, ?_, ⟨kvs, hkv7, hkp7⟩, hok, by omega, by omega⟩
            rw [hstep]; exact step_same hno hnone hlk (by rw [hbk]; exact hge)
          · rw [decide_eq_false hge]
            refine iteT ⟨_, rfl, _, rfl, _, rfl, k, _, rfl, hg, tg, _, 1, _, rfl, rfl, g1, atI_nat (j := 1) rfl, by show 3 ≤ sizeLine; decide, fun u nu => ?_⟩
            refine tell _ (.apart i g.2) i (.ref u) (s07.trans (Same.new nu)) hi ?_ (fun kn z => by cases z) ⟨u, rfl, SqT.of (by rw [ei]; exact upd_same)⟩
            rw [hstep]
            exact step_apart hno hnone hlk (by rw [hbk]; exact hge)
    · rintro σ H3 ⟨y4, y5, y6, y7, y8, kn, rfl, sm, hrun, ⟨kvs, hkv, hkp⟩, hok, hkl, _⟩
      refine ⟨_, rfl, by show 2 ≤ sizeLine; decide, fun u nu => ?_⟩
      refine q _ (.ref u) (sm.trans (Same.new nu)) ?_
      rw [hrun]
      exact ⟨u, k, rfl, SqT.of upd_same, ⟨kvs, by rw [upd_ne (ne_of_none hkv nu)]; exact hkv, Pmap hkp fun _ _ z => ⟨z.1, z.2.mono (TT.new nu)⟩⟩, hok, by omega⟩
end
end K31
set_option maxHeartbeats 2000000
/-! T6: without_indent, code_edit, plain_change, is_touched, said_of. -/
namespace K31
open PySem PySem.Spec PyProof.Rows L2
abbrev sWi : Stmt := top 33
abbrev sCodeEdit : Stmt := top 34
abbrev sPlain : Stmt := top 35
abbrev sTouched : Stmt := top 10
abbrev sSaid : Stmt := top 38
theorem scWi : FnScope ["at", "text", "indent", "rest"] ["at", "text", "indent"] (defScope sWi) := ⟨rfl, rfl, rfl, by decide +kernel, rfl, by decide +kernel, by decide +kernel⟩
abbrev nCodeEdit : List Str := ["at", "edit", "indent", "ahead", "change", "behind", "put_ahead", "text"]
theorem scCodeEdit : FnScope nCodeEdit ["at", "edit", "indent"] (defScope sCodeEdit) := ⟨rfl, rfl, rfl, by decide +kernel, rfl, by decide +kernel, by decide +kernel⟩
theorem scPlain : FnScope ["edit", "text", "ahead", "change", "behind"] ["edit", "text"] (defScope sPlain) := ⟨rfl, rfl, rfl, by decide +kernel, rfl, by decide +kernel, by decide +kernel⟩
theorem scTouched : FnScope ["edit"] ["edit"] (defScope sTouched) := ⟨rfl, rfl, rfl, by decide +kernel, rfl, by decide +kernel, by decide +kernel⟩
theorem scSaid : FnScope ["document", "firsts", "at", "line", "edit", "fate"] ["document", "firsts", "at", "line", "edit"] (defScope sSaid) := ⟨rfl, rfl, rfl, by decide +kernel, rfl, by decide +kernel, by decide +kernel⟩
/-- an exception class of two fields -/
structure ExF (P : Program) (w : World) (K : PySem.W.Frag) (mg : Str → Option Value) (base : Heap) (x fa fb : Str) (C : Addr) : Prop where
  ex : ∃ (cc fI : Addr) (fd : FuncData), SupC K C cc ∧ PySem.W.findIn K (.ref C) "__init__" = some (some (.ref fI)) ∧ PySem.W.typeIn K (.ref fI) = some (.type "function") ∧ FnOk P w K mg base CX0 1 fI fd ["self", fa, fb] (spX2 C fa fb) ∧ Binds K fd ["self", fa, fb] [] ∧ mg x = some (.ref C)
theorem pmk_ex {X : Cx} {x fa fb : Str} {C : Addr} {e : Expr} {es : List Expr} {ta : TA} {p pos : Pos} (T : ExF X.prog X.w X.K X.mg X.base x fa fb C) (hr : Room 2 X.A) (ha : PA X (e :: es) ta)
    (mono : ∀ (σ : L2.St) (H : Hp) (Q Q' : List V → Hp → Prop), (∀ vs H, Q vs H → Q' vs H) → ta σ H Q → ta σ H Q') (hg : Gl X x := by rfl)
    (hdb : (x == ("__debug__" : Str)) = false := by decide) (he : starEach (e :: es) X.env = (false, eval e X.env) :: starEach es X.env := by rfl) (hpl : (backTo pos (starEach es X.env)).any (·.1) = false := by rfl) :
    PMk X (.Call (.Name x p) (e :: es) [] pos) (tMkX C fa fb ta) := by
  obtain ⟨cc, fI, fd, h1, h2, h3, h4, h5, h6⟩ := T.ex
  exact pmk_x2 h1 h2 h3 h4 hr h5 pass0 hg h6 ha mono hdb he hpl
section
variable {X : Cx} {CX : CXT} {k : Nat} {ps : List Str} {sp : Sp} {E : XK} {x : Str} {p pos : Pos} {e : Expr} {es : List Expr} {t : TA}
theorem pe_calP (F : Cal X.prog X.w X.K X.mg X.base CX k x ps sp) (hr : Room k X.A) (hx : Passes CX X E) (ha : PA X (e :: es) t) (hg : Gl X x := by rfl) (hdb : (x == ("__debug__" : Str)) = false := by decide)
    (he : starEach (e :: es) X.env = (false, eval e X.env) :: starEach es X.env := by rfl) (hpl : (backTo pos (starEach es X.env)).any (·.1) = false := by rfl) : PE X (.Call (.Name x p) (e :: es) [] pos) (tCall sp [] E t) := by
  obtain ⟨f, fd, F1, hm, hk, hb⟩ := F.ex
  exact pe_call F1 hr hg hm hk hb .nil hx ha hdb he hpl
end
theorem fm_str {y : Str} (h : y.length ≤ 100) : Fm (.str y) := .inl ⟨y, rfl, h⟩
theorem fm_nat {i : Nat} (h : i ≤ 1000) : Fm (.int (i : Int)) := .inr ⟨(i : Int), rfl, by
  have : ((i : Int).natAbs) = i := by simp
  rw [this]
  have : i.log2 ≤ i := Nat.log2_le_self i
  omega⟩
/-- the error at d's dict, of the class at C -/
def Bad (E : XK) (C : Addr) (i : Nat) (w : Str) (H : Hp) : Prop := ∀ H' d, Sm H H' → H' d = some (.xd [("what", .str w), ("at", .int (i : Nat))]) → E (.ref C) (some d) H'
theorem Bad.sm {E : XK} {C : Addr} {i : Nat} {w : Str} {H H1 : Hp} (h : Bad E C i w H) (s : Sm H H1) : Bad E C i w H1 := fun H' d s' e => h H' d (s.trans s') e
theorem Bad.now {E : XK} {C : Addr} {i : Nat} {w : Str} {H : Hp} (h : Bad E C i w H) : ∀ d, H d = none → E (.ref C) (some d) (upd H d (.xd [("what", .str w), ("at", .int (i : Nat))])) := fun d hd => h _ d (Same.sm (Same.new hd)) upd_same
section
variable {P : Program} {w : World} {K : PySem.W.Frag} {mg : Str → Option Value} {base : Heap}
def spWi (C Pt : Addr) : Sp := fun vs H Q E => ∃ (i : Nat) (t : Str) (n : Nat), vs = [.int (i : Int), .str t, .int (n : Int)] ∧ i ≤ 1000 ∧ TxOk 1000 t ∧ n ≤ 1000 ∧ GxR.TabG H Pt ∧
  (fault n t = none → ∀ H', Sm H H' → Q (.str (restS n t)) H') ∧ (∀ w, fault n t = some w → Bad E C i w H)
theorem cal_wi {C Pt : Addr} (F : At K mg "without_indent" sWi) (U : ExF P w K mg base "Unfit" "at" "what" C) (Co : Cal P w K mg base CX0 4 "is_code" ["text"] (spTest Pt fun t => !refB t)) :
    Cal P w K mg base (L2.CX P w) 5 "without_indent" ["at", "text", "indent"] (spWi C Pt) := by
  refine F.calX scWi (fun vs H Q E h => ?_) (fun _ _ _ _ _ _ us hl => match us, hl with | [_, _, _], _ => rfl) (fun f cdv A outer s H vs Q E hr h => ?_)
  · obtain ⟨i, t, n, rfl, _⟩ := h
    rfl
  · obtain ⟨i, t, n, rfl, hi, ht, hn, hT, q, qb⟩ := h
    have mono : ∀ (y : Str) (σ : L2.St) (H : Hp) (Q Q' : List V → Hp → Prop), (∀ vs H, Q vs H → Q' vs H) → tCons (tVar 0) (tCons (tC (.str y)) tNil) σ H Q → tCons (tVar 0) (tCons (tC (.str y)) tNil) σ H Q' := fun y σ H Q Q' hq ⟨v, e, z⟩ => ⟨v, e, hq _ _ z⟩
    refine ⟨_, pss_cons (ps_if (pt_cmpR op_eq (pv 1) pe_str (nomark _)) (pss_one (ps_ret (pv 1))) pss_nil)
      <| pss_cons (ps_if (pt_cmpR op_ne (pe_slice sl_str (pv 1) po_none (po_some (pv 2))) (pe_op op_mul_str pe_str (pv 2)) (nomark _)) (pss_one (ps_raise rfl (takes_of rfl rfl rfl rfl) (pmk_ex U (hr.mono (by decide)) (pa_cons (pv 0) (pa_cons pe_str pa_nil)) (mono _)))) pss_nil)
      <| pss_cons (ps_set (i := 3) scWi.nd rfl (.inl rfl) (pe_slice sl_str (pv 1) (po_some (pv 2)) po_none))
      <| pss_cons (ps_if (pt_cmpR op_eq (pv 3) pe_str (nomark _)) (pss_one (ps_raise rfl (takes_of rfl rfl rfl rfl) (pmk_ex U (hr.mono (by decide)) (pa_cons (pv 0) (pa_cons pe_str pa_nil)) (mono _)))) pss_nil)
      <| pss_cons (ps_if (pt_not (pt_val (pe_cal0 Co hr (pa_cons (pv 3) pa_nil)))) (pss_one (ps_raise rfl (takes_of rfl rfl rfl rfl) (pmk_ex U (hr.mono (by decide)) (pa_cons (pv 0) (pa_cons pe_str pa_nil)) (mono _)))) pss_nil)
      <| pss_one (ps_ret (pv 3)), ?_⟩
    have n5 : t.length ≤ sizeLine := small5 (by have := ht.2; omega)
    have bad : ∀ (w : Str), w.length ≤ 100 → fault n t = some w → ∀ H', Sm H H' → tMkX C "at" "what" (fun _ H Q => Q [.int (i : Int), .str w] H) [] H' (fun cls d H' => E cls d H') := fun w hw hf H' sm =>
      ⟨_, _, rfl, fm_nat hi, fm_str hw, ((qb w hf).sm sm).now⟩
    refine ⟨_, rfl, rfl, _, rfl, ?_⟩
    rw [strdec]
    by_cases h0 : t = ""
    · rw [decide_eq_true h0]
      have := q (by rw [fault, if_pos h0]) H (Sm.refl H)
      rw [restS, if_pos h0, ← h0] at this
      exact iteT ⟨_, rfl, this⟩
    rw [decide_eq_false h0]
    rw [fault, if_neg h0] at q qb bad
    rw [restS, if_neg h0] at q
    refine iteF ⟨_, rfl, _, rfl, n, rfl, t, rfl, n5, _, rfl, n, " ", rfl, rfl, rfl, by omega, rfl, _, rfl, ?_⟩
    rw [mul_sp, strdec]
    by_cases h1 : cutS t none (some (n : Int)) = sp n
    · rw [decide_eq_true h1]
      rw [if_neg (fun z => z h1)] at q qb bad
      refine iteF ⟨_, rfl, _, rfl, n, rfl, t, rfl, n5, ?_⟩
      refine ⟨_, rfl, rfl, _, rfl, ?_⟩
      rw [strdec]
      by_cases h2 : cutS t (some (n : Int)) none = ""
      · rw [decide_eq_true h2]
        rw [if_pos h2] at bad
        exact iteT ⟨_, rfl, bad _ (by decide +kernel) rfl H (Sm.refl H)⟩
      · rw [decide_eq_false h2]
        rw [if_neg h2] at q qb bad
        refine iteF ⟨_, rfl, _, rfl, hT, cut_asc ht.1 _ _, Nat.le_trans (cut_len _ _ _) ht.2, fun H' sm => ⟨_, rfl, ?_⟩⟩
        show if (!(!refB (cutS t (some (n : Int)) none))) = true then _ else _
        cases hb : refB (cutS t (some (n : Int)) none) with
        | true =>
          rw [hb, if_pos rfl] at bad
          exact iteT ⟨_, rfl, bad _ (by decide +kernel) rfl H' sm⟩
        | false =>
          rw [hb, if_neg Bool.false_ne_true] at q
          exact iteF ⟨_, rfl, q rfl H' sm⟩
    · rw [decide_eq_false h1]
      rw [if_pos h1] at bad
      exact iteT ⟨_, rfl, bad _ (by decide +kernel) rfl H (Sm.refl H)⟩
/-- [without_indent(at, t, indent) for t in texts] -/
theorem lc_wi {a : Addr} {xs : List Str} {te : TE} {i n : Nat} {σ : L2.St} {H1 : Hp} {D : Addr} {Qd : Hp → Prop} {BadH : Str → Hp → Prop} (hD : H1 D = none) (hx : SqT K H1 a (strsV xs)) (hl : xs.length ≤ 1000) (hw : ∀ v, wipe ((wipe σ [i]).set i v) [i] = wipe σ [i])
    (hte : ∀ t ∈ xs, ∀ (H' : Hp) (Q : VK), Sm H1 H' → (fault n t = none → ∀ H'', Sm H' H'' → Q (.str (restS n t)) H'') → (∀ w, fault n t = some w → BadH w H') → te ((wipe σ [i]).set i (some (.str t))) H' Q)
    (hbad : ∀ w, faults n xs = some w → ∀ H', Sm H1 H' → BadH w H') (hd : faults n xs = none → ∀ H', Sm H1 H' → H' D = some (.lst (strsV (xs.map (restS n)))) → Qd H') :
    ∃ W : Nat → Nat → Hp → Prop, (∃ m, W 0 m (upd H1 D (.lst []))) ∧ ∀ j m H, W j m H →
      ((Itt K a).stop j H ∧ Qd H) ∨ ((Itt K a).go j H ∧ ∃ Nx : Hp → Prop, (∀ H', Nx H' → ∃ m', m' < m ∧ W (j + 1) m' H') ∧ ∀ x H', (Itt K a).yld j H x H' → gName i x (wipe σ [i]) H' fun σ2 H2 => wipe σ2 [i] = wipe σ [i] ∧ tYes σ2 H2 fun b H3 =>
        if b = true then te σ2 H3 fun y H4 => ∃ acc, H4 D = some (.lst acc) ∧ acc.length < sizeLine ∧ Nx (upd H4 D (.lst (acc ++ [y]))) else Nx H3) := by
  refine lc_tup (xs := strsV xs) (fun j H' => Sm H1 H' ∧ H' D = some (.lst (strsV ((xs.take j).map (restS n)))) ∧ faults n (xs.take j) = none) ⟨Same.sm (Same.new hD), upd_same, rfl⟩ ?_ ?_ ?_
  · rintro j H' hj ⟨sm, _⟩
    exact TT.of_sm sm _ _ hx
  · rintro j x H' hj ⟨sm, hDl, hf⟩
    obtain ⟨t, ht, rfl⟩ : ∃ t, xs[j]? = some t ∧ x = .str t := by
      rw [strsV, List.getElem?_map] at hj
      cases e : xs[j]? with
      | none => rw [e] at hj; cases hj
      | some t => rw [e] at hj; exact ⟨t, rfl, (Option.some.inj hj).symm⟩
    refine ⟨hw _, ?_⟩
    refine hte t (List.mem_of_getElem? ht) _ _ sm (fun hn H'' s' => ?_) (fun w hw' => hbad w (faults_take ht hf hw') _ sm)
    have hD2 := s'.lst hDl
    refine ⟨_, hD2, ?_, Sm.upn (sm.trans s') hD, ?_, faults_succ ht hf hn⟩
    · have : (strsV ((xs.take j).map (restS n))).length = (xs.take j).length := by simp [strsV]
      rw [this, List.length_take]
      exact small5' (by omega)
    · rw [upd_same, List.take_add_one, ht]
      simp [strsV]
  · rintro H' ⟨sm, hDl, hf⟩
    have : (xs.take (strsV xs).length) = xs := by rw [show (strsV xs).length = xs.length from by simp [strsV]]; exact List.take_length
    rw [this] at hDl hf
    exact hd hf H' sm hDl
theorem faults_app (n : Nat) (a b : List Str) : faults n (a ++ b) = (faults n a).or (faults n b) := List.findSome?_append
theorem faults_one (n : Nat) (t : Str) : faults n [t] = fault n t := by
  unfold faults
  rw [List.findSome?_cons]
  cases fault n t <;> rfl
def spCodeEdit (K : PySem.W.Frag) (C Pt : Addr) : Sp := fun vs H Q E => ∃ (i : Nat) (v : V) (n : Nat) (e : Ed), vs = [.int (i : Int), v, .int (n : Int)] ∧ i ≤ 1000 ∧ n ≤ 100 ∧ IsEd K H v e ∧ EdOk 120 2 3 e ∧ GxR.TabG H Pt ∧
  (faults n (texts e) = none → ∀ H' v', Sm H H' → IsEd K H' v' (codeE n e) → Q v' H') ∧ (∀ w, faults n (texts e) = some w → Bad E C i w H)
theorem cal_codeEdit {C Pt : Addr} (F : At K mg "code_edit" sCodeEdit) (Wi : Cal P w K mg base (L2.CX P w) 5 "without_indent" ["at", "text", "indent"] (spWi C Pt)) (mT : mg "tuple" = none) :
    Cal P w K mg base (L2.CX P w) 6 "code_edit" ["at", "edit", "indent"] (spCodeEdit K C Pt) := by
  refine F.calX scCodeEdit (fun vs H Q E h => ?_) (fun _ _ _ _ _ _ us hl => match us, hl with | [_, _, _], _ => rfl) (fun f cdv A outer s H vs Q E hr h => ?_)
  · obtain ⟨i, v, n, e, rfl, _⟩ := h
    rfl
  · obtain ⟨i, v, n, e, rfl, hi, hn, hv, ho, hT, q, qb⟩ := h
    have tk : Takes (cxOf (L2.CX P w) P w K mg base nCodeEdit "code_edit" (defScope sCodeEdit) f cdv A outer s H E) (fun cls d _ H => E cls d H) := takes_of rfl rfl rfl rfl
    refine ⟨_, pss_cons (ps_asg (pv 1) (pg_tup (by rfl) (pgs_cons (pg_name (i := 3) scCodeEdit.nd rfl (.inl rfl)) (pgs_cons (pg_name (i := 4) scCodeEdit.nd rfl (.inl rfl)) (pgs_cons (pg_name (i := 5) scCodeEdit.nd rfl (.inl rfl)) pgs_nil)))))
      <| pss_cons (ps_set (i := 6) scCodeEdit.nd rfl (.inl rfl) (pe_callTy call_tuple_of (by rfl) mT (by decide +kernel) (pa_cons
          (pe_lcX (E := E) (own := [("text", 7)]) (g := gName 7) (te := fun E => tCall (spWi C Pt) [] E (tCons (tVar 0) (tCons (tVar 7) (tCons (tVar 2) tNil)))) rfl rfl tk (fun _ _ _ _ h => h) (by rfl) scCodeEdit.nd (pi_tup (pv 3)) (blkOk_by (own := [("text", 7)]) (N := nCodeEdit) (sc := defScope sCodeEdit) (by decide +kernel))
            (fun _ _ _ _ _ => pg_name (i := 7) scCodeEdit.nd rfl (Or.inl rfl)) (fun _ _ _ _ _ => pts_nil) (fun _ _ _ _ _ hx => pe_calP Wi hr hx (pa_cons (pv 0) (pa_cons (pv 7) (pa_cons (pv 2) pa_nil))))) pa_nil)))
      <| C8.pss_cut (ps_if (pt_cmpR op_eq (pe_ix ix_tup (pv 4) pe_int (fun _ _ => rfl)) pe_str (nomark _)) (pss_one (ps_set (i := 4) scCodeEdit.nd rfl (.inl rfl) (pe_tup (pa_cons pe_str (pa_cons (pe_calX Wi hr tk (pa_cons (pv 0) (pa_cons (pe_ix ix_tup (pv 4) pe_int (fun _ _ => rfl)) (pa_cons (pv 2) pa_nil)))) pa_nil))))) pss_nil)
      <| pss_one (ps_ret (pe_tup (pa_cons (pv 6) (pa_cons (pv 4) (pa_cons (pe_callTy call_tuple_of (by rfl) mT (by decide +kernel) (pa_cons
          (pe_lcX (E := E) (own := [("text", 7)]) (g := gName 7) (te := fun E => tCall (spWi C Pt) [] E (tCons (tVar 0) (tCons (tVar 7) (tCons (tVar 2) tNil)))) rfl rfl tk (fun _ _ _ _ h => h) (by rfl) scCodeEdit.nd (pi_tup (pv 5)) (blkOk_by (own := [("text", 7)]) (N := nCodeEdit) (sc := defScope sCodeEdit) (by decide +kernel))
            (fun _ _ _ _ _ => pg_name (i := 7) scCodeEdit.nd rfl (Or.inl rfl)) (fun _ _ _ _ _ => pts_nil) (fun _ _ _ _ _ hx => pe_calP Wi hr hx (pa_cons (pv 0) (pa_cons (pv 7) (pa_cons (pv 2) pa_nil))))) pa_nil)) pa_nil))))), ?_⟩
    obtain ⟨a, x, c, z, rfl, h1, ⟨xa, rfl, hx⟩, ⟨ca, rfl, hc⟩, ⟨za, rfl, hz⟩⟩ := hv
    refine ⟨_, rfl, a, _, rfl, h1, rfl, _, _, rfl, _, _, rfl, _, _, rfl, rfl, ?_⟩
    have hl1 : e.ahead.length ≤ 1000 := Nat.le_trans ho.la (by decide)
    have hl2 : e.behind.length ≤ 1000 := Nat.le_trans ho.lb (by decide)
    have hfa : faults n (texts e) = (faults n e.ahead).or ((faults n (textsC e.chg)).or (faults n e.behind)) := by rw [texts, faults_app, faults_app]
    -- ahead
    refine ⟨_, rfl, xa, rfl, ⟨_, hx⟩, fun L1 n1 => ?_⟩
    refine lc_wi (n := n) (BadH := fun w H' => Bad E C i w H') n1 hx hl1 (fun v => rfl) (fun t ht H' Q' sm k1 k2 => ?_) (fun w hw H' sm => (qb w (by rw [hfa, hw]; rfl)).sm sm) (fun hf1 H2 s2 hL1 => ?_)
    · exact ⟨_, rfl, _, rfl, _, rfl, i, t, n, rfl, hi, (ho.a t ht).mono (by decide), by omega, sm.tab _ hT, k1, k2⟩
    refine ⟨L1, _, rfl, .inl ⟨SqL.of hL1, fun u1 nu1 => ?_⟩⟩
    have s3 : Sm H (upd H2 u1 (.tup (strsV (e.ahead.map (restS n))))) := s2.trans (Same.sm (Same.new nu1))
    have hu1 : SqT K (upd H2 u1 (.tup (strsV (e.ahead.map (restS n))))) u1 (strsV (e.ahead.map (restS n))) := SqT.of upd_same
    generalize upd H2 u1 (.tup (strsV (e.ahead.map (restS n)))) = H3 at s3 hu1 ⊢
    -- the change
    refine ⟨fun σ' H' => ∃ (v4 : V), σ' = [some (.int (i : Int)), some (.ref a), some (.int (n : Int)), some (.ref xa), some v4, some (.ref za), some (.ref u1), none] ∧ Sm H3 H' ∧ IsChg K H' v4 (codeC n e.chg) ∧ faults n (textsC e.chg) = none, ?_, ?_⟩
    · obtain ⟨z0, e0, hd⟩ := chg_dec e.chg
      have hc3 := TT.of_sm s3 _ _ hc
      refine ⟨_, rfl, ca, _, 0, _, rfl, rfl, hc3, atI_nat (j := 0) e0, rfl, _, rfl, ?_⟩
      rcases hd with ⟨t, et, hd⟩ | ⟨hnt, hd⟩
      · rw [hd]
        have e1 : (chgV e.chg)[1]? = some (.str t) := by rw [et]; rfl
        have htx : TxOk 120 t := by have := ho.c; rw [et] at this; exact this
        refine iteT ⟨_, rfl, _, rfl, ca, _, 1, _, rfl, rfl, hc3, atI_nat (j := 1) e1, _, rfl, i, t, n, rfl, hi, htx.mono (by decide), by omega, s3.tab _ hT, fun hft H4 s4 => ?_, fun w hw => ?_⟩
        · refine ⟨by show 2 ≤ sizeLine; decide, fun k nk => ?_⟩
          refine ⟨.ref k, rfl, s4.trans (Same.sm (Same.new nk)), ⟨k, rfl, by rw [et]; exact SqT.of upd_same⟩, by rw [et]; show faults n [t] = none; rw [faults_one]; exact hft⟩
        · refine (qb w ?_).sm s3
          rw [hfa, hf1, et]
          show (none : Option Str).or ((faults n [t]).or _) = _
          rw [faults_one, hw]
          rfl
      · rw [hd]
        refine iteF ⟨.ref ca, rfl, Sm.refl H3, ⟨ca, rfl, ?_⟩, ?_⟩
        · have : codeC n e.chg = e.chg := by
            cases q : e.chg with
            | text t => exact absurd q (hnt t)
            | keep => rfl
            | drop => rfl
          rw [this]
          exact hc3
        · cases q : e.chg with
          | text t => exact absurd q (hnt t)
          | keep => rfl
          | drop => rfl
    rintro σ1 H4 ⟨v4, rfl, s4, hv4, hf2⟩
    have s04 := s3.trans s4
    have hz4 := TT.of_sm s04 _ _ hz
    refine ⟨_, rfl, _, rfl, _, rfl, za, rfl, ⟨_, hz4⟩, fun L2 n2 => ?_⟩
    refine lc_wi (n := n) (BadH := fun w H' => Bad E C i w H') n2 hz4 hl2 (fun v => rfl) (fun t ht H' Q' sm k1 k2 => ?_) (fun w hw H' sm => (qb w (by rw [hfa, hf1, hf2, hw]; rfl)).sm (s04.trans sm)) (fun hf3 H5 s5 hL2 => ?_)
    · exact ⟨_, rfl, _, rfl, _, rfl, i, t, n, rfl, hi, (ho.b t ht).mono (by decide), by omega, (s04.trans sm).tab _ hT, k1, k2⟩
    refine ⟨L2, _, rfl, .inl ⟨SqL.of hL2, fun u2 nu2 => ?_⟩⟩
    refine ⟨by show 3 ≤ sizeLine; decide, fun k nk => ?_⟩
    have s6 : Sm H4 (upd (upd H5 u2 (.tup (strsV (e.behind.map (restS n))))) k (.tup [.ref u1, v4, .ref u2])) := s5.trans (Same.sm ((Same.new nu2).trans (Same.new nk)))
    exact q (by rw [hfa, hf1, hf2, hf3]; rfl) _ (.ref k) (s04.trans s6)
      ⟨k, .ref u1, v4, .ref u2, rfl, SqT.of upd_same, ⟨u1, rfl, TT.of_sm (s4.trans s6) _ _ hu1⟩, hv4.mono (TT.of_sm s6), ⟨u2, rfl, TT.new nk _ _ (SqT.of upd_same)⟩⟩
def spPlain (K : PySem.W.Frag) : Sp := fun vs H Q _ => ∃ (v : V) (own : Str) (e : Ed), vs = [v, .str own] ∧ Asc own ∧ IsEd K H v e ∧ e.Asc ∧ ∀ (H' : Hp) (v' : V), Same H H' → IsEd K H' v' ⟨e.ahead, plainC own e.chg, e.behind⟩ → Q v' H'
theorem cal_plain {aK : Addr} (F : At K mg "plain_change" sPlain) (mK : mg "KEEP" = some (.ref aK)) (hK : ∀ H, SqT K H aK [.str "keep"]) : Cal P w K mg base CX0 1 "plain_change" ["edit", "text"] (spPlain K) := by
  refine F.cal scPlain (fun vs H Q E h => ?_) (fun _ _ _ _ _ _ us hl => match us, hl with | [_, _], _ => rfl) (fun f cdv A outer s H vs Q E hr h => ?_)
  · obtain ⟨v, own, e, rfl, _⟩ := h
    rfl
  · obtain ⟨v, own, e, rfl, hoa, hv, ha, q⟩ := h
    refine ⟨_, pss_cons (ps_asg (pv 0) (pg_tup (by rfl) (pgs_cons (pg_name (i := 2) scPlain.nd rfl (.inl rfl)) (pgs_cons (pg_name (i := 3) scPlain.nd rfl (.inl rfl)) (pgs_cons (pg_name (i := 4) scPlain.nd rfl (.inl rfl)) pgs_nil)))))
      <| pss_cons (ps_if (pt_cmpR (op_eqD hr.units) (pv 3) (pe_tup (pa_cons pe_str (pa_cons (pv 1) pa_nil))) (nomark _)) (pss_one (ps_ret (pe_tup (pa_cons (pv 2) (pa_cons (pe_glob (v := .ref aK) (by rfl) mK rfl) (pa_cons (pv 4) pa_nil)))))) pss_nil)
      <| pss_one (ps_ret (pv 0)), ?_⟩
    obtain ⟨a, x, c, z, rfl, h1, hx, hc, hz⟩ := hv
    refine ⟨_, rfl, a, _, rfl, h1, rfl, _, _, rfl, _, _, rfl, _, _, rfl, rfl, ?_⟩
    refine ⟨_, rfl, _, rfl, by show 2 ≤ sizeLine; decide, fun k nk => ?_⟩
    have hk : IsChg K (upd H k (.tup [.str "text", .str own])) (.ref k) (.text own) := ⟨k, rfl, SqT.of upd_same⟩
    refine ⟨chgD e.chg, chgD (.text own), (hc.mono (TT.new nk)).dp, hk.dp, shaped_chg ha.2.1, shaped_chg (c := .text own) hoa, _, rfl, ?_⟩
    rw [eqv_chg]
    by_cases he : e.chg = .text own
    · rw [decide_eq_true he]
      refine iteT ⟨_, rfl, _, rfl, by show 3 ≤ sizeLine; decide, fun u nu => ?_⟩
      refine q _ (.ref u) ((Same.new nk).trans (Same.new nu)) ?_
      rw [plainC, if_pos he]
      have tt : TT K H (upd (upd H k (.tup [.str "text", .str own])) u (.tup [x, .ref aK, z])) := (TT.new nk).trans (TT.new nu)
      exact ⟨u, x, .ref aK, z, rfl, SqT.of upd_same, hx.mono tt, ⟨aK, rfl, hK _⟩, hz.mono tt⟩
    · rw [decide_eq_false he]
      refine iteF ⟨_, rfl, q _ (.ref a) (Same.new nk) ?_⟩
      rw [plainC, if_neg he]
      exact IsEd.mono (TT.new nk) ⟨a, x, c, z, rfl, h1, hx, hc, hz⟩
def spTouched (K : PySem.W.Frag) : Sp := fun vs H Q _ => ∃ (v : V) (e : Ed), vs = [v] ∧ IsEd K H v e ∧ e.Asc ∧ ∀ (H' : Hp), Same H H' → Q (.bl (!decide (e = ⟨[], .keep, []⟩))) H'
theorem cal_touched {aK : Addr} (F : At K mg "is_touched" sTouched) (mK : mg "KEEP" = some (.ref aK)) (hK : ∀ H, SqT K H aK [.str "keep"]) : Cal P w K mg base CX0 1 "is_touched" ["edit"] (spTouched K) := by
  refine F.cal scTouched (fun vs H Q E h => ?_) (fun _ _ _ _ _ _ us hl => match us, hl with | [_], _ => rfl) (fun f cdv A outer s H vs Q E hr h => ?_)
  · obtain ⟨v, e, rfl, _⟩ := h
    rfl
  · obtain ⟨v, e, rfl, hv, ha, q⟩ := h
    refine ⟨_, pss_one (ps_ret (pe_cmpR (op_neD hr.units) (pv 0) (pe_tup (pa_cons (pe_tup pa_nil) (pa_cons (pe_glob (v := .ref aK) (by rfl) mK rfl) (pa_cons (pe_tup pa_nil) pa_nil)))) (nomark _))), ?_⟩
    refine ⟨_, rfl, by show 0 ≤ sizeLine; decide, fun k1 n1 => ⟨by show 0 ≤ sizeLine; decide, fun k2 n2 => ⟨by show 3 ≤ sizeLine; decide, fun u nu => ?_⟩⟩⟩
    have tt : TT K H (upd (upd (upd H k1 (.tup [])) k2 (.tup [])) u (.tup [.ref k1, .ref aK, .ref k2])) := ((TT.new n1).trans (TT.new n2)).trans (TT.new nu)
    have h0 : IsEd K (upd (upd (upd H k1 (.tup [])) k2 (.tup [])) u (.tup [.ref k1, .ref aK, .ref k2])) (.ref u) ⟨[], .keep, []⟩ :=
      ⟨u, _, _, _, rfl, SqT.of upd_same, ⟨k1, rfl, TT.new nu _ _ (TT.new n2 _ _ (SqT.of upd_same))⟩, ⟨aK, rfl, hK _⟩, ⟨k2, rfl, TT.new nu _ _ (SqT.of upd_same)⟩⟩
    refine ⟨edD e, edD ⟨[], .keep, []⟩, (hv.mono tt).dp, h0.dp, shaped_ed ha, shaped_ed ⟨fun t h => (nomatch h), trivial, fun t h => (nomatch h)⟩, ?_⟩
    rw [eqv_ed]
    exact q _ (((Same.new n1).trans (Same.new n2)).trans (Same.new nu))
/-- what an edit says of its line -/
def spSaid (K : PySem.W.Frag) (C Pt : Addr) : Sp := fun vs H Q E => ∃ (d fl : Addr) (i : Nat) (vl ve : V) (D : List Ln) (x : PL) (e : Ed), vs = [.ref d, .ref fl, .int (i : Int), vl, ve] ∧ i ≤ 1000 ∧ IsDoc K H d D ∧ WfD D ∧ H fl = some (.lst (plP (firstL D))) ∧ IsPl K H vl x ∧ PlOk D 6 x ∧ IsEd K H ve e ∧ EdOk 120 2 3 e ∧ GxR.TabG H Pt ∧
  (e.ahead ≠ [] ∧ headB D (x.1 - 1) = false → Bad E C i "place" H) ∧ (¬ (e.ahead ≠ [] ∧ headB D (x.1 - 1) = false) → ∀ w, faults (ind D x.2) (texts e) = some w → Bad E C i w H) ∧
  (¬ (e.ahead ≠ [] ∧ headB D (x.1 - 1) = false) → faults (ind D x.2) (texts e) = none → ∀ H' v', Sm H H' → IsEd K H' v' (backE (ind D x.2) (own D x.1) e) → Q v' H')
theorem inv_nats (x : Nat) (l : List Nat) : inV (.int (x : Int)) (plP l) = decide (x ∈ l) := by
  unfold inV plP
  induction l with
  | nil => rfl
  | cons y r ih =>
    rw [List.map_cons, List.any_cons, ih]
    show (((y : Int) == (x : Int)) || decide (x ∈ r)) = _
    by_cases h : y = x
    · subst h
      simp
    · have h1 : ¬ x = y := fun e => h e.symm
      have h2 : ((y : Int) == (x : Int)) = false := by
        rw [beq_eq_false_iff_ne]
        omega
      rw [h2]
      simp [h1]
theorem flat_nats (l : List Nat) : (plP l).all flatV = true := by simp [plP, flatV]
theorem cal_said {C Pt : Addr} (F : At K mg "said_of" sSaid) (U : ExF P w K mg base "Unfit" "at" "what" C) (Ce : Cal P w K mg base (L2.CX P w) 6 "code_edit" ["at", "edit", "indent"] (spCodeEdit K C Pt)) (In : Cal P w K mg base CX0 1 "indent_of" ["document", "path"] (spInd K))
    (Pc : Cal P w K mg base CX0 1 "plain_change" ["edit", "text"] (spPlain K)) : Cal P w K mg base (L2.CX P w) 7 "said_of" ["document", "firsts", "at", "line", "edit"] (spSaid K C Pt) := by
  refine F.calX scSaid (fun vs H Q E h => ?_) (fun _ _ _ _ _ _ us hl => match us, hl with | [_, _, _, _, _], _ => rfl) (fun f cdv A outer s H vs Q E hr h => ?_)
  · obtain ⟨d, fl, i, vl, ve, D, x, e, rfl, _⟩ := h
    rfl
  · obtain ⟨d, fl, i, vl, ve, D, x, e, rfl, hi, hD, wf, hfl, hvl, hx, hve, ho, hT, qp, qb, q⟩ := h
    have mono : ∀ (y : Str) (σ : L2.St) (H : Hp) (Q Q' : List V → Hp → Prop), (∀ vs H, Q vs H → Q' vs H) → tCons (tVar 2) (tCons (tC (.str y)) tNil) σ H Q → tCons (tVar 2) (tCons (tC (.str y)) tNil) σ H Q' := fun y σ H Q Q' hq ⟨v, e, z⟩ => ⟨v, e, hq _ _ z⟩
    refine ⟨_, C8.pss_cut (ps_if (PW.pt (pw_and (pt_truth (pe_ix ix_tup (pv 4) pe_int (fun _ _ => rfl)) (by intro _; rfl)) (pw_and1 (pt_cmpR op_notIn_seq (pe_ix ix_tup (pv 3) pe_int (fun _ _ => rfl)) (pv 1) (by rfl)))))
          (pss_one (ps_raise rfl (takes_of rfl rfl rfl rfl) (pmk_ex U (hr.mono (by decide)) (pa_cons (pv 2) (pa_cons pe_str pa_nil)) (mono _)))) pss_nil)
      <| pss_cons (ps_set (i := 5) scSaid.nd rfl (.inl rfl) (pe_calX Ce hr (takes_of rfl rfl rfl rfl) (pa_cons (pv 2) (pa_cons (pv 4) (pa_cons (pe_cal0 In (hr.mono (by decide)) (pa_cons (pv 0) (pa_cons (pe_ix ix_tup (pv 3) pe_int (fun _ _ => rfl)) pa_nil))) pa_nil)))))
      <| pss_one (ps_ret (pe_cal0 Pc (hr.mono (by decide)) (pa_cons (pv 5) (pa_cons (pe_ix ix_tup (pe_ix ix_tup (pv 0) (pe_ix ix_tup (pv 3) pe_int (fun _ _ => rfl)) (fun _ _ => rfl)) pe_int (fun _ _ => rfl)) pa_nil)))), ?_⟩
    obtain ⟨a, b, t, rfl, ha, hb⟩ := hvl.get
    obtain ⟨y, ey, hy, tx, htx⟩ := pl_pos wf hx
    have hi100 : ind D x.2 ≤ 100 := by
      have h1 := ind_le wf x.2 hx.2.1
      have h2 := hx.2.2
      omega
    refine ⟨fun σ' H' => σ' = [some (.ref d), some (.ref fl), some (.int (i : Int)), some (.ref a), some ve, none] ∧ H' = H ∧ ¬ (e.ahead ≠ [] ∧ headB D (x.1 - 1) = false), ?_, ?_⟩
    · obtain ⟨ea, ex, ec, ez, rfl, e1, ⟨exa, rfl, ehx⟩, _⟩ := hve
      refine ⟨_, rfl, ea, _, 0, _, rfl, rfl, e1, atI_nat (j := 0) rfl, _, .inr (.inl ⟨_, ehx, rfl⟩), ?_⟩
      by_cases h0 : e.ahead = []
      · rw [h0]
        exact iteF ⟨rfl, rfl, fun z => z.1 rfl⟩
      · have hn : (!(strsV e.ahead).isEmpty) = true := by
          cases q : e.ahead with
          | nil => exact absurd q h0
          | cons _ _ => rfl
        rw [hn]
        refine iteT ⟨_, rfl, a, _, 1, _, rfl, rfl, ha, atI_nat (j := 1) rfl, _, rfl, fl, _, rfl, .inl (SqL.of hfl), rfl, flat_nats _, _, rfl, ?_⟩
        show if (!inV (.int ((x.1 : Nat) : Int)) (plP (firstL D))) = true then _ else _
        rw [inv_nats]
        have hiff := first_iff wf (x := y) ⟨_, htx, by show 2 ≤ 3; decide⟩
        rw [← ey] at hiff
        have ey1 : x.1 - 1 = y := by omega
        by_cases hh : HeadAt D y
        · rw [decide_eq_true (hiff.mpr hh)]
          exact iteF ⟨rfl, rfl, fun z => by rw [ey1, headB_iff.mpr hh] at z; exact absurd z.2 (by decide)⟩
        · rw [decide_eq_false (fun z => hh (hiff.mp z))]
          have hb0 : headB D (x.1 - 1) = false := by
            rw [ey1]
            cases z : headB D y with
            | true => exact absurd (headB_iff.mp z) hh
            | false => rfl
          exact iteT ⟨_, rfl, _, _, rfl, fm_nat hi, fm_str (by decide +kernel), (qp ⟨h0, hb0⟩).now⟩
    · rintro σ' H' ⟨rfl, rfl, hno⟩
      refine ⟨_, rfl, _, rfl, _, rfl, _, rfl, a, _, 2, _, rfl, rfl, ha, atI_nat (j := 2) rfl, d, b, D, x.2, rfl, hD, hb, by have := hx.2.2; omega, hx.2.1, fun H4 s4 => ?_⟩
      refine ⟨i, ve, ind D x.2, e, rfl, hi, hi100, hve.mono (TT.of_same s4), ho, (Same.sm s4).tab _ hT, fun hf H5 v5 s5 hv5 => ?_, fun w hw => (qb hno w hw).sm (Same.sm s4)⟩
      have s45 : Sm H' H5 := (Same.sm s4).trans s5
      rw [← ey] at htx
      have own_ := lnV_own htx
      have htxo : TxOk 10 tx := wf.ok _ _ htx
      obtain ⟨dv, da, d1, d2, d3⟩ := (hD.mono (TT.of_sm s45)).at htx
      refine ⟨_, rfl, _, rfl, _, rfl, a, _, 1, _, rfl, rfl, TT.of_sm s45 _ _ ha, atI_nat (j := 1) rfl, d, dv, _, _, rfl, rfl, d1, d2, da, _, 1, _, rfl, rfl, d3, atI_nat (j := 1) rfl, ?_⟩
      refine ⟨v5, tx, codeE (ind D x.2) e, rfl, htxo.1, hv5, (codeE_ok ho).asc, fun H6 v6 s6 hv6 => ?_⟩
      refine q hno hf H6 v6 (s45.trans (Same.sm s6)) ?_
      rw [own_]
      exact hv6
end
end K31
set_option maxHeartbeats 2000000
/-! T7: occurrences, growth. -/
namespace K31
open PySem PySem.Spec PyProof.Rows L2
abbrev Oc := Nat → Option (List Nat)
def putO (f : Oc) (n : Nat) (l : List Nat) : Oc := fun m => if m = n then some l else f m
theorem putO_same (f : Oc) (n : Nat) (l : List Nat) : putO f n l n = some l := by simp [putO]
theorem putO_ne (f : Oc) {n m : Nat} (l : List Nat) (h : m ≠ n) : putO f n l m = f m := by simp [putO, h]
def kN (n : Nat) : Key := Sum.inl (n : Int)
theorem kN_inj {n m : Nat} (h : kN n = kN m) : n = m := by have := Sum.inl.inj h; omega
/-- the table f stands at t -/
structure OcI (H0 H : Hp) (t : Addr) (f : Oc) (k : Nat) : Prop where
  ex : ∃ kvs : List (Key × V), H t = some (.dK kvs) ∧ kvs.length ≤ k ∧ (∀ n l, f n = some l → ∃ a, valV kvs (kN n) = some (.ref a) ∧ H a = some (.lst (plP l))) ∧ (∀ n, f n = none → valV kvs (kN n) = none) ∧
    (∀ n m a, valV kvs (kN n) = some (.ref a) → valV kvs (kN m) = some (.ref a) → n = m) ∧ (∀ n v, valV kvs (kN n) = some v → ∃ l, f n = some l) ∧ (∀ n a, valV kvs (kN n) = some (.ref a) → H0 a = none)
theorem OcI.congr {H0 H : Hp} {t : Addr} {f g : Oc} {k : Nat} (h : OcI H0 H t f k) (e : ∀ n, f n = g n) : OcI H0 H t g k := by
  have : f = g := funext e
  rw [← this]
  exact h
theorem OcI.sm {H0 H H' : Hp} {t : Addr} {f : Oc} {k : Nat} (h : OcI H0 H t f k) (s : Sm H H') : OcI H0 H' t f k := by
  obtain ⟨kvs, e, hl, h1, h2, h3, h4, h5⟩ := h.ex
  exact ⟨kvs, s.dk e, hl, fun n l q => let ⟨a, q1, q2⟩ := h1 n l q; ⟨a, q1, s.lst q2⟩, h2, h3, h4, h5⟩
theorem OcI.mono {H0 H H' : Hp} {t : Addr} {f : Oc} {k : Nat} (h : OcI H0 H t f k) (s : Same H H') : OcI H0 H' t f k := h.sm (Same.sm s)
theorem OcI.le {H0 H : Hp} {t : Addr} {f : Oc} {k j : Nat} (h : OcI H0 H t f k) (s : k ≤ j) : OcI H0 H t f j := by
  obtain ⟨kvs, e, hl, h1⟩ := h.ex
  exact ⟨kvs, e, by omega, h1⟩
/-- f n is there -/
theorem OcI.get {H0 H : Hp} {t : Addr} {f : Oc} {k : Nat} (h : OcI H0 H t f k) {n : Nat} {l : List Nat} (e : f n = some l) : ∃ a, DGet H t (.int (n : Int)) (some (.ref a)) ∧ H a = some (.lst (plP l)) := by
  obtain ⟨kvs, ek, hl, h1, h2, h3, h4, h5⟩ := h.ex
  obtain ⟨a, q1, q2⟩ := h1 n l e
  exact ⟨a, by rw [← q1]; exact DGet.k (k := kN n) ek, q2⟩
/-- is n in it -/
theorem OcI.in {H0 H : Hp} {t : Addr} {f : Oc} {k : Nat} (h : OcI H0 H t f k) (n : Nat) : ∃ o, DGet H t (.int (n : Int)) o ∧ o.isSome = (f n).isSome := by
  obtain ⟨kvs, ek, hl, h1, h2, h3, h4, h5⟩ := h.ex
  refine ⟨_, DGet.k (k := kN n) ek, ?_⟩
  cases e : f n with
  | none => rw [h2 n e]; rfl
  | some l =>
    obtain ⟨a, q1, q2⟩ := h1 n l e
    rw [q1]; rfl
theorem OcI.new {H0 H : Hp} {t p : Addr} {f : Oc} {k : Nat} (h : OcI H0 H t f k) (np : H p = none) (n0 : H0 p = none) {n : Nat} (e : f n = none) (hk : k < 1000) :
    ∃ H', DPut (upd H p (.lst [])) t (.int (n : Int)) (.ref p) H' ∧ OcI H0 H' t (putO f n []) (k + 1) ∧ (∀ b o, b ≠ t → H b = some o → H' b = some o) := by
  obtain ⟨kvs, ek, hl, h1, h2, h3, h4, h5⟩ := h.ex
  have ht : t ≠ p := ne_of_none ek np
  have ek' : upd H p (.lst []) t = some (.dK kvs) := by rw [upd_ne ht]; exact ek
  refine ⟨_, DPut.k (k := kN n) ek' (small1000 (by omega)), ⟨_, upd_same, Nat.le_trans (length_putK _ _ _) (by omega), fun m l q => ?_, fun m q => ?_, fun m m' a q q' => ?_, fun m v q => ?_, fun m a q => ?_⟩, fun b o hb q => ?_⟩
  · by_cases z : m = n
    · subst z
      have : l = [] := (Option.some.inj ((putO_same f m []).symm.trans q)).symm
      subst this
      exact ⟨p, by rw [valV_put, if_pos rfl], by rw [upd_ne (Ne.symm ht), upd_same]; rfl⟩
    · rw [putO_ne _ _ z] at q
      obtain ⟨a, q1, q2⟩ := h1 m l q
      refine ⟨a, by rw [valV_put, if_neg (fun w => z (kN_inj w))]; exact q1, ?_⟩
      rw [upd_ne (by rintro rfl; rw [ek] at q2; cases q2), upd_ne (ne_of_none q2 np)]
      exact q2
  · by_cases z : m = n
    · subst z
      rw [putO_same] at q
      cases q
    · rw [putO_ne _ _ z] at q
      rw [valV_put, if_neg (fun w => z (kN_inj w))]
      exact h2 m q
  · have old : ∀ m a, valV kvs (kN m) = some (.ref a) → a ≠ p := fun m a w => by
      obtain ⟨l, hl'⟩ := h4 m _ w
      obtain ⟨a', w1, w2⟩ := h1 m l hl'
      rw [w1] at w
      cases w
      exact ne_of_none w2 np
    rw [valV_put] at q q'
    by_cases z : m = n
    · rw [if_pos (by rw [z])] at q
      by_cases z' : m' = n
      · rw [z, z']
      · rw [if_neg (fun w => z' (kN_inj w))] at q'
        cases q
        exact absurd rfl (old _ _ q')
    · rw [if_neg (fun w => z (kN_inj w))] at q
      by_cases z' : m' = n
      · rw [if_pos (by rw [z'])] at q'
        cases q'
        exact absurd rfl (old _ _ q)
      · rw [if_neg (fun w => z' (kN_inj w))] at q'
        exact h3 _ _ _ q q'
  · rw [valV_put] at q
    by_cases z : m = n
    · exact ⟨[], by rw [z]; exact putO_same _ _ _⟩
    · rw [if_neg (fun w => z (kN_inj w))] at q
      rw [putO_ne _ _ z]
      exact h4 m v q
  · rw [valV_put] at q
    by_cases z : m = n
    · rw [if_pos (by rw [z])] at q
      cases q
      exact n0
    · rw [if_neg (fun w => z (kN_inj w))] at q
      exact h5 m a q
  · rw [upd_ne hb, upd_ne (ne_of_none q np)]
    exact q
theorem OcI.app {H0 H : Hp} {t : Addr} {f : Oc} {k : Nat} (h : OcI H0 H t f k) {n : Nat} {l : List Nat} (e : f n = some l) : ∃ a, DGet H t (.int (n : Int)) (some (.ref a)) ∧ H a = some (.lst (plP l)) ∧ a ≠ t ∧ H0 a = none ∧
    ∀ l', OcI H0 (upd H a (.lst (plP l'))) t (putO f n l') k := by
  obtain ⟨kvs, ek, hl, h1, h2, h3, h4, h5⟩ := h.ex
  obtain ⟨a, q1, q2⟩ := h1 n l e
  have ha : a ≠ t := by rintro rfl; rw [ek] at q2; cases q2
  refine ⟨a, by rw [← q1]; exact DGet.k (k := kN n) ek, q2, ha, h5 n a q1, fun l' => ⟨kvs, by rw [upd_ne (Ne.symm ha)]; exact ek, hl, fun m lm q => ?_, fun m q => ?_, h3, fun m v q => ?_, h5⟩⟩
  · by_cases z : m = n
    · subst z
      have : lm = l' := (Option.some.inj ((putO_same f m l').symm.trans q)).symm
      subst this
      exact ⟨a, q1, upd_same⟩
    · rw [putO_ne _ _ z] at q
      obtain ⟨b, w1, w2⟩ := h1 m lm q
      refine ⟨b, w1, ?_⟩
      rw [upd_ne (by rintro rfl; exact z (h3 _ _ _ w1 q1))]
      exact w2
  · by_cases z : m = n
    · subst z
      rw [putO_same] at q
      cases q
    · rw [putO_ne _ _ z] at q
      exact h2 m q
  · by_cases z : m = n
    · exact ⟨l', by rw [z]; exact putO_same _ _ _⟩
    · rw [putO_ne _ _ z]
      exact h4 m v q

theorem OcI.new2 {H0 H : Hp} {t p : Addr} {f : Oc} {k : Nat} (h : OcI H0 H t f k) (np : H p = none) (n0 : H0 p = none) {n : Nat} (e : f n = none) (hk : k < 1000) :
    ∃ kvs, H t = some (.dK kvs) ∧ valV kvs (kN n) = none ∧ OcI H0 (upd (upd H p (.lst [])) t (.dK (putK kvs (kN n) (.ref p)))) t (putO f n []) (k + 1) := by
  obtain ⟨H', hp, hT, _⟩ := h.new np n0 e hk
  obtain ⟨kvs, ek, _, _, h2, _⟩ := h.ex
  have ek' : upd H p (.lst []) t = some (.dK kvs) := by rw [upd_ne (ne_of_none ek np)]; exact ek
  refine ⟨kvs, ek, h2 n e, ?_⟩
  rcases hp with ⟨kvs', k', e1, e2, _, e3⟩ | ⟨kvs', k', b, e1, _⟩
  · rw [ek'] at e1
    cases e1
    have : k' = kN n := by
      cases k' with
      | inl i => cases e2; rfl
      | inr m => cases e2
    rw [this] at e3
    rw [← e3]
    exact hT
  · rw [ek'] at e1
    cases e1
/-- the places of a line among the first i program lines -/
def occ (R : List PL) : Nat → Oc
  | 0 => fun _ => none
  | i + 1 => match R[i]? with
    | some x => putO (occ R i) x.1 ((occ R i x.1).getD [] ++ [i])
    | none => occ R i
theorem occ_succ {R : List PL} {i : Nat} {x : PL} (h : R[i]? = some x) : occ R (i + 1) = putO (occ R i) x.1 ((occ R i x.1).getD [] ++ [i]) := by simp [occ, h]
theorem occ_none {R : List PL} {l : Nat} : ∀ {i : Nat}, (∀ m, m < i → ∀ r, R[m]? = some r → r.1 ≠ l) → occ R i l = none
  | 0, _ => rfl
  | i + 1, h => by
    have ih := occ_none (R := R) (l := l) (i := i) fun m hm r hr => h m (by omega) r hr
    unfold occ
    cases e : R[i]? with
    | none => exact ih
    | some x =>
      show putO _ x.1 _ l = none
      rw [putO_ne _ _ (Ne.symm (h i (by omega) x e))]
      exact ih
/-- the first of them -/
theorem occ_first {R : List PL} {l j : Nat} {x : PL} (hx : R[j]? = some x) (hl : x.1 = l) (hf : ∀ m, m < j → ∀ r, R[m]? = some r → r.1 ≠ l) : ∀ {i : Nat}, j < i → ∃ r, occ R i l = some (j :: r)
  | 0, h => absurd h (by omega)
  | i + 1, h => by
    by_cases z : j = i
    · subst z
      rw [occ_succ hx, hl, putO_same, occ_none hf]
      exact ⟨[], rfl⟩
    · obtain ⟨r, hr⟩ := occ_first hx hl hf (i := i) (by omega)
      unfold occ
      cases e : R[i]? with
      | none => exact ⟨r, hr⟩
      | some y =>
        show ∃ r, putO _ y.1 _ l = _
        by_cases w : l = y.1
        · rw [← w, putO_same, hr]
          exact ⟨r ++ [i], rfl⟩
        · rw [putO_ne _ _ w]
          exact ⟨r, hr⟩
theorem occ_len (R : List PL) : ∀ (i l : Nat) (k : List Nat), occ R i l = some k → k.length ≤ i
  | 0, _, _, h => by cases h
  | i + 1, l, k, h => by
    unfold occ at h
    cases e : R[i]? with
    | none => rw [e] at h; have := occ_len R i l k h; omega
    | some x =>
      rw [e] at h
      have h' : putO (occ R i) x.1 ((occ R i x.1).getD [] ++ [i]) l = some k := h
      by_cases w : l = x.1
      · rw [w, putO_same] at h'
        rw [← Option.some.inj h', List.length_append]
        have : ((occ R i x.1).getD []).length ≤ i := by
          cases z : occ R i x.1 with
          | none => exact Nat.zero_le _
          | some k' => exact occ_len R i _ k' z
        simp
        omega
      · rw [putO_ne _ _ w] at h'
        have := occ_len R i l k h'
        omega
abbrev sOcc : Stmt := top 24
abbrev sGrowth : Stmt := top 36
theorem scOcc : FnScope ["program", "found", "at", "line"] ["program"] (defScope sOcc) := ⟨rfl, rfl, rfl, by decide +kernel, rfl, by decide +kernel, by decide +kernel⟩
theorem scGrowth : FnScope ["edits", "total", "ahead", "change", "behind"] ["edits"] (defScope sGrowth) := ⟨rfl, rfl, rfl, by decide +kernel, rfl, by decide +kernel, by decide +kernel⟩
section
variable {P : Program} {w : World} {K : PySem.W.Frag} {mg : Str → Option Value} {base : Heap}
def spOcc (K : PySem.W.Frag) : Sp := fun vs H Q _ => ∃ (p : Addr) (R : List PL), vs = [.ref p] ∧ IsProg K H p R ∧ R.length ≤ 120 ∧ ∀ (H' : Hp) (o : Addr), Same H H' → OcI H H' o (occ R R.length) 200 → Q (.ref o) H'
theorem cal_occ (F : At K mg "occurrences" sOcc) (mE : mg "enumerate" = none) : Cal P w K mg base CX0 1 "occurrences" ["program"] (spOcc K) := by
  refine F.cal scOcc (fun vs H Q E h => ?_) (fun _ _ _ _ _ _ us hl => match us, hl with | [_], _ => rfl) (fun f cdv A outer s H vs Q E hr h => ?_)
  · obtain ⟨p, R, rfl, _⟩ := h
    rfl
  · obtain ⟨p, R, rfl, hP, hlR, q⟩ := h
    refine ⟨_, pss_cons (ps_set (i := 1) scOcc.nd rfl (.inl rfl) pe_dnewK)
      <| pss_cons (ps_for PassesOwn.never rfl (pi_enum (by rfl) mE (pa_cons (pv 0) pa_nil)) (pg_tup rfl (pgs_cons (pg_name (i := 2) scOcc.nd rfl (.inl rfl)) (pgs_cons (pg_name (i := 3) scOcc.nd rfl (.inl rfl)) pgs_nil)))
        (pss_one (ps_expr (pe_bm PySem.F.plainAttrs_list PySem.F.slot_list_append PySem.F.type_list_append mt_append (pe_dsetd (pv 1) (pe_ix ix_tup (pv 3) pe_int (fun _ _ => rfl)) (pe_lst pa_nil) ⟨rfl, rfl, rfl, rfl⟩) (pa_cons (pv 2) pa_nil)))))
      <| pss_one (ps_ret (pv 1)), ?_⟩
    refine fun o no => ?_
    obtain ⟨rs, hrs, hPr⟩ := _root_.id hP
    refine ⟨_, rfl, p, rs, rfl, SqL.of (Same.new no _ _ hrs), ?_⟩
    refine for_enL (xs := rs) (fun i σ H3 => ∃ (y2 y3 : Option V), σ = [some (.ref p), some (.ref o), y2, y3] ∧ Same H H3 ∧ OcI H H3 o (occ R i) i ∧ i ≤ rs.length) ?_ ?_ ?_ ?_
    · exact ⟨none, none, rfl, Same.new no, ⟨[], upd_same, Nat.le_refl _, fun n l h => (nomatch h), fun n h => rfl, fun n m a h => (nomatch h), fun n v h => (nomatch h), fun n a h => (nomatch h)⟩, Nat.zero_le _⟩
    · rintro i σ H3 hi ⟨y2, y3, rfl, sm, _⟩
      exact SqL.of (sm _ _ hrs)
    · rintro i x T σ H3 hx nT ⟨y2, y3, rfl, sm, hO, hi⟩
      obtain ⟨xl, hxl, hv⟩ := Pg1 hPr hx
      have hi' : i < rs.length := (List.getElem?_eq_some_iff.mp hx).1
      have hlr : rs.length ≤ 120 := by rw [hPr.length]; exact hlR
      refine ⟨T, _, rfl, SqT.of upd_same, rfl, _, _, rfl, _, _, rfl, rfl, ?_⟩
      have s4 : Same H (upd H3 T (.tup [.int (i : Nat), x])) := sm.trans (Same.new nT)
      have hO4 := hO.mono (Same.new (o := .tup [.int (i : Nat), x]) nT)
      obtain ⟨a, b, t, rfl, ha, hb⟩ := (hv.mono (TT.of_same s4)).get
      generalize upd H3 T (.tup [.int (i : Nat), .ref a]) = H4 at s4 hO4 ha hb ⊢
      obtain ⟨kvs, ek, hkl, q1, q2, q3, q4, q5⟩ := hO4.ex
      refine ⟨_, rfl, o, rfl, .inl ⟨kvs, .inl ek⟩, _, rfl, a, _, 1, _, rfl, rfl, ha, atI_nat (j := 1) rfl, Nat.zero_le _, fun c nc => ?_⟩
      have oc : o ≠ c := ne_of_none ek nc
      have ekc : upd H4 c (.lst []) o = some (.dK kvs) := by rw [upd_ne oc]; exact ek
      refine ⟨kvs, kN xl.1, ekc, rfl, small5' (by omega), fun v hv' => ?_, fun hv' => ?_⟩
      · obtain ⟨l, hl'⟩ := q4 xl.1 v hv'
        have s5 : Same H (upd H4 c (.lst [])) := s4.trans (Same.new nc)
        obtain ⟨c', g1, g2, g3, g0, g4⟩ := (hO4.mono (Same.new (o := .lst []) nc)).app hl'
        obtain ⟨c2, w1, w2⟩ := q1 xl.1 l hl'
        rw [hv'] at w1
        cases w1
        have hcc : c' = c2 := by
          rcases g1 with ⟨k2, x3, w4, w5, w6⟩ | ⟨k2, x3, x4, w4, w5, _⟩
          · have hx3 : x3 = kN xl.1 := by
              cases x3 with
              | inl i => cases w5; rfl
              | inr m => cases w5
            have : k2 = kvs := by
              rcases w4 with w4 | ⟨_, w4⟩
              · rw [ekc] at w4; cases w4; rfl
              · rw [ekc] at w4; cases w4
            rw [this, hx3, hv'] at w6
            cases w6
            rfl
          · cases w5
        subst hcc
        refine ⟨.inl ⟨rfl, _, SqL.of g2⟩, _, rfl, c', _, _, rfl, rfl, g2, by rw [plP_len]; have := occ_len R i _ _ hl'; exact small5' (by omega), ?_⟩
        refine ⟨_, _, rfl, Same.upn s5 g0, ?_, by omega⟩
        rw [occ_succ hxl, hl']
        have := g4 (l ++ [i])
        rw [plP_app] at this
        exact this.le (by omega)
      · have hfn : occ R i xl.1 = none := by
          cases z : occ R i xl.1 with
          | none => rfl
          | some l => obtain ⟨c2, w1, _⟩ := q1 xl.1 l z; rw [hv'] at w1; cases w1
        obtain ⟨kvs', ek', hv2, hT'⟩ := hO4.new2 nc (s4.free nc) hfn (by omega)
        rw [ek] at ek'
        cases ek'
        have hc5 : upd (upd H4 c (.lst [])) o (.dK (putK kvs (kN xl.1) (.ref c))) c = some (.lst []) := by rw [upd_ne oc.symm, upd_same]
        refine ⟨.inl ⟨rfl, _, SqL.of hc5⟩, _, rfl, c, _, _, rfl, rfl, hc5, small5' (Nat.zero_le _), ?_⟩
        refine ⟨_, _, rfl, Same.upn (Same.upn (s4.trans (Same.new nc)) no) (s4.free nc), ?_, by omega⟩
        rw [occ_succ hxl, hfn]
        obtain ⟨c', g1, g2, g3, g0, g4⟩ := hT'.app (putO_same (occ R i) xl.1 [])
        have hcc : c' = c := by
          rcases g1 with ⟨k2, x3, w4, w5, w6⟩ | ⟨k2, x3, x4, w4, w5, _⟩
          · have hx3 : x3 = kN xl.1 := by
              cases x3 with
              | inl i => cases w5; rfl
              | inr m => cases w5
            have : k2 = putK kvs (kN xl.1) (.ref c) := by
              rcases w4 with w4 | ⟨_, w4⟩
              · rw [upd_same] at w4; cases w4; rfl
              · rw [upd_same] at w4; cases w4
            rw [this, hx3, valV_put, if_pos rfl] at w6
            cases w6
            rfl
          · cases w5
        subst hcc
        have := g4 [i]
        refine (this.congr fun m => ?_).le (by omega)
        by_cases z : m = xl.1
        · rw [z, putO_same, putO_same]; rfl
        · rw [putO_ne _ _ z, putO_ne _ _ z, putO_ne _ _ z]
    · rintro σ H3 ⟨y2, y3, rfl, sm, hO, hi⟩
      refine ⟨_, rfl, q H3 o sm ?_⟩
      rw [hPr.length] at hO
      exact hO.le (by omega)
def spGrowth (K : PySem.W.Frag) : Sp := fun vs H Q _ => ∃ (p : Addr) (es : List Ed), vs = [.ref p] ∧ IsEds K H p es ∧ es.length ≤ 120 ∧ (∀ e ∈ es, EdOk 120 2 3 e) ∧ ∀ i : Int, i ≤ 600 → Q (.int i) H
theorem cal_growth (F : At K mg "growth" sGrowth) (mL : mg "len" = none) : Cal P w K mg base CX0 1 "growth" ["edits"] (spGrowth K) := by
  refine F.cal scGrowth (fun vs H Q E h => ?_) (fun _ _ _ _ _ _ us hl => match us, hl with | [_], _ => rfl) (fun f cdv A outer s H vs Q E hr h => ?_)
  · obtain ⟨p, es, rfl, _⟩ := h
    rfl
  · obtain ⟨p, es, rfl, ⟨vs, hvs, hE⟩, hl, ho, q⟩ := h
    refine ⟨_, pss_cons (ps_set (i := 1) scGrowth.nd rfl (.inl rfl) pe_int)
      <| pss_cons (ps_for PassesOwn.never rfl (pi_list (pv 0)) (pg_tup rfl (pgs_cons (pg_name (i := 2) scGrowth.nd rfl (.inl rfl)) (pgs_cons (pg_name (i := 3) scGrowth.nd rfl (.inl rfl)) (pgs_cons (pg_name (i := 4) scGrowth.nd rfl (.inl rfl)) pgs_nil))))
        (pss_one (ps_set (i := 1) scGrowth.nd rfl (.inl rfl) (pe_op op_sub (pe_op op_add (pe_op op_add (pv 1) (pe_callB call_len_seq (by rfl) mL PySem.boot_len (pa_cons (pv 2) pa_nil))) (pe_callB call_len_seq (by rfl) mL PySem.boot_len (pa_cons (pv 4) pa_nil)))
          (pe_ifExp (pt_cmpR op_eq (pe_ix ix_tup (pv 3) pe_int (fun _ _ => rfl)) pe_str (nomark _)) pe_int pe_int)))))
      <| pss_one (ps_ret (pv 1)), ?_⟩
    refine ⟨_, rfl, p, rfl, ⟨_, SqL.of hvs⟩, ?_⟩
    refine for_list (xs := vs) (fun i σ H3 => ∃ (g : Int) (y2 y3 y4 : Option V), σ = [some (.ref p), some (.int g), y2, y3, y4] ∧ H3 = H ∧ g ≤ 5 * (i : Int) ∧ i ≤ vs.length) ⟨0, none, none, none, rfl, rfl, by decide, Nat.zero_le _⟩ ?_ ?_ ?_
    · rintro i σ H3 hi ⟨g, y2, y3, y4, rfl, rfl, _⟩
      exact SqL.of hvs
    · rintro i x σ H3 hx ⟨g, y2, y3, y4, rfl, rfl, hg, hi⟩
      obtain ⟨e, he, hv⟩ := Pg1 hE hx
      have hem := ho e (List.mem_of_getElem? he)
      have hi' : i < vs.length := (List.getElem?_eq_some_iff.mp hx).1
      obtain ⟨ea, ex, ec, ez, rfl, e1, ⟨exa, rfl, ehx⟩, ⟨eca, rfl, ehc⟩, ⟨eza, rfl, ehz⟩⟩ := hv
      refine ⟨ea, _, rfl, e1, rfl, _, _, rfl, _, _, rfl, _, _, rfl, rfl, ?_⟩
      obtain ⟨z0, e0, _⟩ := chg_0 e.chg
      refine ⟨_, rfl, _, rfl, exa, _, rfl, .inr ehx, _, _, rfl, rfl, _, rfl, eza, _, rfl, .inr ehz, _, _, rfl, rfl, _, rfl, eca, _, 0, _, rfl, rfl, ehc, atI_nat (j := 0) e0, rfl, _, rfl, ?_⟩
      have h1 := hem.la
      have h2 := hem.lb
      refine ite2 (fun _ => ⟨_, _, rfl, rfl, ?_⟩) (fun _ => ⟨_, _, rfl, rfl, ?_⟩)
      · refine ⟨_, _, _, _, rfl, rfl, ?_, by omega⟩
        rw [strsV_len, strsV_len]
        omega
      · refine ⟨_, _, _, _, rfl, rfl, ?_, by omega⟩
        rw [strsV_len, strsV_len]
        omega
    · rintro σ H3 ⟨g, y2, y3, y4, rfl, rfl, hg, hi⟩
      have := hE.length
      exact ⟨_, rfl, q g (by omega)⟩
end
end K31
set_option maxHeartbeats 2000000
/-! T8: fates. -/
namespace K31
open PySem PySem.Spec PyProof.Rows L2
abbrev LE := Nat × Ed
abbrev e0 : Ed := ⟨[], .keep, []⟩
def conA (x : LE) : List LE := if x.2.ahead = [] then [] else [(x.1 - 1, ⟨[], .keep, x.2.ahead⟩)]
def conB (x : LE) : List LE := if (⟨[], x.2.chg, x.2.behind⟩ : Ed) = e0 then [] else [(x.1, ⟨[], x.2.chg, x.2.behind⟩)]
def con (x : LE) : List LE := conA x ++ conB x
structure ConOk (D : List Ln) (L : List LE) : Prop where
  nd : (L.map (·.1)).Nodup
  ok : ∀ x ∈ L, CodeAt D x.1 ∧ 1 ≤ x.1 ∧ (x.2.ahead ≠ [] → HeadAt D (x.1 - 1)) ∧ EdOk 120 2 3 x.2
theorem ConOk.perm {D : List Ln} {L M : List LE} (h : ConOk D M) (p : L.Perm M) : ConOk D L := ⟨(p.map (·.1)).nodup_iff.mpr h.nd, fun x hx => h.ok x (p.mem_iff.mp hx)⟩
theorem ConOk.cons {D : List Ln} {x : LE} {L : List LE} (h : ConOk D (x :: L)) : ConOk D L := ⟨(List.nodup_cons.mp h.nd).2, fun y hy => h.ok y (List.mem_cons_of_mem _ hy)⟩
theorem ConOk.take {D : List Ln} {L : List LE} (h : ConOk D L) (i : Nat) : ConOk D (L.take i) := ⟨by
  rw [List.map_take]
  exact h.nd.sublist (List.take_sublist _ _), fun x hx => h.ok x (List.mem_of_mem_take hx)⟩
theorem con_key {D : List Ln} {x : LE} {k : Nat} (ok : CodeAt D x.1 ∧ 1 ≤ x.1 ∧ (x.2.ahead ≠ [] → HeadAt D (x.1 - 1)) ∧ EdOk 120 2 3 x.2) (h : k ∈ (con x).map (·.1)) : (k = x.1 ∧ CodeAt D k) ∨ (k + 1 = x.1 ∧ HeadAt D k) := by
  obtain ⟨y, hy, rfl⟩ := List.mem_map.mp h
  rcases List.mem_append.mp hy with z | z
  · unfold conA at z
    by_cases e : x.2.ahead = []
    · rw [if_pos e] at z; cases z
    · rw [if_neg e] at z
      rw [List.mem_singleton.mp z]
      exact .inr ⟨by have := ok.2.1; show x.1 - 1 + 1 = x.1; omega, ok.2.2.1 e⟩
  · unfold conB at z
    by_cases e : (⟨[], x.2.chg, x.2.behind⟩ : Ed) = e0
    · rw [if_pos e] at z; cases z
    · rw [if_neg e] at z
      rw [List.mem_singleton.mp z]
      exact .inl ⟨rfl, ok.1⟩
theorem code_not_head {D : List Ln} {k : Nat} (h : CodeAt D k) (h2 : HeadAt D k) : False := by
  obtain ⟨t, e⟩ := h
  obtain ⟨n, e2⟩ := h2
  rw [e] at e2
  cases e2
theorem con_nodup1 {D : List Ln} {x : LE} (ok : CodeAt D x.1 ∧ 1 ≤ x.1 ∧ (x.2.ahead ≠ [] → HeadAt D (x.1 - 1)) ∧ EdOk 120 2 3 x.2) : ((con x).map (·.1)).Nodup := by
  unfold con conA conB
  have := ok.2.1
  by_cases e : x.2.ahead = []
  · rw [if_pos e]
    by_cases e2 : (⟨[], x.2.chg, x.2.behind⟩ : Ed) = e0
    · rw [if_pos e2]; simp
    · rw [if_neg e2]; simp
  · rw [if_neg e]
    by_cases e2 : (⟨[], x.2.chg, x.2.behind⟩ : Ed) = e0
    · rw [if_pos e2]; simp
    · rw [if_neg e2]
      simp
      omega
theorem con_nodup {D : List Ln} : ∀ {L : List LE}, ConOk D L → ((L.flatMap con).map (·.1)).Nodup
  | [], _ => by simp
  | x :: r, h => by
    rw [List.flatMap_cons, List.map_append]
    refine List.nodup_append.mpr ⟨con_nodup1 (h.ok x List.mem_cons_self), con_nodup h.cons, fun a ha b hb e => ?_⟩
    subst e
    obtain ⟨y, hy, rfl⟩ := List.mem_map.mp hb
    obtain ⟨z, hz, hyz⟩ := List.mem_flatMap.mp hy
    have k1 := con_key (h.ok x List.mem_cons_self) ha
    have k2 := con_key (h.ok z (List.mem_cons_of_mem _ hz)) (List.mem_map.mpr ⟨y, hyz, rfl⟩)
    have hne : z.1 ≠ x.1 := fun e => (List.nodup_cons.mp h.nd).1 (by show x.1 ∈ _; rw [← e]; exact List.mem_map.mpr ⟨z, hz, rfl⟩)
    rcases k1 with ⟨e1, c1⟩ | ⟨e1, c1⟩ <;> rcases k2 with ⟨e2, c2⟩ | ⟨e2, c2⟩
    · exact hne (by omega)
    · exact code_not_head c1 c2
    · exact code_not_head c2 c1
    · exact hne (by omega)
theorem perm_map_inv {α β : Type} (f : α → β) {ys zs : List β} (h : ys.Perm zs) : ∀ l : List α, zs = l.map f → ∃ L : List α, L.Perm l ∧ ys = L.map f := by
  induction h with
  | nil => intro l e; have : l = [] := by simpa using e.symm
           subst this; exact ⟨[], .nil, rfl⟩
  | cons x _ ih =>
    intro l e
    cases l with
    | nil => cases e
    | cons a l =>
      have e1 : x = f a := (List.cons.inj e).1
      obtain ⟨L, p, e2⟩ := ih l (List.cons.inj e).2
      exact ⟨a :: L, .cons a p, by rw [e1, e2]; rfl⟩
  | swap x y t =>
    intro l e
    match l, e with
    | a :: b :: l, e =>
      have e1 := (List.cons.inj e).1
      have e2 := (List.cons.inj (List.cons.inj e).2).1
      have e3 := (List.cons.inj (List.cons.inj e).2).2
      exact ⟨b :: a :: l, .swap a b l, by rw [e1, e2, e3]; rfl⟩
  | trans _ _ ih1 ih2 =>
    intro l e
    obtain ⟨L, p, e2⟩ := ih2 l e
    obtain ⟨M, p2, e3⟩ := ih1 L e2
    exact ⟨M, p2.trans p, e3⟩
/-- the dict of fates -/
def FD (K : PySem.W.Frag) (H : Hp) (k : Addr) (cs : List LE) : Prop := ∃ kvs : List (Key × V), H k = some (.dK kvs) ∧ Paired (fun (p : Key × V) (x : LE) => p.1 = kN x.1 ∧ IsEd K H p.2 x.2) kvs cs
theorem FD.mono {K : PySem.W.Frag} {H H1 : Hp} {k : Addr} {cs : List LE} (h : FD K H k cs) (s : Same H H1) : FD K H1 k cs := let ⟨kvs, e, p⟩ := h; ⟨kvs, s _ _ e, Pmap p fun _ _ z => ⟨z.1, z.2.mono (TT.of_same s)⟩⟩
theorem fd_val {K : PySem.W.Frag} {H : Hp} {l : Nat} : ∀ {kvs : List (Key × V)} {cs : List LE}, Paired (fun (p : Key × V) (x : LE) => p.1 = kN x.1 ∧ IsEd K H p.2 x.2) kvs cs → l ∉ cs.map (·.1) → valV kvs (kN l) = none
  | _, _, .nil, _ => rfl
  | p :: kvs, x :: cs, .cons ⟨h1, h2⟩ t, h => by
    have hx : l ≠ x.1 := fun e => h (by rw [e]; exact List.mem_cons_self)
    have hr : l ∉ cs.map (·.1) := fun e => h (List.mem_cons_of_mem _ e)
    rw [show valV (p :: kvs) (kN l) = valV kvs (kN l) from valV_neg (by rw [h1]; exact fun w => hx (kN_inj w).symm)]
    exact fd_val t hr
theorem FD.put {K : PySem.W.Frag} {H : Hp} {k : Addr} {cs : List LE} {x : LE} {v : V} (h : FD K H k cs) (hx : x.1 ∉ cs.map (·.1)) (hv : IsEd K H v x.2) (hl : cs.length ≤ 1000) : ∃ H', DPut H k (.int (x.1 : Nat)) v H' ∧ But k H H' ∧ FD K H' k (cs ++ [x]) := by
  obtain ⟨kvs, e, p⟩ := h
  have hn := fd_val p hx
  refine ⟨_, DPut.k (k := kN x.1) e (small1000 (by rw [p.length]; exact hl)), But.self, ?_⟩
  rw [putK_new _ hn]
  exact ⟨_, upd_same, Papp (Pmap p fun _ _ z => ⟨z.1, z.2.mono (TT.dk e)⟩) (.cons ⟨rfl, hv.mono (TT.dk e)⟩ .nil)⟩
def lesOf (kn : KnL) : List LE := kn.map fun x => (x.1, x.2.1)
theorem look_of {l : Nat} {e : Ed} : ∀ {kn : KnL}, ((lesOf kn).map (·.1)).Nodup → (l, e) ∈ lesOf kn → ∃ j, look l kn = some (e, j)
  | y :: r, hn, h => by
    have hn' := List.nodup_cons.mp (show (y.1 :: (lesOf r).map (·.1)).Nodup from hn)
    unfold look
    by_cases z : y.1 = l
    · rw [if_pos z]
      rcases List.mem_cons.mp (show (l, e) ∈ (y.1, y.2.1) :: lesOf r from h) with q | q
      · have : e = y.2.1 := congrArg Prod.snd q
        exact ⟨y.2.2, by rw [this]⟩
      · exact absurd (List.mem_map.mpr ⟨(l, e), q, rfl⟩) (by rw [← z]; exact hn'.1)
    · rw [if_neg z]
      rcases List.mem_cons.mp (show (l, e) ∈ (y.1, y.2.1) :: lesOf r from h) with q | q
      · exact absurd (congrArg Prod.fst q).symm z
      · exact look_of hn'.2 q
theorem flat_len : ∀ L : List LE, (L.flatMap con).length ≤ 2 * L.length
  | [] => by simp
  | x :: r => by
    have ih := flat_len r
    have h1 : (conA x).length ≤ 1 := by unfold conA; split <;> simp
    have h2 : (conB x).length ≤ 1 := by unfold conB; split <;> simp
    have hc : (con x).length = (conA x).length + (conB x).length := by unfold con; rw [List.length_append]
    rw [List.flatMap_cons, List.length_append, hc]
    simp only [List.length_cons]
    omega
theorem kn_keys {G : V → Ed × Nat → Prop} : ∀ {kvs : List (Key × V)} {kn : KnL}, Paired (fun (p : Key × V) (x : Nat × Ed × Nat) => p.1 = Sum.inl (x.1 : Int) ∧ G p.2 x.2) kvs kn → kvs.map (·.1) = ((lesOf kn).map fun x => (x.1 : Int)).map Sum.inl
  | _, _, .nil => rfl
  | p :: kvs, x :: kn, .cons h t => by
    have ih := kn_keys t
    show p.1 :: kvs.map (·.1) = Sum.inl (x.1 : Int) :: _
    rw [h.1, ih]
    rfl
abbrev sFatesOf : Stmt := top 37
abbrev sLFates : Stmt := top 67
theorem scFatesOf : FnScope ["known", "fates", "line", "ahead", "change", "behind"] ["known"] (defScope sFatesOf) := ⟨rfl, rfl, rfl, by decide +kernel, rfl, by decide +kernel, by decide +kernel⟩
theorem scLFates : FnScope ["_law_known", "_law_fates_here", "_law_line_here", "_law_ahead", "_law_change", "_law_behind"] ["_law_known"] (defScope sLFates) := ⟨rfl, rfl, rfl, by decide +kernel, rfl, by decide +kernel, by decide +kernel⟩
def gPro (K : PySem.W.Frag) (H : Hp) (v : V) (g : Ed × Nat) : Prop := IsEd K H v g.1
section
variable {P : Program} {w : World} {K : PySem.W.Frag} {mg : Str → Option Value} {base : Heap}
def spFatesOf (K : PySem.W.Frag) : Sp := fun vs H Q _ => ∃ (k : Addr) (D : List Ln) (kn : KnL), vs = [.ref k] ∧ KnD (gPro K H) H k kn ∧ ConOk D (lesOf kn) ∧ kn.length ≤ 120 ∧ ∀ (H' : Hp) (f : Addr) (L : List LE), Same H H' → L.Perm (lesOf kn) → FD K H' f (L.flatMap con) → Q (.ref f) H'
theorem flat_take {L : List LE} {i : Nat} {x : LE} (h : L[i]? = some x) : (L.take (i + 1)).flatMap con = (L.take i).flatMap con ++ conA x ++ conB x := by
  rw [List.take_add_one, h, List.flatMap_append]
  simp [con]
theorem conA_nil {x : LE} (h : x.2.ahead = []) : conA x = [] := if_pos h
theorem conA_one {x : LE} (h : x.2.ahead ≠ []) : conA x = [(x.1 - 1, ⟨[], .keep, x.2.ahead⟩)] := if_neg h
theorem conB_nil {x : LE} (h : (⟨[], x.2.chg, x.2.behind⟩ : Ed) = e0) : conB x = [] := if_pos h
theorem conB_one {x : LE} (h : ¬ (⟨[], x.2.chg, x.2.behind⟩ : Ed) = e0) : conB x = [(x.1, ⟨[], x.2.chg, x.2.behind⟩)] := if_neg h
/-- the keys of a turn are new -/
theorem keys_new {D : List Ln} {L : List LE} (ok : ConOk D L) {i : Nat} {x : LE} (h : L[i]? = some x) : (x.2.ahead ≠ [] → x.1 - 1 ∉ ((L.take i).flatMap con).map (·.1)) ∧ (¬ (⟨[], x.2.chg, x.2.behind⟩ : Ed) = e0 → x.1 ∉ ((L.take i).flatMap con ++ conA x).map (·.1)) := by
  have nd := con_nodup (ok.take (i + 1))
  rw [flat_take h] at nd
  constructor
  · intro ha hm
    rw [conA_one ha, List.map_append, List.map_append] at nd
    have := (List.nodup_append.mp (List.nodup_append.mp nd).1).2.2 _ hm (x.1 - 1) (by simp)
    exact this rfl
  · intro hb hm
    rw [conB_one hb, List.map_append] at nd
    have := (List.nodup_append.mp nd).2.2 _ hm x.1 (by simp)
    exact this rfl
theorem cal_fatesOf {aK : Addr} (F : At K mg "fates_of" sFatesOf) (Tc : Cal P w K mg base CX0 1 "is_touched" ["edit"] (spTouched K)) (mS : mg "sorted" = none) (mK : mg "KEEP" = some (.ref aK)) (hK : ∀ H, SqT K H aK [.str "keep"]) :
    Cal P w K mg base CX0 2 "fates_of" ["known"] (spFatesOf K) := by
  refine F.cal scFatesOf (fun vs H Q E h => ?_) (fun _ _ _ _ _ _ us hl => match us, hl with | [_], _ => rfl) (fun f cdv A outer s H vs Q E hr h => ?_)
  · obtain ⟨k, D, kn, rfl, _⟩ := h
    rfl
  · obtain ⟨k, D, kn, rfl, ⟨kvs, hkv, hkp⟩, cok, hkl, q⟩ := h
    refine ⟨_, pss_cons (ps_set (i := 1) scFatesOf.nd rfl (.inl rfl) pe_dnewK)
      <| pss_cons (ps_for PassesOwn.never rfl (pi_list (pe_callB (call_sortedDI rfl) (by rfl) mS (by decide +kernel) (pa_cons (pv 0) pa_nil))) (pg_name (i := 2) scFatesOf.nd rfl (.inl rfl))
        (pss_cons (ps_asg (pe_dget (hu_of hr) (pv 0) (pv 2) (fun _ _ => rfl)) (pg_tup (by rfl) (pgs_cons (pg_name (i := 3) scFatesOf.nd rfl (.inl rfl)) (pgs_cons (pg_name (i := 4) scFatesOf.nd rfl (.inl rfl)) (pgs_cons (pg_name (i := 5) scFatesOf.nd rfl (.inl rfl)) pgs_nil)))))
        <| C8.pss_cut (ps_if (pt_truth (pv 3) (by intro _; rfl)) (pss_one (ps_dput (hu_of hr) (pv 1) (pe_op op_sub (pv 2) pe_int) (pe_tup (pa_cons (pe_tup pa_nil) (pa_cons (pe_glob (v := .ref aK) (by rfl) mK rfl) (pa_cons (pv 3) pa_nil)))) rfl)) pss_nil)
        <| pss_one (ps_if (pt_val (pe_cal0 Tc hr (pa_cons (pe_tup (pa_cons (pe_tup pa_nil) (pa_cons (pv 4) (pa_cons (pv 5) pa_nil)))) pa_nil))) (pss_one (ps_dput (hu_of hr) (pv 1) (pv 2) (pe_tup (pa_cons (pe_tup pa_nil) (pa_cons (pv 4) (pa_cons (pv 5) pa_nil)))) rfl)) pss_nil)))
      <| pss_one (ps_ret (pv 1)), ?_⟩
    refine fun fa nf => ?_
    have hkv1 : upd H fa (.dK []) k = some (.dK kvs) := by rw [upd_ne (ne_of_none hkv nf)]; exact hkv
    refine ⟨_, rfl, k, kvs, (lesOf kn).map fun x => (x.1 : Int), rfl, .inl hkv1, kn_keys hkp, fun ys pl hperm _ npl => ?_⟩
    obtain ⟨L, hL, rfl⟩ := perm_map_inv (fun x : LE => (x.1 : Int)) hperm (lesOf kn) rfl
    have Lok := cok.perm hL
    have Ll : L.length ≤ 120 := by rw [hL.length_eq, lesOf, List.length_map]; exact hkl
    have s1 : Same H (upd (upd H fa (.dK [])) pl (.lst ((L.map fun x => (x.1 : Int)).map V.int))) := (Same.new nf).trans (Same.new npl)
    have hpl1 : upd (upd H fa (.dK [])) pl (.lst ((L.map fun x => (x.1 : Int)).map V.int)) pl = some (.lst ((L.map fun x => (x.1 : Int)).map V.int)) := upd_same
    have hfa1 : upd (upd H fa (.dK [])) pl (.lst ((L.map fun x => (x.1 : Int)).map V.int)) fa = some (.dK []) := by
      rw [upd_ne (show fa ≠ pl from by rintro rfl; rw [upd_same] at npl; cases npl), upd_same]
    have pf : pl ≠ fa := by rintro rfl; rw [upd_same] at npl; cases npl
    refine ⟨pl, rfl, ⟨_, SqL.of hpl1⟩, ?_⟩
    refine for_list (xs := (L.map fun x => (x.1 : Int)).map V.int) (fun i σ H3 => ∃ (y2 y3 y4 y5 : Option V), σ = [some (.ref k), some (.ref fa), y2, y3, y4, y5] ∧ Same H H3 ∧ H3 pl = some (.lst ((L.map fun x => (x.1 : Int)).map V.int)) ∧ FD K H3 fa ((L.take i).flatMap con)) ?_ ?_ ?_ ?_
    · exact ⟨none, none, none, none, rfl, s1, hpl1, ⟨[], hfa1, .nil⟩⟩
    · rintro i σ H3 hi ⟨y2, y3, y4, y5, rfl, sm, hpl, _⟩
      exact SqL.of hpl
    · rintro i v σ H3 hv ⟨y2, y3, y4, y5, rfl, sm, hpl, hF⟩
      obtain ⟨x, hx, rfl⟩ : ∃ x, L[i]? = some x ∧ v = .int ((x.1 : Nat) : Int) := by
        rw [List.getElem?_map, List.getElem?_map] at hv
        cases e : L[i]? with
        | none => rw [e] at hv; cases hv
        | some x => rw [e] at hv; exact ⟨x, rfl, (Option.some.inj hv).symm⟩
      have hxm := List.mem_of_getElem? hx
      have hix : i < L.length := (List.getElem?_eq_some_iff.mp hx).1
      obtain ⟨hc1, hc2, hc3, hc4⟩ := Lok.ok x hxm
      obtain ⟨knew, knew2⟩ := keys_new Lok hx
      have flen : ((L.take i).flatMap con).length ≤ 240 := by
        have := flat_len (L.take i)
        have h2 : (L.take i).length ≤ L.length := by rw [List.length_take]; exact Nat.min_le_right _ _
        omega
      obtain ⟨j, hlk⟩ := look_of cok.nd (hL.mem_iff.mp hxm)
      have hkv3 := sm _ _ hkv
      obtain ⟨_, k2⟩ := kn_val (l := x.1) (Pmap (G := fun (p : Key × V) (x : Nat × Ed × Nat) => p.1 = Sum.inl (x.1 : Int) ∧ gPro K H3 p.2 x.2) hkp fun _ _ z => ⟨z.1, IsEd.mono (TT.of_same sm) z.2⟩)
      obtain ⟨v, hv1, hv2⟩ := k2 _ hlk
      have hg : DGet H3 k (.int ((x.1 : Nat) : Int)) (some v) := by rw [← hv1]; exact DGet.k (k := Sum.inl ((x.1 : Nat) : Int)) hkv3
      obtain ⟨ea, ex, ec, ez, rfl, e1, ⟨exa, rfl, ehx⟩, ⟨eca, rfl, ehc⟩, ⟨eza, rfl, ehz⟩⟩ := (show IsEd K H3 v x.2 from hv2)
      refine ⟨_, rfl, _, rfl, k, _, rfl, hg, ea, _, rfl, e1, rfl, _, _, rfl, _, _, rfl, _, _, rfl, rfl, ?_⟩
      refine ⟨fun σ' H' => σ' = [some (.ref k), some (.ref fa), some (.int ((x.1 : Nat) : Int)), some (.ref exa), some (.ref eca), some (.ref eza)] ∧ But fa H3 H' ∧ Same H H' ∧ FD K H' fa ((L.take i).flatMap con ++ conA x), ?_, ?_⟩
      · refine ⟨_, rfl, _, .inr (.inl ⟨_, ehx, rfl⟩), ?_⟩
        by_cases h0 : x.2.ahead = []
        · rw [h0]
          refine iteF ⟨rfl, But.refl, sm, ?_⟩
          rw [conA_nil h0, List.append_nil]
          exact hF
        · have hn : (!(strsV x.2.ahead).isEmpty) = true := by
            cases q : x.2.ahead with
            | nil => exact absurd q h0
            | cons _ _ => rfl
          rw [hn]
          refine iteT ⟨by show 0 ≤ sizeLine; decide, fun t1 n1 => ⟨_, rfl, by show 3 ≤ sizeLine; decide, fun t2 n2 => ?_⟩⟩
          have s4 : Same H3 (upd (upd H3 t1 (.tup [])) t2 (.tup [.ref t1, .ref aK, .ref exa])) := (Same.new n1).trans (Same.new n2)
          have hed : IsEd K (upd (upd H3 t1 (.tup [])) t2 (.tup [.ref t1, .ref aK, .ref exa])) (.ref t2) ⟨[], .keep, x.2.ahead⟩ :=
            ⟨t2, _, _, _, rfl, SqT.of upd_same, ⟨t1, rfl, TT.new n2 _ _ (SqT.of upd_same)⟩, ⟨aK, rfl, hK _⟩, ⟨exa, rfl, TT.of_same s4 _ _ ehx⟩⟩
          obtain ⟨H5, hput, b5, hF5⟩ := (hF.mono s4).put (x := (x.1 - 1, ⟨[], .keep, x.2.ahead⟩)) (knew h0) hed (by omega)
          refine ⟨_, rfl, _, rfl, _, _, rfl, rfl, fa, H5, rfl, ?_, rfl, ?_, ?_, ?_⟩
          · show DPut _ fa (.int ((x.1 : Int) - 1)) (.ref t2) H5
            rw [show (x.1 : Int) - 1 = ((x.1 - 1 : Nat) : Int) by omega]
            exact hput
          · exact (But.same s4).trans b5
          · exact fun b o hb => b5 b o (ne_of_none hb nf) (s4 b o (sm b o hb))
          · rw [conA_one h0]; exact hF5
      rintro σ' H5 ⟨rfl, b35, sm5, hF5⟩
      have ttk : TT K H3 H5 := by
        obtain ⟨kv3, e3, _⟩ := hF
        exact b35.ttD e3
      have hpl5 := b35 _ _ pf hpl
      refine ⟨by show 0 ≤ sizeLine; decide, fun t1 n1 => ⟨_, rfl, _, rfl, by show 3 ≤ sizeLine; decide, fun t2 n2 => ?_⟩⟩
      have s6 : Same H5 (upd (upd H5 t1 (.tup [])) t2 (.tup [.ref t1, .ref eca, .ref eza])) := (Same.new n1).trans (Same.new n2)
      have hed : IsEd K (upd (upd H5 t1 (.tup [])) t2 (.tup [.ref t1, .ref eca, .ref eza])) (.ref t2) ⟨[], x.2.chg, x.2.behind⟩ :=
        ⟨t2, _, _, _, rfl, SqT.of upd_same, ⟨t1, rfl, TT.new n2 _ _ (SqT.of upd_same)⟩, ⟨eca, rfl, TT.of_same s6 _ _ (ttk _ _ ehc)⟩, ⟨eza, rfl, TT.of_same s6 _ _ (ttk _ _ ehz)⟩⟩
      have hasc : Ed.Asc ⟨[], x.2.chg, x.2.behind⟩ := ⟨fun t h => (nomatch h), hc4.asc.2.1, hc4.asc.2.2⟩
      refine ⟨.ref t2, _, rfl, hed, hasc, fun H7 s7 => ⟨_, rfl, ?_⟩⟩
      have s57 := s6.trans s7
      have lenA : ((L.take i).flatMap con ++ conA x).length ≤ 241 := by
        have : (conA x).length ≤ 1 := by unfold conA; split <;> simp
        rw [List.length_append]
        omega
      by_cases hb : (⟨[], x.2.chg, x.2.behind⟩ : Ed) = e0
      · rw [decide_eq_true hb]
        refine iteF ⟨_, _, _, _, rfl, sm5.trans s57, s57 _ _ hpl5, ?_⟩
        rw [flat_take hx, conB_nil hb, List.append_nil]
        exact hF5.mono s57
      · rw [decide_eq_false hb]
        refine iteT ⟨by show 0 ≤ sizeLine; decide, fun t3 n3 => ⟨_, rfl, _, rfl, by show 3 ≤ sizeLine; decide, fun t4 n4 => ?_⟩⟩
        have s8 : Same H7 (upd (upd H7 t3 (.tup [])) t4 (.tup [.ref t3, .ref eca, .ref eza])) := (Same.new n3).trans (Same.new n4)
        have hed2 : IsEd K (upd (upd H7 t3 (.tup [])) t4 (.tup [.ref t3, .ref eca, .ref eza])) (.ref t4) ⟨[], x.2.chg, x.2.behind⟩ :=
          ⟨t4, _, _, _, rfl, SqT.of upd_same, ⟨t3, rfl, TT.new n4 _ _ (SqT.of upd_same)⟩, ⟨eca, rfl, TT.of_same (s57.trans s8) _ _ (ttk _ _ ehc)⟩, ⟨eza, rfl, TT.of_same (s57.trans s8) _ _ (ttk _ _ ehz)⟩⟩
        obtain ⟨H9, hput, b9, hF9⟩ := (hF5.mono (s57.trans s8)).put (x := (x.1, ⟨[], x.2.chg, x.2.behind⟩)) (knew2 hb) hed2 (by omega)
        refine ⟨_, rfl, _, rfl, fa, H9, rfl, hput, _, _, _, _, rfl, ?_, ?_, ?_⟩
        · exact fun b o hb' => b9 b o (ne_of_none hb' nf) ((s57.trans s8) b o (sm5 b o hb'))
        · exact b9 _ _ pf ((s57.trans s8) _ _ hpl5)
        · rw [flat_take hx, conB_one hb]; exact hF9
    · rintro σ H3 ⟨y2, y3, y4, y5, rfl, sm, hpl, hF⟩
      refine ⟨_, rfl, q H3 fa L sm hL ?_⟩
      rw [show L.take ((L.map fun x => (x.1 : Int)).map V.int).length = L from by rw [List.length_map, List.length_map]; exact List.take_length] at hF
      exact hF
end
end K31
set_option maxHeartbeats 2000000
/-! T9: the law's fates; program_fates. -/
namespace K31
open PySem PySem.Spec PyProof.Rows L2
structure KnF (D : List Ln) (R : List PL) (i : Nat) (kn : KnL) : Prop where
  nd : ((lesOf kn).map (·.1)).Nodup
  ok : ∀ x ∈ kn, CodeAt D x.1 ∧ 1 ≤ x.1 ∧ (x.2.1.ahead ≠ [] → HeadAt D (x.1 - 1)) ∧ EdOk 120 2 3 x.2.1
  fst : ∀ x ∈ kn, ∃ r, R[x.2.2]? = some r ∧ r.1 = x.1 ∧ ∀ m, m < x.2.2 → ∀ r', R[m]? = some r' → r'.1 ≠ x.1
  all : ∀ m, m < i → ∀ r, R[m]? = some r → look r.1 kn ≠ none
  lt : ∀ x ∈ kn, x.2.2 < i
  len : kn.length ≤ i
theorem look_app {l : Nat} {y : Nat × Ed × Nat} : ∀ {kn : KnL}, look l kn ≠ none → look l (kn ++ [y]) ≠ none
  | [], h => absurd rfl h
  | x :: r, h => by
    unfold look at h ⊢
    by_cases z : x.1 = l
    · rw [List.cons_append]
      show (if x.1 = l then some x.2 else _) ≠ none
      rw [if_pos z]
      exact fun w => nomatch w
    · rw [if_neg z] at h
      rw [List.cons_append]
      show (if x.1 = l then some x.2 else look l (r ++ [y])) ≠ none
      rw [if_neg z]
      exact look_app h
theorem look_last {l : Nat} {g : Ed × Nat} : ∀ {kn : KnL}, look l (kn ++ [(l, g)]) ≠ none
  | [] => by unfold look; rw [List.nil_append]; show (if l = l then some g else _) ≠ none; rw [if_pos rfl]; exact fun w => nomatch w
  | x :: r => by
    rw [List.cons_append]
    show (if x.1 = l then some x.2 else look l (r ++ [(l, g)])) ≠ none
    by_cases z : x.1 = l
    · rw [if_pos z]; exact fun w => nomatch w
    · rw [if_neg z]; exact look_last
theorem knF {D : List Ln} {R : List PL} {es : List Ed} (wf : WfD D) (hR : ∀ x ∈ R, PlOk D 6 x) (hE : ∀ e ∈ es, EdOk 120 2 3 e) (hl : es.length = R.length) : ∀ {i : Nat} {kn : KnL}, i ≤ R.length → runR D R es i = .known kn → KnF D R i kn
  | 0, kn, _, h => by
    have : kn = [] := (Out.known.inj h).symm
    subst this
    exact ⟨by simp [lesOf], fun x hx => (nomatch hx), fun x hx => (nomatch hx), fun m hm => absurd hm (by omega), fun x hx => (nomatch hx), Nat.le_refl _⟩
  | i + 1, kn', hi, h => by
    have hRi := List.getElem?_eq_getElem (show i < R.length by omega)
    have hEi := List.getElem?_eq_getElem (show i < es.length by omega)
    have hxm := List.getElem_mem (show i < R.length by omega)
    have hem := List.getElem_mem (show i < es.length by omega)
    generalize R[i] = x at hRi hxm
    generalize es[i] = e at hEi hem
    cases hr : runR D R es i with
    | unfit a b => rw [runR_stay hr (fun kn z => by cases z) (by omega)] at h; cases h
    | apart a b => rw [runR_stay hr (fun kn z => by cases z) (by omega)] at h; cases h
    | known kn =>
      have ih := knF wf hR hE hl (i := i) (by omega) hr
      rw [runR_step hr hRi hEi] at h
      by_cases hc : e.ahead ≠ [] ∧ headB D (x.1 - 1) = false
      · rw [step_place hc.1 hc.2] at h; cases h
      · cases hf : faults (ind D x.2) (texts e) with
        | some w => rw [step_fault hc hf] at h; cases h
        | none =>
          have old : ∀ m, m < i + 1 → ∀ r, R[m]? = some r → m < i ∨ r = x := fun m hm r hr' => by
            by_cases z : m = i
            · rw [z, hRi] at hr'; exact .inr (Option.some.inj hr').symm
            · exact .inl (by omega)
          cases hlk : look x.1 kn with
          | none =>
            rw [step_new hc hf hlk] at h
            have := Out.known.inj h
            subst this
            have both : ∀ {Pr : Nat × Ed × Nat → Prop}, (∀ y ∈ kn, Pr y) → Pr (x.1, backE (ind D x.2) (own D x.1) e, i) → ∀ y ∈ kn ++ [(x.1, backE (ind D x.2) (own D x.1) e, i)], Pr y := fun h1 h2 y hy => by
              rcases List.mem_append.mp hy with z | z
              · exact h1 y z
              · rw [List.mem_singleton.mp z]; exact h2
            refine ⟨?_, both ih.ok ⟨(hR x hxm).1, ?_, fun ha => ?_, backE_ok (hE e hem)⟩, both ih.fst ⟨x, hRi, rfl, fun m hm r' hr' z => ?_⟩, fun m hm r hr' => ?_, both (fun y hy => Nat.lt_succ_of_lt (ih.lt y hy)) (Nat.lt_succ_self i), by have := ih.len; simp; omega⟩
            · rw [lesOf, List.map_append, List.map_append]
              refine List.nodup_append.mpr ⟨ih.nd, by simp, fun a ha b hb z => ?_⟩
              have hb' : b = x.1 := by simpa using hb
              rw [List.map_map] at ha
              obtain ⟨y, hy, rfl⟩ := List.mem_map.mp ha
              exact look_none hlk y hy (by rw [← hb']; exact z)
            · obtain ⟨y, ey, _⟩ := pl_pos wf (hR x hxm)
              show 1 ≤ x.1
              omega
            · refine headB_iff.mp ?_
              cases hb : headB D (x.1 - 1) with
              | true => rfl
              | false =>
                refine absurd ⟨fun z => ha ?_, hb⟩ hc
                show e.ahead.map _ = []
                rw [z]; rfl
            · exact ih.all m hm r' hr' (by rw [z]; exact hlk)
            · rcases old m hm r hr' with z | z
              · exact look_app (ih.all m z r hr')
              · rw [z]; exact look_last
          | some g =>
            by_cases hg : g.1 = backE (ind D x.2) (own D x.1) e
            · rw [step_same hc hf hlk hg] at h
              have := Out.known.inj h
              subst this
              refine ⟨ih.nd, ih.ok, ih.fst, fun m hm r hr' => ?_, fun y hy => Nat.lt_succ_of_lt (ih.lt y hy), Nat.le_succ_of_le ih.len⟩
              rcases old m hm r hr' with z | z
              · exact ih.all m z r hr'
              · rw [z, hlk]; exact fun w => nomatch w
            · rw [step_apart hc hf hlk hg] at h; cases h
theorem KnF.con {D : List Ln} {R : List PL} {i : Nat} {kn : KnL} (h : KnF D R i kn) : ConOk D (lesOf kn) := ⟨h.nd, fun x hx => by
  obtain ⟨y, hy, rfl⟩ := List.mem_map.mp hx
  exact h.ok y hy⟩
theorem prog_ok {D : List Ln} (wf : WfD D) {n : Str} (h : OK D (tbOf D) n) : ∀ x ∈ Pr D (tbOf D) n [], PlOk D 6 x := fun x hx => by
  have hT : ∀ n l, tbOf D n = some l → ∀ a ∈ l, ∃ x, D[a]? = some x ∧ 2 ≤ x.isK := fun n l e a ha => ((tbW wf).mem n l e a ha).2
  have := Pr_ok hT h (Nat.le_refl _) [] 6 (fun y hy => nomatch hy) (by simp) x hx
  exact this
section
variable {P : Program} {w : World} {K : PySem.W.Frag} {mg : Str → Option Value} {base : Heap}
def spLFates (K : PySem.W.Frag) : Sp := fun vs H Q _ => ∃ (k : Addr) (D : List Ln) (kn : KnL), vs = [.ref k] ∧ KnD (gLaw K H) H k kn ∧ ConOk D (lesOf kn) ∧ kn.length ≤ 120 ∧ ∀ (H' : Hp) (f : Addr), Same H H' → FD K H' f ((lesOf kn).flatMap con) → Q (.ref f) H'
theorem lesOf_at {kn : KnL} {i : Nat} {x : Nat × Ed × Nat} (h : kn[i]? = some x) : (lesOf kn)[i]? = some (x.1, x.2.1) := by rw [lesOf, List.getElem?_map, h]; rfl
theorem cal_lFates (F : At K mg "_law_fates" sLFates) (mL : mg "len" = none) : Cal P w K mg base CX0 1 "_law_fates" ["_law_known"] (spLFates K) := by
  refine F.cal scLFates (fun vs H Q E h => ?_) (fun _ _ _ _ _ _ us hl => match us, hl with | [_], _ => rfl) (fun f cdv A outer s H vs Q E hr h => ?_)
  · obtain ⟨k, D, kn, rfl, _⟩ := h
    rfl
  · obtain ⟨k, D, kn, rfl, ⟨kvs, hkv, hkp⟩, cok, hkl, q⟩ := h
    refine ⟨_, pss_cons (ps_set (i := 1) scLFates.nd rfl (.inl rfl) pe_dnewK)
      <| pss_cons (ps_lock (ps_for PassesOwn.never rfl (pi_keys (pv 0)) (pg_name (i := 2) scLFates.nd rfl (.inl rfl))
        (pss_cons (ps_asg (pe_ix ix_tup (pe_dget (hu_of hr) (pv 0) (pv 2) (fun _ _ => rfl)) pe_int (fun _ _ => rfl)) (pg_tup (by rfl) (pgs_cons (pg_name (i := 3) scLFates.nd rfl (.inl rfl)) (pgs_cons (pg_name (i := 4) scLFates.nd rfl (.inl rfl)) (pgs_cons (pg_name (i := 5) scLFates.nd rfl (.inl rfl)) pgs_nil)))))
        <| C8.pss_cut (ps_if (pt_cmpR op_gt (pe_callB call_len_seq (by rfl) mL PySem.boot_len (pa_cons (pv 3) pa_nil)) pe_int (nomark _)) (pss_one (ps_dput (hu_of hr) (pv 1) (pe_op op_sub (pv 2) pe_int) (pe_tup (pa_cons (pe_tup pa_nil) (pa_cons (pe_tup (pa_cons pe_str pa_nil)) (pa_cons (pv 3) pa_nil)))) rfl)) pss_nil)
        <| pss_one (ps_if (PW.pt (pw_or (pt_cmpR (op_neD hr.units) (pv 4) (pe_tup (pa_cons pe_str pa_nil)) (nomark _)) (pw_or1 (pt_cmpR op_gt (pe_callB call_len_seq (by rfl) mL PySem.boot_len (pa_cons (pv 5) pa_nil)) pe_int (nomark _)))))
            (pss_one (ps_dput (hu_of hr) (pv 1) (pv 2) (pe_tup (pa_cons (pe_tup pa_nil) (pa_cons (pv 4) (pa_cons (pv 5) pa_nil)))) rfl)) pss_nil))))
      <| pss_one (ps_ret (pv 1)), ?_⟩
    refine fun fa nf => ?_
    have hkf : k ≠ fa := ne_of_none hkv nf
    have hkv1 : upd H fa (.dK []) k = some (.dK kvs) := by rw [upd_ne hkf]; exact hkv
    refine ⟨k, .dK kvs, hkv1, trivial, fun od => ?_⟩
    have hk2 : upd (upd H fa (.dK [])) k (.frz od (.dK kvs)) k = some (.frz od (.dK kvs)) := upd_same
    have hf2 : upd (upd H fa (.dK [])) k (.frz od (.dK kvs)) fa = some (.dK []) := by rw [upd_ne hkf.symm, upd_same]
    have b2 : ∀ b o, b ≠ k → H b = some o → upd (upd H fa (.dK [])) k (.frz od (.dK kvs)) b = some o := fun b o hb e => by rw [upd_ne hb, upd_ne (ne_of_none e nf)]; exact e
    refine ⟨_, rfl, k, od, rfl, .inl ⟨kvs, hk2, ?_⟩⟩
    -- the turns
    refine ⟨fun i m σ H3 => m = kvs.length - i ∧ i ≤ kvs.length ∧ ∃ (y2 y3 y4 y5 : Option V), σ = [some (.ref k), some (.ref fa), y2, y3, y4, y5] ∧ (∀ b o, b ≠ k → H b = some o → H3 b = some o) ∧ H3 k = some (.frz od (.dK kvs)) ∧ FD K H3 fa (((lesOf kn).take i).flatMap con),
      ⟨kvs.length, by simp, Nat.zero_le _, none, none, none, none, rfl, b2, hk2, ⟨[], hf2, .nil⟩⟩, ?_⟩
    rintro i m σ H3 ⟨rfl, hi, y2, y3, y4, y5, rfl, sm, hk3, hF⟩
    have hlen : kvs.length = kn.length := hkp.length
    by_cases hlt : i < kvs.length
    · refine .inr ⟨⟨hk3, hlt⟩, fun σ' H' => i + 1 ≤ kvs.length ∧ ∃ (y2 y3 y4 y5 : Option V), σ' = [some (.ref k), some (.ref fa), y2, y3, y4, y5] ∧ (∀ b o, b ≠ k → H b = some o → H' b = some o) ∧ H' k = some (.frz od (.dK kvs)) ∧ FD K H' fa (((lesOf kn).take (i + 1)).flatMap con), fun σ' H' p => ⟨kvs.length - (i + 1), by omega, rfl, p.1, p.2⟩, ?_⟩
      rintro v H' ⟨rfl, kk, vv, hkk, rfl⟩
      obtain ⟨x, hx, hkx, hg⟩ := Pg1 hkp hkk
      have hkx' : kk = Sum.inl (x.1 : Int) := hkx
      subst hkx'
      have hxl := lesOf_at hx
      have hxm := List.mem_of_getElem? hxl
      obtain ⟨hc1, hc2, hc3, hc4⟩ := cok.ok _ hxm
      obtain ⟨knew, knew2⟩ := keys_new cok hxl
      have flen : (((lesOf kn).take i).flatMap con).length ≤ 240 := by
        have := flat_len ((lesOf kn).take i)
        have h2 : ((lesOf kn).take i).length ≤ kn.length := by rw [List.length_take, lesOf, List.length_map]; exact Nat.min_le_right _ _
        omega
      have hval : valV kvs (Sum.inl ((x.1 : Nat) : Int)) = some vv := val_nodup (by rw [kn_keys hkp]; exact (List.nodup_iff_pairwise_ne.mpr (by
          rw [List.pairwise_map, List.pairwise_map]
          have := List.nodup_iff_pairwise_ne.mp cok.nd
          rw [List.pairwise_map] at this
          exact this.imp fun {a b} hab e => hab (by have := Sum.inl.inj e; omega)))) _ (List.mem_of_getElem? hkk)
      have hgd : DGet H' k (.int ((x.1 : Nat) : Int)) (some vv) := .inl ⟨kvs, Sum.inl ((x.1 : Nat) : Int), .inr ⟨od, hk3⟩, rfl, hval.symm⟩
      have tt3 : TT K H H' := fun a xs z => by
        rcases z with (z | ⟨ob, z⟩) | z
        · exact .inl (.inl (sm _ _ (by rintro rfl; rw [hkv] at z; cases z) z))
        · exact .inl (.inr ⟨ob, sm _ _ (by rintro rfl; rw [hkv] at z; cases z) z⟩)
        · exact .inr z
      obtain ⟨tg, ug, rfl, g1, g2⟩ := hg.mono tt3
      obtain ⟨ea, ex, ec, ez, rfl, e1, ⟨exa, rfl, ehx⟩, ⟨eca, rfl, ehc⟩, ⟨eza, rfl, ehz⟩⟩ := g2
      refine ⟨_, rfl, _, rfl, k, _, rfl, hgd, tg, _, 0, _, rfl, rfl, g1, atI_nat (j := 0) rfl, ea, _, rfl, e1, rfl, _, _, rfl, _, _, rfl, _, _, rfl, rfl, ?_⟩
      have kfa : ∀ {H5 : Hp}, But fa H' H5 → H5 k = some (.frz od (.dK kvs)) := fun b => b _ _ hkf hk3
      refine ⟨fun σ' H5 => σ' = [some (.ref k), some (.ref fa), some (.int ((x.1 : Nat) : Int)), some (.ref exa), some (.ref eca), some (.ref eza)] ∧ But fa H' H5 ∧ FD K H5 fa (((lesOf kn).take i).flatMap con ++ conA (x.1, x.2.1)), ?_, ?_⟩
      · refine ⟨_, rfl, exa, _, rfl, .inr ehx, _, _, rfl, rfl, _, rfl, ?_⟩
        rw [strsV_len]
        refine ite2 (fun h1 => ?_) (fun h1 => ?_)
        · have h0 : x.2.1.ahead ≠ [] := fun z => by
            have h2 : ((x.2.1.ahead.length : Nat) : Int) > 0 := of_decide_eq_true h1
            rw [z] at h2
            exact absurd h2 (by decide)
          refine ⟨by show 0 ≤ sizeLine; decide, fun t1 n1 => ⟨by show 1 ≤ sizeLine; decide, fun t0 n0 => ⟨_, rfl, by show 3 ≤ sizeLine; decide, fun t2 n2 => ?_⟩⟩⟩
          have s4 : Same H' (upd (upd (upd H' t1 (.tup [])) t0 (.tup [.str "keep"])) t2 (.tup [.ref t1, .ref t0, .ref exa])) := ((Same.new n1).trans (Same.new n0)).trans (Same.new n2)
          have hed : IsEd K (upd (upd (upd H' t1 (.tup [])) t0 (.tup [.str "keep"])) t2 (.tup [.ref t1, .ref t0, .ref exa])) (.ref t2) ⟨[], .keep, x.2.1.ahead⟩ :=
            ⟨t2, _, _, _, rfl, SqT.of upd_same, ⟨t1, rfl, TT.new n2 _ _ (TT.new n0 _ _ (SqT.of upd_same))⟩, ⟨t0, rfl, TT.new n2 _ _ (SqT.of upd_same)⟩, ⟨exa, rfl, TT.of_same s4 _ _ ehx⟩⟩
          obtain ⟨H5, hput, b5, hF5⟩ := (hF.mono s4).put (x := (x.1 - 1, ⟨[], .keep, x.2.1.ahead⟩)) (knew h0) hed (by omega)
          refine ⟨_, rfl, _, rfl, _, _, rfl, rfl, fa, H5, rfl, ?_, rfl, (But.same s4).trans b5, ?_⟩
          · show DPut _ fa (.int ((x.1 : Int) - 1)) (.ref t2) H5
            rw [show (x.1 : Int) - 1 = ((x.1 - 1 : Nat) : Int) by omega]
            exact hput
          · rw [conA_one h0]; exact hF5
        · have h0 : x.2.1.ahead = [] := by
            cases z : x.2.1.ahead with
            | nil => rfl
            | cons a r => exact absurd (decide_eq_true (show ((x.2.1.ahead.length : Nat) : Int) > 0 by rw [z]; simp)) h1
          refine ⟨rfl, But.refl, ?_⟩
          rw [conA_nil h0, List.append_nil]
          exact hF
      rintro σ' H5 ⟨rfl, b5, hF5⟩
      have ttk : TT K H' H5 := by
        obtain ⟨kv3, e3, _⟩ := hF
        exact b5.ttD e3
      have sm5 : ∀ b o, b ≠ k → H b = some o → H5 b = some o := fun b o hb e => b5 b o (ne_of_none e nf) (sm b o hb e)
      have lenA : (((lesOf kn).take i).flatMap con ++ conA (x.1, x.2.1)).length ≤ 241 := by
        have : (conA (x.1, x.2.1)).length ≤ 1 := by unfold conA; split <;> simp
        rw [List.length_append]
        omega
      refine ⟨_, rfl, by show 1 ≤ sizeLine; decide, fun t0 n0 => ?_⟩
      have s6 : Same H5 (upd H5 t0 (.tup [.str "keep"])) := Same.new n0
      have hkeep : IsChg K (upd H5 t0 (.tup [.str "keep"])) (.ref t0) .keep := ⟨t0, rfl, SqT.of upd_same⟩
      have hcg : IsChg K (upd H5 t0 (.tup [.str "keep"])) (.ref eca) x.2.1.chg := ⟨eca, rfl, TT.of_same s6 _ _ (ttk _ _ ehc)⟩
      have ehz6 : SqT K (upd H5 t0 (.tup [.str "keep"])) eza (strsV x.2.1.behind) := TT.of_same s6 _ _ (ttk _ _ ehz)
      have ehc6 : SqT K (upd H5 t0 (.tup [.str "keep"])) eca (chgV x.2.1.chg) := TT.of_same s6 _ _ (ttk _ _ ehc)
      have hF6 := hF5.mono s6
      have hk6 := s6 _ _ (kfa b5)
      have sm6 : ∀ b o, b ≠ k → H b = some o → upd H5 t0 (.tup [.str "keep"]) b = some o := fun b o hb e => s6 _ _ (sm5 b o hb e)
      refine ⟨chgD x.2.1.chg, chgD .keep, hcg.dp, hkeep.dp, shaped_chg hc4.asc.2.1, shaped_chg (c := .keep) trivial, _, rfl, ?_⟩
      rw [eqv_chg]
      generalize upd H5 t0 (.tup [.str "keep"]) = H6 at hF6 hk6 sm6 ehz6 ehc6
      -- the line's own fate
      have yes : ¬ (⟨[], x.2.1.chg, x.2.1.behind⟩ : Ed) = e0 → sDPut (tVar 1) (tVar 2) (tTup (tCons (tTup tNil) (tCons (tVar 4) (tCons (tVar 5) tNil)))) { nx := fun σ' H' => i + 1 ≤ kvs.length ∧ ∃ (y2 y3 y4 y5 : Option V), σ' = [some (.ref k), some (.ref fa), y2, y3, y4, y5] ∧ (∀ b o, b ≠ k → H b = some o → H' b = some o) ∧ H' k = some (.frz od (.dK kvs)) ∧ FD K H' fa (((lesOf kn).take (i + 1)).flatMap con), rt := fun _ _ => True } [some (.ref k), some (.ref fa), some (.int ((x.1 : Nat) : Int)), some (.ref exa), some (.ref eca), some (.ref eza)] H6 := by
        intro hb
        refine ⟨by show 0 ≤ sizeLine; decide, fun t3 n3 => ⟨_, rfl, _, rfl, by show 3 ≤ sizeLine; decide, fun t4 n4 => ?_⟩⟩
        have s8 : Same H6 (upd (upd H6 t3 (.tup [])) t4 (.tup [.ref t3, .ref eca, .ref eza])) := (Same.new n3).trans (Same.new n4)
        have hed2 : IsEd K (upd (upd H6 t3 (.tup [])) t4 (.tup [.ref t3, .ref eca, .ref eza])) (.ref t4) ⟨[], x.2.1.chg, x.2.1.behind⟩ :=
          ⟨t4, _, _, _, rfl, SqT.of upd_same, ⟨t3, rfl, TT.new n4 _ _ (SqT.of upd_same)⟩, ⟨eca, rfl, TT.of_same s8 _ _ ehc6⟩, ⟨eza, rfl, TT.of_same s8 _ _ ehz6⟩⟩
        obtain ⟨H9, hput, b9, hF9⟩ := (hF6.mono s8).put (x := (x.1, ⟨[], x.2.1.chg, x.2.1.behind⟩)) (knew2 hb) hed2 (by omega)
        refine ⟨_, rfl, _, rfl, fa, H9, rfl, hput, by omega, _, _, _, _, rfl, ?_, ?_, ?_⟩
        · exact fun b o hb' e => b9 b o (ne_of_none e nf) (s8 b o (sm6 b o hb' e))
        · exact b9 _ _ hkf (s8 _ _ hk6)
        · rw [flat_take hxl, conB_one hb]; exact hF9
      have no : (⟨[], x.2.1.chg, x.2.1.behind⟩ : Ed) = e0 → i + 1 ≤ kvs.length ∧ ∃ (y2 y3 y4 y5 : Option V), [some (V.ref k), some (.ref fa), some (.int ((x.1 : Nat) : Int)), some (.ref exa), some (.ref eca), some (.ref eza)] = [some (.ref k), some (.ref fa), y2, y3, y4, y5] ∧ (∀ b o, b ≠ k → H b = some o → H6 b = some o) ∧ H6 k = some (.frz od (.dK kvs)) ∧ FD K H6 fa (((lesOf kn).take (i + 1)).flatMap con) := fun hb =>
        ⟨by omega, _, _, _, _, rfl, sm6, hk6, by rw [flat_take hxl, conB_nil hb, List.append_nil]; exact hF6⟩
      by_cases hck : x.2.1.chg = .keep
      · rw [decide_eq_true hck]
        refine iteF ⟨_, rfl, eza, _, rfl, .inr ehz6, _, _, rfl, rfl, _, rfl, ?_⟩
        rw [strsV_len]
        refine ite2 (fun h1 => yes fun z => ?_) (fun h1 => no ?_)
        · have h2 : ((x.2.1.behind.length : Nat) : Int) > 0 := of_decide_eq_true h1
          have h3 : x.2.1.behind = [] := congrArg Ed.behind z
          rw [h3] at h2
          exact absurd h2 (by decide)
        · have h0 : x.2.1.behind = [] := by
            cases z : x.2.1.behind with
            | nil => rfl
            | cons a r => exact absurd (decide_eq_true (show ((x.2.1.behind.length : Nat) : Int) > 0 by rw [z]; simp)) h1
          rw [hck, h0]
      · rw [decide_eq_false hck]
        exact iteT (yes fun z => hck (congrArg Ed.chg z))
    · refine .inl ⟨⟨hk3, by omega⟩, hk3, _, rfl, ?_⟩
      have ei : (lesOf kn).take i = lesOf kn := List.take_of_length_le (by rw [lesOf, List.length_map]; omega)
      rw [ei] at hF
      refine q _ fa (fun b o e => ?_) ?_
      · by_cases hb : b = k
        · rw [hb, upd_same, ← hkv, ← e, hb]
        · rw [upd_ne hb]; exact sm b o hb e
      · obtain ⟨kv3, e3, p3⟩ := hF
        refine ⟨kv3, by rw [upd_ne hkf.symm]; exact e3, Pmap p3 fun _ _ z => ⟨z.1, z.2.mono (TT.frzd hk3)⟩⟩
end
end K31
set_option maxHeartbeats 2000000
/-! T10: program_fates. -/
namespace K31
open PySem PySem.Spec PyProof.Rows L2
abbrev sPF : Stmt := top 39
abbrev nPF : List Str := ["document", "root", "edits", "program", "firsts", "known", "at", "line", "fate"]
theorem scPF : FnScope nPF ["document", "root", "edits"] (defScope sPF) := ⟨rfl, rfl, rfl, by decide +kernel, rfl, by decide +kernel, by decide +kernel⟩
/-- two lines apart -/
def BadA (E : XK) (C : Addr) (i j : Nat) (H : Hp) : Prop := ∀ H' d, Sm H H' → H' d = some (.xd [("other", .int (j : Nat)), ("at", .int (i : Nat))]) → E (.ref C) (some d) H'
def Ends_ (E : XK) (Q : VK) (K : PySem.W.Frag) (CU CA : Addr) (H : Hp) : Out → Prop
  | .unfit i w => Bad E CU i w H
  | .apart i j => BadA E CA i j H
  | .known kn => ∀ (H' : Hp) (p : Addr) (L : List LE), Sm H H' → L.Perm (lesOf kn) → FD K H' p (L.flatMap con) → Q (.ref p) H'
section
variable {P : Program} {w : World} {K : PySem.W.Frag} {mg : Str → Option Value} {base : Heap}
abbrev progA (D : List Ln) : List PL := Pr D (tbOf D) "a" []
def spPF (K : PySem.W.Frag) (CU CA Pt : Addr) : Sp := fun vs H Q E => ∃ (d q : Addr) (D : List Ln) (es : List Ed), vs = [.ref d, .str "a", .ref q] ∧ IsDoc K H d D ∧ WfD D ∧ D.length ≤ 30 ∧ OK D (tbOf D) "a" ∧ Lf D (tbOf D) "a" ≤ 120 ∧ IsEds K H q es ∧ es.length = (progA D).length ∧ (∀ e ∈ es, EdOk 120 2 3 e) ∧ GxR.TabG H Pt ∧
  Ends_ E Q K CU CA H (runR D (progA D) es (progA D).length)
theorem cal_pf {CU CA Pt : Addr} {tM : Tok} (F : At K mg "program_fates" sPF) (A_ : ExF P w K mg base "Apart" "at" "other" CA) (Ta : Cal P w K mg base CX0 4 "tangle" ["document", "root"] (spTangle K)) (Fl : Cal P w K mg base CX0 2 "first_lines" ["document"] (spFirstLines K))
    (Sd : Cal P w K mg base (L2.CX P w) 7 "said_of" ["document", "firsts", "at", "line", "edit"] (spSaid K CU Pt)) (Oc : Cal P w K mg base CX0 1 "occurrences" ["program"] (spOcc K)) (Gr : Cal P w K mg base CX0 1 "growth" ["edits"] (spGrowth K))
    (Fo : Cal P w K mg base CX0 2 "fates_of" ["known"] (spFatesOf K)) (mE : mg "enumerate" = none) (mL : mg "len" = none) (mM : mg "MOST_LINES" = some (.int 2000 tM)) :
    Cal P w K mg base (L2.CX P w) 8 "program_fates" ["document", "root", "edits"] (spPF K CU CA Pt) := by
  refine F.calX scPF (fun vs H Q E h => ?_) (fun _ _ _ _ _ _ us hl => match us, hl with | [_, _, _], _ => rfl) (fun f cdv A outer s H vs Q E hr h => ?_)
  · obtain ⟨d, q, D, es, rfl, _⟩ := h
    rfl
  · obtain ⟨d, q0, D, es, rfl, hD, wf, hl30, okA, h120, hE, hlE, hEok, hT, hend⟩ := h
    have mono : ∀ (σ : L2.St) (H : Hp) (Q Q' : List V → Hp → Prop), (∀ vs H, Q vs H → Q' vs H) →
        tCons (tVar 6) (tCons (tOp (rIxL K) (tDGet (tCall (spOcc K) [] E0 (tCons (tVar 3) tNil)) (tOp (rIxT K) (tVar 7) (tC (.int 1)))) (tC (.int 0))) tNil) σ H Q →
        tCons (tVar 6) (tCons (tOp (rIxL K) (tDGet (tCall (spOcc K) [] E0 (tCons (tVar 3) tNil)) (tOp (rIxT K) (tVar 7) (tC (.int 1)))) (tC (.int 0))) tNil) σ H Q' := by
      intro σ H Q Q' hq h
      obtain ⟨v6, e6, v3, e3, p, R, ev, hP, hl, q⟩ := h
      refine ⟨v6, e6, v3, e3, p, R, ev, hP, hl, fun H' o s oc => ?_⟩
      obtain ⟨v7, e7, a, xs, i, v, h1, h2, h3, h4, b1, b2, b3, b4, c1, c2, c3, c4, c5, c6, c7, c8, z⟩ := q H' o s oc
      exact ⟨v7, e7, a, xs, i, v, h1, h2, h3, h4, b1, b2, b3, b4, c1, c2, c3, c4, c5, c6, c7, c8, hq _ _ z⟩
    refine ⟨_, pss_cons (ps_set (i := 3) scPF.nd rfl (.inl rfl) (pe_cal0 Ta (hr.mono (by decide)) (pa_cons (pv 0) (pa_cons (pv 1) pa_nil))))
      <| pss_cons (ps_set (i := 4) scPF.nd rfl (.inl rfl) (pe_cal0 Fl (hr.mono (by decide)) (pa_cons (pv 0) pa_nil)))
      <| pss_cons (ps_set (i := 5) scPF.nd rfl (.inl rfl) pe_dnewK)
      <| pss_cons (ps_for PassesOwn.leaving rfl (pi_enum (by rfl) mE (pa_cons (pv 3) pa_nil)) (pg_tup rfl (pgs_cons (pg_name (i := 6) scPF.nd rfl (.inl rfl)) (pgs_cons (pg_name (i := 7) scPF.nd rfl (.inl rfl)) pgs_nil)))
        (pss_cons (ps_set (i := 8) scPF.nd rfl (.inl rfl) (pe_calX Sd hr (takes_of rfl rfl rfl rfl) (pa_cons (pv 0) (pa_cons (pv 4) (pa_cons (pv 6) (pa_cons (pv 7) (pa_cons (pe_ix ix_list (pv 2) (pv 6) (fun _ _ => rfl)) pa_nil)))))))
        <| pss_one (ps_if (pt_cmp (pc_dnotin (hu_of hr) (pe_ix ix_tup (pv 7) pe_int (fun _ _ => rfl)) (pv 5))) (pss_one (ps_dput (hu_of hr) (pv 5) (pe_ix ix_tup (pv 7) pe_int (fun _ _ => rfl)) (pv 8) rfl))
            (pss_one (ps_if (pt_cmpR (op_neD hr.units) (pe_dget (hu_of hr) (pv 5) (pe_ix ix_tup (pv 7) pe_int (fun _ _ => rfl)) (fun _ _ => rfl)) (pv 8) (nomark _))
              (pss_one (ps_raise rfl (takes_of rfl rfl rfl rfl) (pmk_ex A_ (hr.mono (by decide)) (pa_cons (pv 6) (pa_cons (pe_ix ix_list (pe_dget (hu_of hr) (pe_cal0 Oc (hr.mono (by decide)) (pa_cons (pv 3) pa_nil)) (pe_ix ix_tup (pv 7) pe_int (fun _ _ => rfl)) (fun _ _ => rfl)) pe_int (fun _ _ => rfl)) pa_nil)) mono))) pss_nil)))))
      <| pss_cons (ps_if (pt_cmpR op_gt (pe_op op_add (pe_callB call_len_seq (by rfl) mL PySem.boot_len (pa_cons (pv 3) pa_nil)) (pe_cal0 Gr (hr.mono (by decide)) (pa_cons (pv 2) pa_nil))) (pe_glob (v := .int 2000) (by rfl) mM ⟨_, rfl⟩) (nomark _)) (pss_one ps_never) pss_nil)
      <| pss_one (ps_ret (pe_cal0 Fo (hr.mono (by decide)) (pa_cons (pv 5) pa_nil))), ?_⟩
    refine ⟨_, rfl, _, rfl, d, D, "a", rfl, hD, wf, hl30, okA, h120, fun H1 p s1 np hP => ?_⟩
    have hRlen : (progA D).length ≤ 120 := by rw [show (progA D).length = Lf D (tbOf D) "a" from Pr_len okA (Nat.le_refl _) []]; exact h120
    have hRok := prog_ok wf okA
    replace hP : IsProg K H1 p (progA D) := hP
    generalize hR : progA D = R at hP hend hlE hRlen
    have hRok : ∀ x ∈ R, PlOk D 6 x := by rw [← hR]; exact hRok
    refine ⟨_, rfl, d, D, rfl, hD.mono (TT.of_same s1), wf, hl30, fun H2 fl s2 hfl => ?_⟩
    have s02 : Same H H2 := s1.trans s2
    refine fun k nk => ?_
    have hP2 : IsProg K H2 p R := hP.sm (Same.sm s2)
    obtain ⟨rs, hrs, hPr⟩ := _root_.id hP2
    have hE2 : IsEds K H2 q0 es := hE.sm (Same.sm s02)
    obtain ⟨ev, hev, hEv⟩ := _root_.id hE2
    have hD2 : IsDoc K H2 d D := hD.mono (TT.of_same s02)
    have hrsk : upd H2 k (.dK []) p = some (.lst rs) := Same.new nk _ _ hrs
    refine ⟨_, rfl, p, rs, rfl, SqL.of hrsk, ?_⟩
    refine for_enL (xs := rs) (fun i σ H3 => ∃ (y6 y7 y8 : Option V) (kn : KnL), σ = [some (.ref d), some (.str "a"), some (.ref q0), some (.ref p), some (.ref fl), some (.ref k), y6, y7, y8] ∧ Sm H2 H3 ∧ runR D R es i = .known kn ∧ KnD (gPro K H3) H3 k kn ∧ i ≤ R.length) ?_ ?_ ?_ ?_
    · exact ⟨none, none, none, [], rfl, Same.sm (Same.new nk), rfl, ⟨[], upd_same, .nil⟩, Nat.zero_le _⟩
    · rintro i σ H3 hi ⟨y6, y7, y8, kn, rfl, sm, _⟩
      exact SqL.of (sm.lst hrs)
    · rintro i v T σ H3 hv nT ⟨y6, y7, y8, kn, rfl, sm, hrun, ⟨kvs, hkv, hkp⟩, hi⟩
      obtain ⟨x, hx, hvl⟩ := Pg1 hPr hv
      have hi' : i < R.length := (List.getElem?_eq_some_iff.mp hx).1
      have hei := List.getElem?_eq_getElem (show i < es.length by omega)
      have hem := hEok _ (List.getElem_mem (show i < es.length by omega))
      generalize es[i] = e at hei hem
      obtain ⟨ve, hve, hvee⟩ := Pg2 hEv hei
      have hxm := hRok _ (List.mem_of_getElem? hx)
      have kf := knF wf hRok hEok hlE hi hrun
      have hstep := runR_step hrun hx hei
      have stay : ∀ o : Out, (∀ kn, o ≠ .known kn) → stepR D i x e kn = o → runR D R es R.length = o := fun o hn ho => runR_stay (hstep.trans ho) hn (by omega)
      refine ⟨T, _, rfl, SqT.of upd_same, rfl, _, _, rfl, _, _, rfl, rfl, ?_⟩
      have s3 : Sm H2 (upd H3 T (.tup [.int (i : Nat), v])) := sm.trans (Same.sm (Same.new nT))
      have hkv4 : upd H3 T (.tup [.int (i : Nat), v]) k = some (.dK kvs) := Same.new nT _ _ hkv
      have hkp4 : Paired (fun (p : Key × V) (x : Nat × Ed × Nat) => p.1 = Sum.inl (x.1 : Int) ∧ gPro K (upd H3 T (.tup [.int (i : Nat), v])) p.2 x.2) kvs kn := Pmap hkp fun _ _ z => ⟨z.1, IsEd.mono (TT.new nT) z.2⟩
      generalize upd H3 T (.tup [.int (i : Nat), v]) = H4 at s3 hkv4 hkp4 ⊢
      have s04 : Sm H H4 := (Same.sm s02).trans s3
      refine ⟨_, rfl, _, rfl, _, rfl, _, rfl, _, rfl, _, rfl, q0, _, _, ve, rfl, rfl, SqL.of (s3.lst hev), atI_nat hve, ?_⟩
      have bad : ∀ w, stepR D i x e kn = .unfit i w → Bad E CU i w H4 := fun w hw => by
        have := hend
        rw [stay _ (fun kn z => by cases z) hw] at this
        exact Bad.sm this s04
      refine ⟨d, fl, i, v, ve, D, x, e, rfl, by omega, hD2.mono (TT.of_sm s3), wf, s3.lst hfl, hvl.mono (TT.of_sm s3), hxm, hvee.mono (TT.of_sm s3), hem, s04.tab _ hT, fun hc => bad _ (step_place hc.1 hc.2), fun hc w hw => bad w (step_fault hc hw), fun hc hf H5 v5 s5 hv5 => ?_⟩
      have hkv5 := s5.dk hkv4
      have hkp5 : Paired (fun (p : Key × V) (x : Nat × Ed × Nat) => p.1 = Sum.inl (x.1 : Int) ∧ gPro K H5 p.2 x.2) kvs kn := Pmap hkp4 fun _ _ z => ⟨z.1, IsEd.mono (TT.of_sm s5) z.2⟩
      obtain ⟨k1, k2⟩ := kn_val (l := x.1) hkp5
      have s25 : Sm H2 H5 := s3.trans s5
      obtain ⟨a, b, t, rfl, ha, hb⟩ := (hvl.mono (TT.of_sm s25)).get
      refine ⟨_, rfl, a, _, 1, _, rfl, rfl, ha, atI_nat (j := 1) rfl, _, rfl, k, _, rfl, DGet.k (k := Sum.inl ((x.1 : Nat) : Int)) hkv5, _, rfl, ?_⟩
      cases hlk : look x.1 kn with
      | none =>
        rw [k1 hlk]
        refine iteT ⟨_, rfl, _, rfl, _, rfl, a, _, 1, _, rfl, rfl, ha, atI_nat (j := 1) rfl, k, _, rfl, DPut.k (k := Sum.inl ((x.1 : Nat) : Int)) hkv5 (small5' (by have := kf.len; rw [hkp.length]; omega)), ?_⟩
        rw [putK_new _ (k1 hlk)]
        have tt : TT K H5 (upd H5 k (.dK (kvs ++ [(Sum.inl ((x.1 : Nat) : Int), v5)]))) := TT.dk hkv5
        refine ⟨_, _, _, kn ++ [(x.1, backE (ind D x.2) (own D x.1) e, i)], rfl, Sm.upn s25 nk, ?_, ⟨_, upd_same, Papp (Pmap hkp5 fun _ _ z => ⟨z.1, IsEd.mono tt z.2⟩) (.cons ⟨rfl, hv5.mono tt⟩ .nil)⟩, by omega⟩
        rw [hstep]; exact step_new hc hf hlk
      | some g =>
        obtain ⟨vg, hvg, g1⟩ := k2 g hlk
        rw [hvg]
        have hgo : EdOk 120 2 3 g.1 := (kf.ok _ (look_mem hlk)).2.2.2
        have hg : DGet H5 k (.int ((x.1 : Nat) : Int)) (some vg) := by rw [← hvg]; exact DGet.k (k := Sum.inl ((x.1 : Nat) : Int)) hkv5
        refine iteF ⟨_, rfl, _, rfl, a, _, 1, _, rfl, rfl, ha, atI_nat (j := 1) rfl, k, _, rfl, hg, _, rfl, edD g.1, edD (backE (ind D x.2) (own D x.1) e), IsEd.dp g1, hv5.dp, shaped_ed hgo.asc, shaped_ed (backE_ok hem).asc, _, rfl, ?_⟩
        rw [eqv_ed]
        by_cases hge : g.1 = backE (ind D x.2) (own D x.1) e
        · rw [decide_eq_true hge]
          refine iteF ⟨_, _, _, kn, rfl, s25, ?_, ⟨kvs, hkv5, hkp5⟩, by omega⟩
          rw [hstep]; exact step_same hc hf hlk hge
        · rw [decide_eq_false hge]
          refine iteT ⟨_, rfl, _, rfl, p, R, rfl, hP2.sm s25, hRlen, fun H6 o s6 hO => ?_⟩
          obtain ⟨r, hr1, hr2, hr3⟩ := kf.fst _ (look_mem hlk)
          have hjl := kf.lt _ (look_mem hlk)
          obtain ⟨rest, hocc⟩ := occ_first hr1 hr2 hr3 (i := R.length) (show g.2 < R.length by dsimp only at hjl; omega)
          obtain ⟨ao, hga, hao⟩ := hO.get hocc
          refine ⟨_, rfl, a, _, 1, _, rfl, rfl, TT.of_same s6 _ _ ha, atI_nat (j := 1) rfl, o, _, rfl, hga, ao, _, 0, _, rfl, rfl, SqL.of hao, atI_nat (j := 0) rfl, _, _, rfl, fm_nat (by omega), fm_nat (by dsimp only at hjl ⊢; omega), fun dd hdd => ?_⟩
          have := hend
          rw [stay _ (fun kn z => by cases z) (step_apart hc hf hlk hge)] at this
          exact this _ dd ((s04.trans s5).trans ((Same.sm s6).trans (Same.sm (Same.new hdd)))) upd_same
    · rintro σ H3 ⟨y6, y7, y8, kn, rfl, sm, hrun, hk, hi⟩
      rw [hPr.length] at hrun
      have kf := knF wf hRok hEok hlE (Nat.le_refl _) hrun
      refine ⟨_, rfl, p, _, rfl, .inl (SqL.of (sm.lst hrs)), _, rfl, q0, es, rfl, hE2.sm sm, by omega, hEok, fun gi hgi => ⟨_, _, rfl, rfl, _, _, rfl, rfl, _, rfl, ?_⟩⟩
      have hl' : rs.length ≤ 120 := by rw [hPr.length]; exact hRlen
      rw [decide_eq_false (show ¬ ((rs.length : Int) + gi > 2000) by omega)]
      refine iteF ⟨_, rfl, k, D, kn, rfl, hk, kf.con, by have := kf.len; omega, fun H5 fa L s5 hL hF => ?_⟩
      have := hend
      rw [hrun] at this
      exact this H5 fa L (((Same.sm s02).trans sm).trans (Same.sm s5)) hL hF
end
end K31
set_option maxHeartbeats 2000000
/-! T11: what the law is told; the law. -/
namespace K31
open PySem PySem.Spec PyProof.Rows L2
abbrev sLTold : Stmt := top 66
abbrev sLaw : Stmt := top 68
theorem scLTold : FnScope ["_law_document_here", "_law_root", "_law_edits_here", "e"] ["_law_document_here", "_law_root", "_law_edits_here"] (defScope sLTold) := ⟨rfl, rfl, rfl, by decide +kernel, rfl, by decide +kernel, by decide +kernel⟩
abbrev nLaw : List Str := ["_law_script", "_law_document_here", "_law_table_here", "_law_program", "_law_edits_here", "_law_due_here", "_law_passed", "_law_told_here"]
theorem scLaw : FnScope nLaw ["_law_script"] (defScope sLaw) := ⟨rfl, rfl, rfl, by decide +kernel, rfl, by decide +kernel, by decide +kernel⟩
theorem pss_guard {X : Cx} {st : List Stmt} {t : TS} {p : Prop} (h : p → PSs X st t) : PSs X st (fun D σ H => p ∧ t D σ H) := ⟨fun pins s σ H D I ⟨e, q⟩ => (h e).run pins s σ H D I q⟩
def IsTold (K : PySem.W.Frag) (H : Hp) (v : V) : Out → Prop
  | .unfit i w => ∃ a, v = .ref a ∧ SqT K H a [.str "unfit", .int (i : Nat), .str w, .bl true]
  | .apart i j => ∃ a, v = .ref a ∧ SqT K H a [.str "apart", .int (i : Nat), .int (j : Nat), .bl true]
  | .known kn => ∃ a p L, v = .ref a ∧ SqT K H a [.str "fates", .ref p] ∧ List.Perm L (lesOf kn) ∧ FD K H p (L.flatMap con)
/-- how the caught error of a class is read -/
structure CaF (K : PySem.W.Frag) (C W : Addr) (fa fb : Str) : Prop where
  xf : XfC K C
  na : PySem.W.findIn K (.ref C) fa = some none
  nb : PySem.W.findIn K (.ref C) fb = some none
  isa : IsaC K C
  kit : PySem.W.kitOne K (.ref C) (.ref W) = some true
section
variable {P : Program} {w : World} {K : PySem.W.Frag} {mg : Str → Option Value} {base : Heap}
def spTold (K : PySem.W.Frag) (Pt : Addr) : Sp := fun vs H Q _ => ∃ (d q : Addr) (D : List Ln) (es : List Ed), vs = [.ref d, .str "a", .ref q] ∧ IsDoc K H d D ∧ WfD D ∧ D.length ≤ 30 ∧ OK D (tbOf D) "a" ∧ Lf D (tbOf D) "a" ≤ 120 ∧ IsEds K H q es ∧ es.length = (progA D).length ∧ (∀ e ∈ es, EdOk 120 2 3 e) ∧ GxR.TabG H Pt ∧
  ∀ (H' : Hp) (v : V), Sm H H' → IsTold K H' v (runR D (progA D) es (progA D).length) → Q v H'
theorem cal_told {CU CA CW Pt : Addr} (F : At K mg "_law_told" sLTold) (Pf : Cal P w K mg base (L2.CX P w) 8 "program_fates" ["document", "root", "edits"] (spPF K CU CA Pt)) (mU : mg "Unfit" = some (.ref CU)) (mA : mg "Apart" = some (.ref CA)) (mW : mg "WeftError" = some (.ref CW)) (mI : mg "isinstance" = none)
    (fU : CaF K CU CW "at" "what") (fA : CaF K CA CW "at" "other") (x1 : PySem.W.exmOne K (.ref CU) (.ref CU) = some true) (x2 : PySem.W.exmOne K (.ref CA) (.ref CU) = some false) (x3 : PySem.W.exmOne K (.ref CA) (.ref CA) = some true) :
    Cal P w K mg base CX0 9 "_law_told" ["_law_document_here", "_law_root", "_law_edits_here"] (spTold K Pt) := by
  refine F.cal scLTold (fun vs H Q E h => ?_) (fun _ _ _ _ _ _ us hl => match us, hl with | [_, _, _], _ => rfl) (fun f cdv A outer s H vs Q E hr h => ?_)
  · obtain ⟨d, q, D, es, rfl, _⟩ := h
    rfl
  · obtain ⟨d, q0, D, es, rfl, hD, wf, hl30, okA, h120, hE, hlE, hEok, hT, q⟩ := h
    refine ⟨_, pss_one (ps_try_manyAs (i := 3) rfl rfl scLTold.nd rfl rfl takes0 (fun W pn xe tk _ => pss_one (ps_ret (pe_tup (pa_cons pe_str (pa_cons (pe_calX Pf hr tk (pa_cons (pv 0) (pa_cons (pv 1) (pa_cons (pv 2) pa_nil)))) pa_nil)))))
      (.cons (ts := fun a cls d => fun D σ H => cls = .ref CU ∧ tRet (tTup (tCons (tC (.str "unfit")) (tCons (tXf a (.ref CU) d CU "at" (tVar 3)) (tCons (tXf a (.ref CU) d CU "what" (tVar 3)) (tCons (tCB (rIsX K CU a d) (tCons (tVar 3) (tCons (tC (.ref CW)) tNil))) tNil))))) D σ H) ⟨by rfl, by decide, .inl mU⟩ (fun a oe cls d pn hz hf => pss_guard (p := cls = .ref CU) fun ec => by
          subst ec
          exact pss_one (ps_ret (pe_tup (pa_cons pe_str (pa_cons (pe_xf fU.xf fU.na hz hf (pv 3)) (pa_cons (pe_xf fU.xf fU.nb hz hf (pv 3)) (pa_cons (pe_callB (call_isX fU.isa hz hf) (by rfl) mI (by decide +kernel) (pa_cons (pv 3) (pa_cons (pe_glob (v := .ref CW) (by rfl) mW rfl) pa_nil))) pa_nil)))))))
        (.cons (ts := fun a cls d => fun D σ H => cls = .ref CA ∧ tRet (tTup (tCons (tC (.str "apart")) (tCons (tXf a (.ref CA) d CA "at" (tVar 3)) (tCons (tXf a (.ref CA) d CA "other" (tVar 3)) (tCons (tCB (rIsX K CA a d) (tCons (tVar 3) (tCons (tC (.ref CW)) tNil))) tNil))))) D σ H) ⟨by rfl, by decide, .inl mA⟩ (fun a oe cls d pn hz hf => pss_guard (p := cls = .ref CA) fun ec => by
          subst ec
          exact pss_one (ps_ret (pe_tup (pa_cons pe_str (pa_cons (pe_xf fA.xf fA.na hz hf (pv 3)) (pa_cons (pe_xf fA.xf fA.nb hz hf (pv 3)) (pa_cons (pe_callB (call_isX fA.isa hz hf) (by rfl) mI (by decide +kernel) (pa_cons (pv 3) (pa_cons (pe_glob (v := .ref CW) (by rfl) mW rfl) pa_nil))) pa_nil))))))) .nil))), ?_⟩
    refine ⟨_, rfl, _, rfl, _, rfl, d, q0, D, es, rfl, hD, wf, hl30, okA, h120, hE, hlE, hEok, hT, ?_⟩
    generalize runR D (progA D) es (progA D).length = o at q
    cases o with
    | unfit i wd =>
      intro H' dd sm hdd
      refine ⟨true, x1, fun _ a ha => ⟨rfl, ?_⟩, fun z => nomatch z⟩
      refine ⟨_, rfl, rfl, rfl, dd, _, _, rfl, hdd, rfl, _, rfl, rfl, rfl, dd, _, _, rfl, hdd, rfl, _, rfl, .ref CW, .ref CW, true, dd, _, rfl, fun u r => r, rfl, hdd, fU.kit, by show 4 ≤ sizeLine; decide, fun u nu => ?_⟩
      exact q _ (.ref u) (sm.trans (Same.sm (Same.new nu))) ⟨u, rfl, SqT.of upd_same⟩
    | apart i j =>
      intro H' dd sm hdd
      refine ⟨false, x2, (fun z => nomatch z), fun _ => ⟨true, x3, fun _ a ha => ⟨rfl, ?_⟩, fun z => nomatch z⟩⟩
      refine ⟨_, rfl, rfl, rfl, dd, _, _, rfl, hdd, rfl, _, rfl, rfl, rfl, dd, _, _, rfl, hdd, rfl, _, rfl, .ref CW, .ref CW, true, dd, _, rfl, fun u r => r, rfl, hdd, fA.kit, by show 4 ≤ sizeLine; decide, fun u nu => ?_⟩
      exact q _ (.ref u) (sm.trans (Same.sm (Same.new nu))) ⟨u, rfl, SqT.of upd_same⟩
    | known kn =>
      intro H' p L sm hL hF
      refine ⟨by show 2 ≤ sizeLine; decide, fun u nu => ?_⟩
      exact q _ (.ref u) (sm.trans (Same.sm (Same.new nu))) ⟨u, p, L, rfl, SqT.of upd_same, hL, hF.mono (Same.new nu)⟩
end
end K31
set_option maxHeartbeats 2000000
/-! T12: the law. -/
namespace K31
open PySem PySem.Spec PyProof.Rows L2
theorem refl_of {d : PyData} (h : SeqAt.shaped d = true) : PyData.eqv d d = true := SeqAt.eqv_refl d (SeqAt.canLay_of_shaped h)
/-! ### data -/
theorem canAll_eds : ∀ {l : List Ed}, (∀ e ∈ l, e.Asc) → PyData.canLayAll0 (l.map edD) = true
  | [], _ => rfl
  | x :: r, h => by
    show (PyData.canLay0 (edD x) && PyData.canLayAll0 (r.map edD)) = true
    rw [canAll_eds fun t ht => h t (List.mem_cons_of_mem _ ht), Bool.and_true]
    exact SeqAt.canLay_of_shaped (shaped_ed (h x List.mem_cons_self))
theorem depth_ed (e : Ed) : PyData.depth (edD e) ≤ 3 := by
  have h1 := depth_strs e.ahead
  have h2 := depth_chg e.chg
  have h3 := depth_strs e.behind
  show PyData.depth (.tuple [strD e.ahead, chgD e.chg, strD e.behind]) ≤ 3
  simp only [PyData.depth, PyData.depthAll]
  omega
theorem depthAll_eds : ∀ (l : List Ed), PyData.depthAll (l.map edD) ≤ 3
  | [] => by simp [PyData.depthAll]
  | x :: r => by
    have h1 := depthAll_eds r
    have h2 := depth_ed x
    simp only [List.map_cons, PyData.depthAll]
    omega
theorem shaped_eds {l : List Ed} (h : ∀ e ∈ l, e.Asc) : SeqAt.shaped (.list (l.map edD)) = true := by
  unfold SeqAt.shaped
  rw [Bool.and_eq_true]
  constructor
  · simp only [PyData.canLay0]
    exact canAll_eds h
  · refine decide_eq_true ?_
    have := depthAll_eds l
    simp only [PyData.depth]
    omega
theorem dp_eds {K : PySem.W.Frag} {H : Hp} : ∀ {vs : List V} {es : List Ed}, Paired (IsEd K H) vs es → DpAll K H vs (es.map edD)
  | _, _, .nil => .nil
  | _, _, .cons h t => .cons h.dp (dp_eds t)
theorem fault_asc {n : Nat} {t w : Str} (h : fault n t = some w) : Asc w := by
  unfold fault at h
  by_cases h0 : t = ""
  · rw [if_pos h0] at h; cases h
  · rw [if_neg h0] at h
    by_cases h1 : cutS t none (some (n : Int)) ≠ sp n
    · rw [if_pos h1] at h; rw [← Option.some.inj h]; exact (okB_asc (by decide +kernel)).1
    · rw [if_neg h1] at h
      by_cases h2 : cutS t (some (n : Int)) none = ""
      · rw [if_pos h2] at h; rw [← Option.some.inj h]; exact (okB_asc (by decide +kernel)).1
      · rw [if_neg h2] at h
        by_cases h3 : refB (cutS t (some (n : Int)) none) = true
        · rw [if_pos h3] at h; rw [← Option.some.inj h]; exact (okB_asc (by decide +kernel)).1
        · rw [if_neg h3] at h; cases h
theorem run_word {D : List Ln} {R : List PL} {es : List Ed} {w : Str} {j : Nat} : ∀ {i : Nat}, runR D R es i = .unfit j w → Asc w
  | 0, h => by cases h
  | i + 1, h => by
    unfold runR at h
    cases hr : runR D R es i with
    | unfit a b =>
      rw [hr] at h
      exact run_word (i := i) (by rw [hr]; exact h)
    | apart a b => rw [hr] at h; cases h
    | known kn =>
      rw [hr] at h
      dsimp only at h
      cases h1 : R[i]? with
      | none => rw [h1] at h; cases h
      | some x =>
        rw [h1] at h
        cases h2 : es[i]? with
        | none => rw [h2] at h; cases h
        | some e =>
          rw [h2] at h
          have h' : stepR D i x e kn = .unfit j w := h
          by_cases hc : e.ahead ≠ [] ∧ headB D (x.1 - 1) = false
          · rw [step_place hc.1 hc.2] at h'
            cases h'
            exact (okB_asc (by decide +kernel)).1
          · cases hf : faults (ind D x.2) (texts e) with
            | some w' =>
              rw [step_fault hc hf] at h'
              cases h'
              unfold faults at hf
              obtain ⟨t, _, ht⟩ := List.exists_of_findSome?_eq_some hf
              exact fault_asc ht
            | none =>
              cases hlk : look x.1 kn with
              | none => rw [step_new hc hf hlk] at h'; cases h'
              | some g =>
                by_cases hg : g.1 = backE (ind D x.2) (own D x.1) e
                · rw [step_same hc hf hlk hg] at h'; cases h'
                · rw [step_apart hc hf hlk hg] at h'; cases h'
theorem shaped_unfit {i : Nat} {w : Str} (h : Asc w) : SeqAt.shaped (.tuple [.str "unfit", .int (i : Int), .str w, .bool true]) = true := by
  unfold SeqAt.shaped
  rw [Bool.and_eq_true]
  constructor
  · simp only [PyData.canLay0, PyData.canLayAll0]
    rw [strOk_asc h]
    decide +kernel
  · simp [PyData.depth, PyData.depthAll]
theorem shaped_apart {i j : Nat} : SeqAt.shaped (.tuple [.str "apart", .int (i : Int), .int (j : Int), .bool true]) = true := by
  unfold SeqAt.shaped
  rw [Bool.and_eq_true]
  constructor
  · simp only [PyData.canLay0, PyData.canLayAll0]
    decide +kernel
  · simp [PyData.depth, PyData.depthAll]
theorem fd_get {K : PySem.W.Frag} {H : Hp} {y : LE} : ∀ {kvs : List (Key × V)} {cs : List LE}, Paired (fun (p : Key × V) (x : LE) => p.1 = kN x.1 ∧ IsEd K H p.2 x.2) kvs cs → (cs.map (·.1)).Nodup → y ∈ cs → ∃ u, valV kvs (kN y.1) = some u ∧ IsEd K H u y.2
  | _, _, .nil, _, hy => nomatch hy
  | p :: kvs, x :: cs, .cons ⟨h1, h2⟩ t, nd, hy => by
    have nd' := List.nodup_cons.mp nd
    rcases List.mem_cons.mp hy with z | z
    · subst z
      exact ⟨p.2, valV_pos h1, h2⟩
    · obtain ⟨u, hu, hi⟩ := fd_get t nd'.2 z
      refine ⟨u, ?_, hi⟩
      rw [← hu]
      exact valV_neg (by rw [h1]; exact fun w => nd'.1 (by show x.1 ∈ _; rw [kN_inj w]; exact List.mem_map.mpr ⟨y, z, rfl⟩))
theorem con_asc {D : List Ln} {L : List LE} (h : ConOk D L) {y : LE} (hy : y ∈ L.flatMap con) : y.2.Asc := by
  obtain ⟨x, hx, hyx⟩ := List.mem_flatMap.mp hy
  have ha := (h.ok x hx).2.2.2.asc
  rcases List.mem_append.mp hyx with z | z
  · unfold conA at z
    split at z
    · cases z
    · rw [List.mem_singleton.mp z]
      exact ⟨fun t h => (nomatch h), trivial, ha.1⟩
  · unfold conB at z
    split at z
    · cases z
    · rw [List.mem_singleton.mp z]
      exact ⟨fun t h => (nomatch h), ha.2.1, ha.2.2⟩
section
variable {P : Program} {w : World} {K : PySem.W.Frag} {mg : Str → Option Value} {base : Heap}
def spLaw (K : PySem.W.Frag) (Pt : Addr) : Sp := fun vs H Q _ => ∃ (a : Addr) (ns : List Int), vs = [.ref a] ∧ SqL K H a (ns.map V.int) ∧ GxR.TabG H Pt ∧ ∀ H', Q (.bl true) H'
theorem ok_law {Pt f : Addr} {fd : FuncData} (F : Fun K "law" "law" sLaw f fd) (Dc : Cal P w K mg base CX0 3 "_law_document" ["_law_script", "_law_at", "_law_count", "_law_calm"] (spDoc K)) (Ce : Cal P w K mg base CX0 1 "_law_cell" ["_law_script", "_law_k"] (spC K)) (Tb_ : Cal P w K mg base CX0 1 "_law_table" ["_law_document_here"] (spTable K))
    (Sm_ : Cal P w K mg base CX0 7 "_law_is_small" pSmall (spSmall K)) (Ta : Cal P w K mg base CX0 4 "tangle" ["document", "root"] (spTangle K)) (Es : Cal P w K mg base CX0 3 "_law_edits" ["_law_script", "_law_start", "_law_document_here", "_law_program"] (spLEdits K))
    (Du : Cal P w K mg base CX0 4 "_law_due" ["_law_document_here", "_law_program", "_law_edits_here"] (spLDue K)) (To : Cal P w K mg base CX0 9 "_law_told" ["_law_document_here", "_law_root", "_law_edits_here"] (spTold K Pt)) (Fa : Cal P w K mg base CX0 1 "_law_fates" ["_law_known"] (spLFates K))
    (mL : mg "list" = none) (mI : mg "isinstance" = none) (mD : mg "dict" = none) : FnOk P w K mg base CX0 10 f fd ["_law_script"] (spLaw K Pt) := by
  refine F.ok scLaw (fun vs H Q E h => ?_) (fun cdv A outer s H vs Q E hr h => ?_)
  · obtain ⟨a, ns, rfl, _⟩ := h
    rfl
  · obtain ⟨a, ns, rfl, hs, hT, q⟩ := h
    have hu80 : (A.deeper (envOfC "law" (defScope sLaw) s.heap.objs.size f cdv)).units + 80 < cLine := by have := hr.un; omega
    refine ⟨_, pss_cons (ps_set (i := 1) scLaw.nd rfl (.inl rfl) (pe_cal0 Dc (hr.mono (by decide)) (pa_cons (pv 0) (pa_cons pe_int (pa_cons (pe_op op_add pe_int (pe_op op_mod (pe_cal0 Ce (hr.mono (by decide)) (pa_cons (pv 0) (pa_cons pe_int pa_nil))) pe_int))
          (pa_cons (pe_cmpR op_gt (pe_op op_mod (pe_cal0 Ce (hr.mono (by decide)) (pa_cons (pv 0) (pa_cons pe_int pa_nil))) pe_int) pe_int (nomark _)) pa_nil))))))
      <| pss_cons (ps_set (i := 2) scLaw.nd rfl (.inl rfl) (pe_cal0 Tb_ (hr.mono (by decide)) (pa_cons (pv 1) pa_nil)))
      <| pss_cons (ps_if (pt_not (pt_val (pe_cal0 Sm_ (hr.mono (by decide)) (pa_cons (pv 1) (pa_cons (pv 2) (pa_cons pe_str pa_nil)))))) (pss_one (ps_ret pe_bl)) pss_nil)
      <| pss_cons (ps_set (i := 3) scLaw.nd rfl (.inl rfl) (pe_cal0 Ta (hr.mono (by decide)) (pa_cons (pv 1) (pa_cons pe_str pa_nil))))
      <| pss_cons (ps_set (i := 4) scLaw.nd rfl (.inl rfl) (pe_cal0 Es (hr.mono (by decide)) (pa_cons (pv 0) (pa_cons pe_int (pa_cons (pv 1) (pa_cons (pv 3) pa_nil))))))
      <| pss_cons (ps_set (i := 5) scLaw.nd rfl (.inl rfl) (pe_cal0 Du (hr.mono (by decide)) (pa_cons (pv 1) (pa_cons (pv 3) (pa_cons (pv 4) pa_nil)))))
      <| pss_cons (ps_set (i := 6) scLaw.nd rfl (.inl rfl) (pe_callTy call_list_of (by rfl) mL (by decide +kernel) (pa_cons (pv 4) pa_nil)))
      <| pss_cons (ps_set (i := 7) scLaw.nd rfl (.inl rfl) (pe_cal0 To hr (pa_cons (pv 1) (pa_cons pe_str (pa_cons (pv 6) pa_nil)))))
      <| pss_cons (ps_if (pt_cmpR (op_neD hr.units) (pv 6) (pv 4) (nomark _)) (pss_one (ps_ret pe_bl)) pss_nil)
      <| pss_cons (ps_if (pt_cmpR op_ne (pe_ix ix_tup (pv 5) pe_int (fun _ _ => rfl)) pe_str (nomark _)) (pss_one (ps_ret (pe_cmpR (op_eqD hr.units) (pv 7) (pe_op op_catA (pv 5) (pe_tup (pa_cons pe_bl pa_nil))) (nomark _)))) pss_nil)
      <| pss_one (ps_ret (pe_and (pe_cmpR op_eq (pe_ix ix_tup (pv 7) pe_int (fun _ _ => rfl)) pe_str (nomark _)) (pe_and (pe_callB call_isi (by rfl) mI (by decide +kernel) (pa_cons (pe_ix ix_tup (pv 7) pe_int (fun _ _ => rfl)) (pa_cons (pe_bltn (v := .ty "dict") (by rfl) mD (by decide +kernel) rfl) pa_nil)))
          (pe_one (pe_cmpR (op_eqDD hu80) (pe_ix ix_tup (pv 7) pe_int (fun _ _ => rfl)) (pe_cal0 Fa (hr.mono (by decide)) (pa_cons (pe_ix ix_tup (pv 5) pe_int (fun _ _ => rfl)) pa_nil)) (nomark _)))))), ?_⟩
    -- the document
    refine ⟨_, rfl, _, rfl, a, ns, 0, rfl, hs, fun c0 => ?_⟩
    obtain ⟨n0, en0⟩ := nat_of (show 0 ≤ c0 % 25 from Int.emod_nonneg _ (by decide))
    have hn0 : n0 < 25 := by have := Int.emod_lt_of_pos c0 (show (0 : Int) < 25 by decide); omega
    refine ⟨_, _, rfl, rfl, (by show (0 : Int) < 25; decide), _, _, rfl, rfl, _, rfl, a, ns, 1, rfl, hs, fun c1 => ⟨_, _, rfl, rfl, (by show (0 : Int) < 4; decide), _, _, rfl, rfl, ?_⟩⟩
    refine ⟨a, ns, 3, 1 + n0, decide (0 < c1 % 4), ?_, hs, by omega, fun H1 d D s1 hD wf hlen => ?_⟩
    · show [V.ref a, V.int 3, V.int (1 + c0 % 25), V.bl (decide (0 < c1 % 4))] = _
      rw [en0]
      simp
    have hl30 : D.length ≤ 30 := by omega
    -- the table
    refine ⟨_, rfl, d, D, rfl, hD, wf, hl30, fun H2 t s2 hTab => ?_⟩
    have s02 := s1.trans s2
    have hD2 := hD.mono (TT.of_same s2)
    refine ⟨_, rfl, _, rfl, d, t, H1, D, rfl, wf, hl30, ⟨hD2, hTab⟩, fun H3 s3 => ⟨_, rfl, iteT (q H3)⟩, fun H3 s3 okA h120 => ⟨_, rfl, iteF ?_⟩⟩
    have s03 := s02.trans s3
    have hD3 := hD2.mono (TT.of_same s3)
    -- the program
    refine ⟨_, rfl, d, D, "a", rfl, hD3, wf, hl30, okA, h120, fun H4 p s4 np hP => ?_⟩
    replace hP : IsProg K H4 p (progA D) := hP
    have s04 := s03.trans s4
    have hD4 := hD3.mono (TT.of_same s4)
    have hRok := prog_ok wf okA
    have hRlen : (progA D).length ≤ 120 := by rw [show (progA D).length = Lf D (tbOf D) "a" from Pr_len okA (Nat.le_refl _) []]; exact h120
    -- the edits
    refine ⟨_, rfl, _, rfl, _, rfl, a, d, p, ns, 30, D, progA D, rfl, s04.seq hs, hD4, wf, hP, hRok, hRlen, fun H5 eq es s5 hE hle heo => ?_⟩
    have s05 := s04.trans s5
    have hD5 := hD4.mono (TT.of_same s5)
    have hP5 := hP.sm (Same.sm s5)
    -- what is due
    refine ⟨_, rfl, _, rfl, _, rfl, d, p, eq, D, progA D, es, rfl, hD5, wf, hP5, hRok, hRlen, hE, hle, heo, fun H6 vd s6 hdue => ?_⟩
    have s06 := s05.trans s6
    obtain ⟨ev, hev, hEv⟩ := _root_.id (hE.sm (Same.sm s6))
    refine ⟨_, rfl, eq, _, rfl, .inl (SqL.of hev), fun eq2 nq2 => ?_⟩
    have s07 := s06.trans (Same.new (o := .lst ev) nq2)
    have hE2 : IsEds K (upd H6 eq2 (.lst ev)) eq2 es := ⟨ev, upd_same, Pmap hEv fun _ _ z => z.mono (TT.new nq2)⟩
    refine ⟨_, rfl, _, rfl, d, eq2, D, es, rfl, (hD5.mono (TT.of_same s6)).mono (TT.new nq2), wf, hl30, okA, h120, hE2, hle, heo, (Same.sm s07).tab _ hT, fun H8 vt s8 htold => ?_⟩
    have s68 : Sm H6 H8 := (Same.sm (Same.new nq2)).trans s8
    -- the edits stand
    have hEv8 : Paired (IsEd K H8) ev es := Pmap hEv fun _ _ z => z.mono (TT.of_sm s68)
    have he8 := s68.lst hev
    have he82 := s8.lst (show upd H6 eq2 (.lst ev) eq2 = some (.lst ev) from upd_same)
    have hsh := shaped_eds (l := es) fun e he => (heo e he).asc
    refine ⟨_, rfl, _, rfl, .list (es.map edD), .list (es.map edD), .lst (SqL.of he82) (dp_eds hEv8), .lst (SqL.of he8) (dp_eds hEv8), hsh, hsh, _, rfl, ?_⟩
    rw [refl_of hsh]
    refine iteF ?_
    have kf0 : ∀ kn, runR D (progA D) es (progA D).length = .known kn → KnF D (progA D) (progA D).length kn := fun kn hk => knF wf hRok heo hle (Nat.le_refl _) hk
    have kw : ∀ i w, runR D (progA D) es (progA D).length = .unfit i w → Asc w := fun i w hk => run_word hk
    generalize runR D (progA D) es (progA D).length = o at hdue htold kf0 kw
    cases o with
    | unfit i wd =>
      obtain ⟨ad, rfl, hd⟩ := hdue
      obtain ⟨at_, rfl, ht⟩ := htold
      have hd8 := TT.of_sm s68 _ _ hd
      have hw := kw i wd rfl
      refine ⟨_, rfl, ad, _, 0, _, rfl, rfl, hd8, atI_nat (j := 0) rfl, rfl, _, rfl, ?_⟩
      rw [show decide (V.str "unfit" = V.str "fates") = false from by decide +kernel]
      refine iteT ⟨_, rfl, _, rfl, by show 1 ≤ sizeLine; decide, fun u1 n1 => ?_⟩
      refine ⟨ad, u1, _, _, rfl, rfl, TT.new n1 _ _ hd8, SqT.of upd_same, by show 4 ≤ sizeLine; decide, fun z => (nomatch z), fun _ z => (nomatch z), fun _ _ u2 n2 => ?_⟩
      have t2 := (TT.new (K := K) (o := .tup [.bl true]) n1).trans (TT.new (o := .tup ([.str "unfit", .int (i : Nat), .str wd] ++ [.bl true])) n2)
      have hs4 := shaped_unfit (i := i) hw
      refine ⟨.tuple [.str "unfit", .int (i : Int), .str wd, .bool true], .tuple [.str "unfit", .int (i : Int), .str wd, .bool true], .tup (t2 _ _ ht) (.cons (.str _) (.cons (.int _) (.cons (.str _) (.cons (.bl _) .nil)))), .tup (SqT.of upd_same) (.cons (.str _) (.cons (.int _) (.cons (.str _) (.cons (.bl _) .nil)))), hs4, hs4, ?_⟩
      rw [refl_of hs4]
      exact q _
    | apart i j =>
      obtain ⟨ad, rfl, hd⟩ := hdue
      obtain ⟨at_, rfl, ht⟩ := htold
      have hd8 := TT.of_sm s68 _ _ hd
      refine ⟨_, rfl, ad, _, 0, _, rfl, rfl, hd8, atI_nat (j := 0) rfl, rfl, _, rfl, ?_⟩
      rw [show decide (V.str "apart" = V.str "fates") = false from by decide +kernel]
      refine iteT ⟨_, rfl, _, rfl, by show 1 ≤ sizeLine; decide, fun u1 n1 => ?_⟩
      refine ⟨ad, u1, _, _, rfl, rfl, TT.new n1 _ _ hd8, SqT.of upd_same, by show 4 ≤ sizeLine; decide, fun z => (nomatch z), fun _ z => (nomatch z), fun _ _ u2 n2 => ?_⟩
      have t2 := (TT.new (K := K) (o := .tup [.bl true]) n1).trans (TT.new (o := .tup ([.str "apart", .int (i : Nat), .int (j : Nat)] ++ [.bl true])) n2)
      have hs4 := shaped_apart (i := i) (j := j)
      refine ⟨.tuple [.str "apart", .int (i : Int), .int (j : Int), .bool true], .tuple [.str "apart", .int (i : Int), .int (j : Int), .bool true], .tup (t2 _ _ ht) (.cons (.str _) (.cons (.int _) (.cons (.int _) (.cons (.bl _) .nil)))), .tup (SqT.of upd_same) (.cons (.str _) (.cons (.int _) (.cons (.int _) (.cons (.bl _) .nil)))), hs4, hs4, ?_⟩
      rw [refl_of hs4]
      exact q _
    | known kn =>
      obtain ⟨ad, kd, rfl, hd, ⟨kvs, hkv, hkp⟩, hok, hkl⟩ := hdue
      obtain ⟨at_, pt, L, rfl, ht, hL, hF⟩ := htold
      have kf := kf0 kn rfl
      have hd8 := TT.of_sm s68 _ _ hd
      refine ⟨_, rfl, ad, _, 0, _, rfl, rfl, hd8, atI_nat (j := 0) rfl, rfl, _, rfl, ?_⟩
      rw [show decide (V.str "fates" = V.str "fates") = true from by decide +kernel]
      refine iteF ⟨_, rfl, at_, _, 0, _, rfl, rfl, ht, atI_nat (j := 0) rfl, rfl, _, rfl, ?_⟩
      rw [show decide (V.str "fates" = V.str "fates") = true from by decide +kernel]
      obtain ⟨kv8, e8, p8⟩ := _root_.id hF
      refine iteT ⟨_, rfl, at_, _, 1, _, rfl, rfl, ht, atI_nat (j := 1) rfl, .ref pt, .ty "dict", .type "dict", .type "dict", true, rfl, .ty _, .base (.dK e8), kit_ty (by decide +kernel), _, rfl, ?_⟩
      refine iteT ⟨_, rfl, at_, _, 1, _, rfl, rfl, ht, atI_nat (j := 1) rfl, _, rfl, ad, _, 1, _, rfl, rfl, hd8, atI_nat (j := 1) rfl, kd, D, kn, rfl, ⟨kvs, s68.dk hkv, Pmap hkp fun _ _ z => ⟨z.1, z.2.mono (TT.of_sm s68)⟩⟩, kf.con, hkl, fun H9 fl s9 hFl => ?_⟩
      obtain ⟨kv9, e9, p9⟩ := hFl
      obtain ⟨kvt, et, pt9⟩ := hF.mono s9
      have hperm : (L.flatMap con).Perm ((lesOf kn).flatMap con) := hL.flatMap_right con
      refine ⟨pt, fl, kvt, kv9, rfl, rfl, et, e9, by rw [pt9.length, p9.length]; exact hperm.length_eq, fun x hx => ?_, q _⟩
      obtain ⟨y, hy, hk, hv⟩ := Pmem pt9 hx
      obtain ⟨u, hu, hue⟩ := fd_get p9 (con_nodup kf.con) (hperm.mem_iff.mp hy)
      have hya := con_asc kf.con (hperm.mem_iff.mp hy)
      exact ⟨u, edD y.2, edD y.2, by rw [hk]; exact hu, hv.dp, hue.dp, shaped_ed hya, shaped_ed hya, refl_of (shaped_ed hya)⟩
end
end K31
set_option maxHeartbeats 2000000
/-! H1: all defs together. -/
namespace K31
open PySem PySem.Spec PyProof.Rows L2
/-- what the head tells -/
structure Fx (P : Program) (K : PySem.W.Frag) (mg : Str → Option Value) (c : Addr) : Prop where
  isTouched : At K mg "is_touched" sTouched
  isNameSign : At K mg "is_name_sign" sSign
  isName : AtT K mg "is_name" sIsName c
  useOf : At K mg "use_of" sUseOf
  isCode : At K mg "is_code" sIsCode
  sections : At K mg "sections" sSections
  tableOf : At K mg "table_of" sTableOf
  closure : At K mg "closure" sClosure
  occurrences : At K mg "occurrences" sOcc
  firstLines : At K mg "first_lines" sFirstLines
  lengthsOf : At K mg "lengths_of" sLengths
  shown : At K mg "shown" sShown
  tangle : At K mg "tangle" sTangle
  indentOf : At K mg "indent_of" sIndentOf
  withoutIndent : At K mg "without_indent" sWi
  codeEdit : At K mg "code_edit" sCodeEdit
  plainChange : At K mg "plain_change" sPlain
  growth : At K mg "growth" sGrowth
  fatesOf : At K mg "fates_of" sFatesOf
  saidOf : At K mg "said_of" sSaid
  programFates : At K mg "program_fates" sPF
  lCell : At K mg "_law_cell" sCell
  lDraws : At K mg "_law_draws" sDraws
  lBig : At K mg "_law_big" sBig
  lText : At K mg "_law_text" sText
  lLine : At K mg "_law_line" sLine
  lDocument : At K mg "_law_document" sDocument
  lTable : At K mg "_law_table" sTable
  lWalk : At K mg "_law_walk" sWalk
  lLength : At K mg "_law_length" sLength
  lIsSmall : At K mg "_law_is_small" sIsSmall
  lPut : At K mg "_law_put" sPut
  lNewText : At K mg "_law_new_text" sNewText
  lFate : At K mg "_law_fate" sFate
  lEdit : At K mg "_law_edit" sEdit
  lIsFirst : At K mg "_law_is_first" sIsFirst
  lIndent : At K mg "_law_indent" sLIndent
  lBroken : At K mg "_law_broken" sBroken
  lEdits : At K mg "_law_edits" sLEdits
  lIsName : At K mg "_law_is_name" sLIsName
  lIsRef : At K mg "_law_is_reference" sLIsRef
  lFault : At K mg "_law_fault" sLFault
  lRest : At K mg "_law_rest" sLRest
  lTexts : At K mg "_law_texts" sLTexts
  lBack : At K mg "_law_back" sLBack
  lDue : At K mg "_law_due" sLDue
  lTold : At K mg "_law_told" sLTold
  lFates : At K mg "_law_fates" sLFates
  mLen : mg "len" = none
  mRange : mg "range" = none
  mTuple : mg "tuple" = none
  mList : mg "list" = none
  mDict : mg "dict" = none
  mSum : mg "sum" = none
  mMax : mg "max" = none
  mAll : mg "all" = none
  mSorted : mg "sorted" = none
  mReversed : mg "reversed" = none
  mEnumerate : mg "enumerate" = none
  mIsinstance : mg "isinstance" = none
  mSuper : mg "super" = none
  most : ∃ t, mg "MOST_LINES" = some (.int 2000 t)
  nameMost : ∃ t, mg "NAME_MOST" = some (.int 20 t)
  nameSigns : ∃ t, mg "NAME_SIGNS" = some (.str "-_." t)
  keep : ∃ aK, mg "KEEP" = some (.ref aK) ∧ ∀ H, SqT K H aK [.str "keep"]
  exc : ∃ CU CA CW ccU ccA fU fA : Addr, ∃ fdU fdA : FuncData, mg "Unfit" = some (.ref CU) ∧ mg "Apart" = some (.ref CA) ∧ mg "WeftError" = some (.ref CW) ∧ SupC K CU ccU ∧ SupC K CA ccA ∧
    PySem.W.findIn K (.ref CU) "__init__" = some (some (.ref fU)) ∧ PySem.W.findIn K (.ref CA) "__init__" = some (some (.ref fA)) ∧ PySem.W.typeIn K (.ref fU) = some (.type "function") ∧ PySem.W.typeIn K (.ref fA) = some (.type "function") ∧
    FunS P K "__init__" "Unfit.__init__" sUnfit fU ccU fdU ∧ FunS P K "__init__" "Apart.__init__" sApart fA ccA fdA ∧ Binds K fdU ["self", "at", "what"] [] ∧ Binds K fdA ["self", "at", "other"] [] ∧
    CaF K CU CW "at" "what" ∧ CaF K CA CW "at" "other" ∧ PySem.W.exmOne K (.ref CU) (.ref CU) = some true ∧ PySem.W.exmOne K (.ref CA) (.ref CU) = some false ∧ PySem.W.exmOne K (.ref CA) (.ref CA) = some true
theorem law_of {P : Program} {w : World} {K : PySem.W.Frag} {mg : Str → Option Value} {base : Heap} {c Pt f : Addr} {fd : FuncData} (x : Fx P K mg c) (F : Fun K "law" "law" sLaw f fd) (htop : (P.main.scope.names.lookup ("super" : Str)).isSome = false) (TB : GxR.TabB base mg c Pt) :
    FnOk P w K mg base CX0 10 f fd ["_law_script"] (spLaw K Pt) := by
  obtain ⟨tM, most⟩ := x.most
  obtain ⟨tN, nm⟩ := x.nameMost
  obtain ⟨tS, ns⟩ := x.nameSigns
  obtain ⟨aK, mK, hK⟩ := x.keep
  obtain ⟨CU, CA, CW, ccU, ccA, fU, fA, fdU, fdA, mU, mA, mW, sU, sA, iU, iA, tU, tA, FU, FA, bU, bA, caU, caA, x1, x2, x3⟩ := x.exc
  have eU : ExF P w K mg base "Unfit" "at" "what" CU := ⟨ccU, fU, fdU, sU, iU, tU, ok_unfit_init FU htop x.mSuper sU caU.na caU.nb, bU, mU⟩
  have eA : ExF P w K mg base "Apart" "at" "other" CA := ⟨ccA, fA, fdA, sA, iA, tA, ok_apart_init FA htop x.mSuper sA caA.na caA.nb, bA, mA⟩
  have cell := cal_cell (P := P) (w := w) (base := base) x.lCell x.mLen
  have draws := cal_draws (P := P) (w := w) (base := base) x.lDraws x.mRange
  have big := cal_big (P := P) (w := w) (base := base) x.lBig draws
  have text := cal_text (P := P) (w := w) (base := base) x.lText
  have newText := cal_newText (P := P) (w := w) (base := base) x.lNewText
  have put := cal_put (P := P) (w := w) (base := base) x.lPut
  have fate := cal_fate (P := P) (w := w) (base := base) x.lFate draws newText x.mRange x.mTuple
  have lInd := cal_lIndent (P := P) (w := w) (base := base) x.lIndent x.mSum
  have indOf := cal_indentOf (P := P) (w := w) (base := base) x.indentOf x.mSum
  have isFirst := cal_isFirst (P := P) (w := w) (base := base) x.lIsFirst
  have edit := cal_edit (P := P) (w := w) (base := base) x.lEdit put x.mTuple
  have broken := cal_broken (P := P) (w := w) (base := base) x.lBroken x.mMax
  have line := cal_line (P := P) (w := w) (base := base) x.lLine text
  have document := cal_document (P := P) (w := w) (base := base) x.lDocument cell draws line x.mRange x.mTuple
  have table := cal_table (P := P) (w := w) (base := base) x.lTable x.mRange x.mLen
  have walk := cal_walk (P := P) (w := w) (base := base) x.lWalk x.mTuple 5
  have length := cal_length (P := P) (w := w) (base := base) x.lLength 5
  have small := cal_small (P := P) (w := w) (base := base) x.lIsSmall walk length
  have sections := cal_sections (P := P) (w := w) (base := base) x.sections x.mEnumerate
  have firstLines := cal_firstLines (P := P) (w := w) (base := base) x.firstLines sections
  have tableOf := cal_tableOf (P := P) (w := w) (base := base) x.tableOf sections x.mRange x.mList
  have closure := cal_closure (P := P) (w := w) (base := base) x.closure tableOf x.mList
  have lengths := cal_lengths (P := P) (w := w) (base := base) x.lengthsOf tableOf x.mList x.mLen x.mSum
  have shown := cal_shown (P := P) (w := w) (base := base) x.shown
  have tangle := cal_tangle (P := P) (w := w) (base := base) x.tangle tableOf closure lengths shown most x.mReversed
  have isName := cal_isName (P := P) (w := w) x.isName TB x.isNameSign ns nm x.mAll x.mLen
  have useOf := cal_useOf (P := P) (w := w) x.useOf isName x.mLen
  have isCode := cal_isCode (P := P) (w := w) x.isCode useOf
  have lName := cal_lIsName (P := P) (w := w) (base := base) x.lIsName x.mLen
  have lRef := cal_lIsRef (P := P) (w := w) (base := base) x.lIsRef lName x.mLen
  have lFault := cal_lFault (P := P) (w := w) (base := base) x.lFault lRef
  have lRest := cal_lRest (P := P) (w := w) (base := base) x.lRest
  have lTexts := cal_lTexts (P := P) (w := w) (base := base) x.lTexts x.mList
  have lBack := cal_lBack (P := P) (w := w) (base := base) x.lBack lRest x.mTuple
  have lEdits := cal_lEdits (P := P) (w := w) (base := base) x.lEdits cell fate isFirst edit lInd big broken x.mLen
  have due := cal_lDue (P := P) (w := w) (base := base) x.lDue lInd isFirst lTexts lFault lBack x.mRange x.mLen
  have wi := cal_wi x.withoutIndent eU isCode
  have codeEdit := cal_codeEdit x.codeEdit wi x.mTuple
  have plain := cal_plain (P := P) (w := w) (base := base) x.plainChange mK hK
  have touched := cal_touched (P := P) (w := w) (base := base) x.isTouched mK hK
  have said := cal_said x.saidOf eU codeEdit indOf plain
  have occ := cal_occ (P := P) (w := w) (base := base) x.occurrences x.mEnumerate
  have growth := cal_growth (P := P) (w := w) (base := base) x.growth x.mLen
  have fatesOf := cal_fatesOf (P := P) (w := w) (base := base) x.fatesOf touched x.mSorted mK hK
  have lFates := cal_lFates (P := P) (w := w) (base := base) x.lFates x.mLen
  have pf := cal_pf x.programFates eA tangle firstLines said occ growth fatesOf x.mEnumerate x.mLen most
  have told := cal_told x.lTold pf mU mA mW x.mIsinstance caU caA x1 x2 x3
  exact ok_law F document cell table small tangle lEdits due told lFates x.mList x.mIsinstance x.mDict
end K31
set_option maxHeartbeats 2000000
/-! H2: the head's facts. -/
namespace K31
open PySem PySem.Spec PyProof.Rows L2
abbrev theP : Program := PySem.Challenge.rw_weft_k31_fates_of_program_edits.prog
def mkD (x : Str) (st : Stmt) : He.DefD := ⟨(x, none), x, x, defArgs st, defBody st, defScope st, [], []⟩
def fn0 : List He.DefD := [mkD "is_touched" sTouched, mkD "is_name_sign" sSign, mkD "is_name" sIsName, mkD "use_of" sUseOf, mkD "is_code" sIsCode, mkD "sections" sSections, mkD "table_of" sTableOf, mkD "closure" sClosure]
def fn1 : List He.DefD := [mkD "occurrences" sOcc, mkD "first_lines" sFirstLines, mkD "lengths_of" sLengths, mkD "shown" sShown, mkD "tangle" sTangle, mkD "indent_of" sIndentOf, mkD "without_indent" sWi, mkD "code_edit" sCodeEdit]
def fn2 : List He.DefD := [mkD "plain_change" sPlain, mkD "growth" sGrowth, mkD "fates_of" sFatesOf, mkD "said_of" sSaid, mkD "program_fates" sPF, mkD "_law_cell" sCell, mkD "_law_draws" sDraws, mkD "_law_big" sBig]
def fn3 : List He.DefD := [mkD "_law_text" sText, mkD "_law_line" sLine, mkD "_law_document" sDocument, mkD "_law_table" sTable, mkD "_law_walk" sWalk, mkD "_law_length" sLength, mkD "_law_is_small" sIsSmall, mkD "_law_put" sPut]
def fn4 : List He.DefD := [mkD "_law_new_text" sNewText, mkD "_law_fate" sFate, mkD "_law_edit" sEdit, mkD "_law_is_first" sIsFirst, mkD "_law_indent" sLIndent, mkD "_law_broken" sBroken, mkD "_law_edits" sLEdits, mkD "_law_is_name" sLIsName]
def fn5 : List He.DefD := [mkD "_law_is_reference" sLIsRef, mkD "_law_fault" sLFault, mkD "_law_rest" sLRest, mkD "_law_texts" sLTexts, mkD "_law_back" sLBack, mkD "_law_due" sLDue, mkD "_law_told" sLTold, mkD "_law_fates" sLFates]
def fn6 : List He.DefD := [mkD "law" sLaw]
def fnY : List He.DefD := fn0 ++ (fn1 ++ (fn2 ++ (fn3 ++ (fn4 ++ (fn5 ++ (fn6))))))
def fa0 : List He.Fa := [.glo "is_touched", .glo "is_name_sign", .glo "is_name", .glo "use_of", .glo "is_code", .glo "sections", .glo "table_of", .glo "closure"]
def fa1 : List He.Fa := [.glo "occurrences", .glo "first_lines", .glo "lengths_of", .glo "shown", .glo "tangle", .glo "indent_of", .glo "without_indent", .glo "code_edit"]
def fa2 : List He.Fa := [.glo "plain_change", .glo "growth", .glo "fates_of", .glo "said_of", .glo "program_fates", .glo "_law_cell", .glo "_law_draws", .glo "_law_big"]
def fa3 : List He.Fa := [.glo "_law_text", .glo "_law_line", .glo "_law_document", .glo "_law_table", .glo "_law_walk", .glo "_law_length", .glo "_law_is_small", .glo "_law_put"]
def fa4 : List He.Fa := [.glo "_law_new_text", .glo "_law_fate", .glo "_law_edit", .glo "_law_is_first", .glo "_law_indent", .glo "_law_broken", .glo "_law_edits", .glo "_law_is_name"]
def fa5 : List He.Fa := [.glo "_law_is_reference", .glo "_law_fault", .glo "_law_rest", .glo "_law_texts", .glo "_law_back", .glo "_law_due", .glo "_law_told", .glo "_law_fates"]
def fa6 : List He.Fa := [.glo "law", .glo "Unfit", .glo "Apart", .glo "WeftError", .glo "KEEP", .free "len", .free "range", .free "tuple"]
def fa7 : List He.Fa := [.free "list", .free "dict", .free "sum", .free "max", .free "all", .free "sorted", .free "reversed", .free "enumerate"]
def fa8 : List He.Fa := [.free "isinstance", .free "super", .int "MOST_LINES" 2000, .int "NAME_MOST" 20, .str "NAME_SIGNS" "-_.", .exm "Unfit" "Unfit" true, .exm "Apart" "Unfit" false, .exm "Apart" "Apart" true]
def faY : List He.Fa := fa0 ++ (fa1 ++ (fa2 ++ (fa3 ++ (fa4 ++ (fa5 ++ (fa6 ++ (fa7 ++ (fa8))))))))
def tfY : List He.Defn := [("is_name", none)]
/-! ### an exception class, looked at -/
def oexB (K : PySem.W.Frag) (C : Addr) : Bool := match K.lookup C with
  | some ⟨.type "type", _, .cls cd, sl⟩ => (match cd.mro, sl.toList with
    | .ref C' :: bm, [_, _, _, _, some (.builtin n), _] => decide (C' = C) && (decide (n = "ValueError.__new__") && (!cd.hasDel && (cd.hasDict && PySem.HandSPX.refsVE bm)))
    | _, _ => false)
  | _ => false
theorem oexB_ok {K : PySem.W.Frag} {C : Addr} (q : oexB K C = true) : ∃ nm qn N bs bm sn sub ab col dd k0 k1 k2 k3 k5, K.lookup C = some (excClassObj nm qn C N bs bm true sn sub ab col dd k0 k1 k2 k3 k5 "ValueError.__new__") ∧ PySem.HandSPX.refsVE bm = true := by
  unfold oexB at q
  split at q
  · rename_i dd cd sl ho
    split at q
    · rename_i C' bm k0 k1 k2 k3 n k5 hm hs
      simp only [Bool.and_eq_true, decide_eq_true_eq, Bool.not_eq_true'] at q
      obtain ⟨rfl, rfl, hdel, hdict, hve⟩ := q
      obtain ⟨nm, bs, mro, ns, qn, hd, sn, sub, ab, col, del⟩ := cd
      dsimp only at hm hdel hdict
      subst hm hdel hdict
      have hsl : sl = #[k0, k1, k2, k3, some (.builtin "ValueError.__new__"), k5] := by
        obtain ⟨l⟩ := sl
        dsimp only at hs
        rw [hs]
      subst hsl
      exact ⟨nm, qn, ns, bs, bm, sn, sub, ab, col, dd, k0, k1, k2, k3, k5, ho, hve⟩
    · cases q
  · cases q
def cellB (K : PySem.W.Frag) (C cc : Addr) : Bool := match K.lookup cc with
  | some ⟨_, _, .cell (some (.ref C')), _⟩ => decide (C' = C)
  | _ => false
theorem cellB_ok {K : PySem.W.Frag} {C cc : Addr} (q : cellB K C cc = true) : ∃ cl cld csl, K.lookup cc = some ⟨cl, cld, .cell (some (.ref C)), csl⟩ := by
  unfold cellB at q
  split at q
  · rename_i a b C' d h
    have := of_decide_eq_true q
    subst this
    exact ⟨_, _, _, h⟩
  · cases q
def fileB (K : PySem.W.Frag) (cda : Addr) : Bool := match K.lookup cda with
  | some ⟨_, _, .fields vs, _⟩ => (match (vs[2]? : Option Value) with
    | some (Value.str file _) => theP.main.file == file
    | _ => false)
  | _ => false
theorem fileB_ok {K : PySem.W.Frag} {cda : Addr} (q : fileB K cda = true) : ∃ ccl cdd vs5 ccs file tf, K.lookup cda = some ⟨ccl, cdd, .fields vs5, ccs⟩ ∧ vs5[2]? = some (.str file tf) ∧ ((theP.main.file : Str) == file) = true := by
  unfold fileB at q
  split at q
  · rename_i a b vs d h
    split at q
    · rename_i file tf h2
      exact ⟨_, _, _, _, _, _, h, h2, q⟩
    · cases q
  · cases q
/-- the cell of a def that closes over __class__ -/
def ccOf (K : PySem.W.Frag) (fI : Addr) : Addr := match K.lookup fI with
  | some ⟨_, _, .func fd, _⟩ => (match fd.closure with
    | [(_, cc)] => cc
    | _ => 0)
  | _ => 0
def initB (K : PySem.W.Frag) (C fI : Addr) (qual : Str) : Bool := match K.lookup fI with
  | some ⟨_, _, .func fd, _⟩ => (match fd.closure, fd.code, fd.defaults with
    | [(x, cc)], .ref cda, .none => decide (x = "__class__") && (PySem.W.codeIn K (.ref cda) qual && (fileB K cda && cellB K C cc))
    | _, _, _ => false)
  | _ => false
abbrev FnSV : Type := Option (Str × Str × Arguments × FuncBody × Scope × Addr × Addr)
def fnS (K : PySem.W.Frag) (fI : Addr) : FnSV := match K.lookup fI with
  | some ⟨_, _, .func fd, _⟩ => some (fd.name, fd.qualname, fd.params, fd.body, fd.scope, fd.globals, fd.builtins)
  | _ => none
def valS (x qual : Str) (st : Stmt) : FnSV := some (x, qual, defArgs st, .stmts (defBody st), defScope st, mainGlobals, builtinsNs)
theorem init_ok {K : PySem.W.Frag} {C fI : Addr} {x qual : Str} {st : Stmt} (q : initB K C fI qual = true) (e : fnS K fI = valS x qual st) : ∃ (fd : FuncData), FunS theP K x qual st fI (ccOf K fI) fd ∧ (∃ cl cld csl, K.lookup (ccOf K fI) = some ⟨cl, cld, .cell (some (.ref C)), csl⟩) ∧
    ∃ (kV doc pm : Value) (an : Option Addr) (cda : Addr) (ct : Value), fd = PySem.W.ksFn x qual (defArgs st) (defBody st) (defScope st) .none kV doc pm an (.ref cda) ct (ccOf K fI) := by
  unfold initB at q
  split at q
  · rename_i oc od fd osl h
    split at q
    · rename_i y cc cda h1 h2 h3
      simp only [Bool.and_eq_true, decide_eq_true_eq] at q
      obtain ⟨rfl, q1, q2, q3⟩ := q
      have ecc : ccOf K fI = cc := by
        unfold ccOf
        rw [h]
        show (match fd.closure with | [(_, cc)] => cc | _ => 0) = cc
        rw [h1]
      obtain ⟨ccl, cdd, vs5, ccs, file, tf, g1, g2, g3⟩ := fileB_ok q2
      unfold fnS at e
      rw [h] at e
      obtain ⟨n1, n2, n3, n4, n5, n6, n7, n8, n9, n10, n11, n12, n13, n14, n15⟩ := fd
      dsimp only at h1 h2 h3
      subst h1 h2 h3
      have e2 : (some (n1, n2, n3, n4, n5, n6, n15) : FnSV) = some (x, qual, defArgs st, .stmts (defBody st), defScope st, mainGlobals, builtinsNs) := e
      simp only [Option.some.injEq, Prod.mk.injEq] at e2
      obtain ⟨rfl, rfl, rfl, rfl, rfl, rfl, rfl⟩ := e2
      rw [ecc]
      exact ⟨_, ⟨oc, od, n9, n10, n11, n12, cda, n14, osl, ccl, cdd, vs5, ccs, file, tf, rfl, h, q1, g1, g2, g3⟩, cellB_ok q3, n9, n10, n11, n12, cda, n14, rfl⟩
    · cases q
  · cases q
def isaB (K : PySem.W.Frag) (C : Addr) : Bool := (PySem.W.clsIn K C).isSome && (He.eqO (PySem.W.specialIn K (.builtin "object.__class__") "__get__") (some (some (.builtin "getset_descriptor.__get__"))) && (He.eqO (PySem.W.findIn K (.ref C) "__class__") (some (some (.builtin "object.__class__"))) &&
  (decide (PySem.W.takesIn K (.builtin "object.__class__") = some true) && decide (PySem.W.mroIn K C (.type "object") = some true))))
def supB (K : PySem.W.Frag) (C : Addr) : Bool := oexB K C && (He.eqO (PySem.W.nsIn K cStatics "thirdparty.any") (some none) && (decide (PySem.W.mroIn K C (.ref C) = some true) && (He.eqO (PySem.W.ks_superIn K C C "__init__") (some (some (.builtin "ValueError.__init__"))) &&
  (decide (PySem.W.subIn K (.ref C) (.type "ValueError") = some true) && (He.eqO (PySem.W.findIn K (.ref C) "__setattr__") (some (some (.builtin "object.__setattr__"))) && (decide (PySem.W.typeIn K (.ref C) = some (.type "type")) && PySem.W.keepIn K (.ref C)))))))
def clB (K : PySem.W.Frag) (C fI W : Addr) (fa fb : Str) : Bool := He.eqO (PySem.W.findIn K (.ref C) "__init__") (some (some (.ref fI))) && (decide (PySem.W.typeIn K (.ref fI) = some (.type "function")) && (He.eqO (PySem.W.findIn K (.ref C) fa) (some none) && (He.eqO (PySem.W.findIn K (.ref C) fb) (some none) &&
  decide (PySem.W.kitOne K (.ref C) (.ref W) = some true))))
def inOf (K : PySem.W.Frag) (x : Str) : Addr := He.ma K (He.ga K x) "__init__"
def excB (K : PySem.W.Frag) (x qual fa fb : Str) : Bool := supB K (He.ga K x) && (xfB K (He.ga K x) && (isaB K (He.ga K x) && (clB K (He.ga K x) (inOf K x) (He.ga K "WeftError") fa fb && initB K (He.ga K x) (inOf K x) qual)))
def exY (K : PySem.W.Frag) : Bool := excB K "Unfit" "Unfit.__init__" "at" "what" && (excB K "Apart" "Apart.__init__" "at" "other" && He.tupB K "KEEP" [.str "keep"])
theorem excB_ok {K : PySem.W.Frag} {x qual fa fb : Str} {st : Stmt} (q : excB K x qual fa fb = true) (e : fnS K (inOf K x) = valS "__init__" qual st) : SupC K (He.ga K x) (ccOf K (inOf K x)) ∧ CaF K (He.ga K x) (He.ga K "WeftError") fa fb ∧ PySem.W.findIn K (.ref (He.ga K x)) "__init__" = some (some (.ref (inOf K x))) ∧
    PySem.W.typeIn K (.ref (inOf K x)) = some (.type "function") ∧ ∃ fd, FunS theP K "__init__" qual st (inOf K x) (ccOf K (inOf K x)) fd ∧ ∃ (kV doc pm : Value) (an : Option Addr) (cda : Addr) (ct : Value), fd = PySem.W.ksFn "__init__" qual (defArgs st) (defBody st) (defScope st) .none kV doc pm an (.ref cda) ct (ccOf K (inOf K x)) := by
  obtain ⟨q1, q⟩ := He.ba q
  obtain ⟨q2, q⟩ := He.ba q
  obtain ⟨q3, q⟩ := He.ba q
  obtain ⟨q4, q5⟩ := He.ba q
  obtain ⟨fd, hF, hc, hk⟩ := init_ok q5 e
  have xf := xfB_ok q2
  obtain ⟨s1, q1⟩ := He.ba q1
  obtain ⟨s2, q1⟩ := He.ba q1
  obtain ⟨s3, q1⟩ := He.ba q1
  obtain ⟨s4, q1⟩ := He.ba q1
  obtain ⟨s5, q1⟩ := He.ba q1
  obtain ⟨s6, q1⟩ := He.ba q1
  obtain ⟨s7, s8⟩ := He.ba q1
  obtain ⟨i1, q3⟩ := He.ba q3
  obtain ⟨i2, q3⟩ := He.ba q3
  obtain ⟨i3, q3⟩ := He.ba q3
  obtain ⟨i4, i5⟩ := He.ba q3
  obtain ⟨c1, q4⟩ := He.ba q4
  obtain ⟨c2, q4⟩ := He.ba q4
  obtain ⟨c3, q4⟩ := He.ba q4
  obtain ⟨c4, c5⟩ := He.ba q4
  exact ⟨⟨⟨oexB_ok s1, He.eqO_ok s6, xf.exC, of_decide_eq_true s7, s8⟩, He.eqO_ok s2, hc, of_decide_eq_true s3, He.eqO_ok s4, of_decide_eq_true s5⟩,
    ⟨xf, He.eqO_ok c3, He.eqO_ok c4, ⟨i1, xf.ga, xf.gg, xf.exC, He.eqO_ok i3, He.eqO_ok i2, of_decide_eq_true i4, of_decide_eq_true i5⟩, of_decide_eq_true c5⟩, He.eqO_ok c1, of_decide_eq_true c2, fd, hF, hk⟩
/-! ### the Hook -/
def asY (g : Addr → Option Obj) (n : Nat) : List Addr := He.asD g n ++ [cStatics]
def kY (n : Nat) (g : Addr → Option Obj) : PySem.W.Frag := He.frT g (asY g n)
abbrev AlY : Type := (He.AlD × Bool) × (FnSV × FnSV)
def obsK (g : Addr → Option Obj) (K : PySem.W.Frag) : AlY := ((He.obsD faY fnY K, exY K && He.tabsB g tfY K), (fnS K (inOf K "Unfit"), fnS K (inOf K "Apart")))
def obsY (n : Nat) (g : Addr → Option Obj) : AlY := obsK g (kY n g)
def valY : AlY := ((He.valD fnY, true), (valS "__init__" "Unfit.__init__" sUnfit, valS "__init__" "Apart.__init__" sApart))
structure SaysY (h : Heap) (K : PySem.W.Frag) : Prop where
  d : He.SaysD faY fnY K
  ex : exY K = true
  hd : PySem.W.codeHdIn K (He.cT K ("is_name", none)).1 (He.cT K ("is_name", none)).2 = true
  out : K.lookup (He.cT K ("is_name", none)).2 = none
  empty : h.get? (He.cT K ("is_name", none)).2 = some { cls := .none, data := .fields #[] }
  s1 : fnS K (inOf K "Unfit") = valS "__init__" "Unfit.__init__" sUnfit
  s2 : fnS K (inOf K "Apart") = valS "__init__" "Apart.__init__" sApart
theorem saysY_of {n : Nat} {h : Heap} (e : obsY n h.get? = valY) : SaysY h (kY n h.get?) := by
  have e1 : He.obsD faY fnY (kY n h.get?) = He.valD fnY := congrArg (fun z : AlY => z.1.1) e
  have e2 : (exY (kY n h.get?) && He.tabsB h.get? tfY (kY n h.get?)) = true := congrArg (fun z : AlY => z.1.2) e
  have e3 : fnS (kY n h.get?) (inOf (kY n h.get?) "Unfit") = valS "__init__" "Unfit.__init__" sUnfit := congrArg (fun z : AlY => z.2.1) e
  have e4 : fnS (kY n h.get?) (inOf (kY n h.get?) "Apart") = valS "__init__" "Apart.__init__" sApart := congrArg (fun z : AlY => z.2.2) e
  obtain ⟨h1, h2⟩ := He.ba e2
  obtain ⟨h3, h4⟩ := He.ba (List.all_eq_true.mp h2 ("is_name", none) List.mem_cons_self)
  cases q : h.get? (He.cT (kY n h.get?) ("is_name", none)).2 with
  | none => rw [q] at h4; cases h4
  | some o =>
    rw [q] at h4
    have ht : He.emptyTab o = true := h4
    exact ⟨e1, h1, h3, He.frT_none q ht, by rw [q, He.emptyTab_eq ht], e3, e4⟩
def hookY (n : Nat) : PySem.W.Hook where
  α := AlY
  obs := fun s => obsY n s.heap.get?
  val := fun _ => valY
  says := fun _ h => ∃ K : PySem.W.Frag, K.In h ∧ SaysY h K
  of := fun _ _ e => ⟨_, He.frT_in, saysY_of e⟩
  keeps := fun _ _ _ ⟨K, hK, c⟩ k => ⟨K, PySem.W.Frag.In.keeps hK k, ⟨c.d, c.ex, c.hd, c.out, k _ _ c.empty, c.s1, c.s2⟩⟩
theorem obsY_eq {n : Nat} {g : Addr → Option Obj} {s : Shared} (h : ∀ a, g a = s.heap.get? a) : obsY n g = (hookY n).obs s := by
  have e : g = s.heap.get? := funext h
  rw [e]
  rfl
/-! ### what it tells -/
theorem funOf {K : PySem.W.Frag} {x : Str} {st : Stmt} {f : Addr} {fd : FuncData} (F : FunD K x x (defArgs st) (defBody st) (defScope st) [] [] f fd) : Fun K x x st f fd := by
  obtain ⟨oc, od, dV, kV, doc, pm, an, cdv, ct, osl, e, l, c, hd, _⟩ := F.ex
  rcases hd with ⟨_, e2⟩ | ⟨e2, _⟩
  · subst e2
    exact ⟨⟨oc, od, kV, doc, pm, an, cdv, ct, osl, e, l, c⟩, F.kp⟩
  · exact absurd rfl e2
section
variable {K : PySem.W.Frag} {h : Heap} {mg : Str → Option Value}
theorem atY (X : K.In h) (G : h.Ns mainGlobals mg) (c : He.SaysD faY fnY K) {x : Str} {st : Stmt} (i j : Nat) (hi : fnY[i]? = some (mkD x st)) (hj : faY[j]? = some (.glo x)) : At K mg x st := by
  obtain ⟨fd, F⟩ := c.def_ i hi
  exact ⟨_, fd, funOf F, He.glo_ok X G (c.fact j hj)⟩
theorem atTY (X : K.In h) (G : h.Ns mainGlobals mg) (c : He.SaysD faY fnY K) {x : Str} {st : Stmt} (i j : Nat) (hi : fnY[i]? = some (mkD x st)) (hj : faY[j]? = some (.glo x)) : AtT K mg x st (He.cT K (x, none)).1 := by
  obtain ⟨fd, F⟩ := c.def_ i hi
  have F1 := funOf F
  obtain ⟨oc, od, kV, doc, pm, an, cdv, ct, osl, e, lk, hcd⟩ := F1.ex
  obtain ⟨c1, rfl⟩ := He.codeIn_ref hcd
  have ec : He.codeOf K (x, none) = c1 := He.codeOf_eq lk (by rw [e])
  subst ec
  exact ⟨_, fd, oc, od, kV, doc, pm, an, ct, osl, e, lk, hcd, F1.kp, He.glo_ok X G (c.fact j hj)⟩
theorem bind3 {x qual : Str} {st : Stmt} {ps : List Str} {cc : Addr} {fd : FuncData} (h : ∃ (kV doc pm : Value) (an : Option Addr) (cda : Addr) (ct : Value), fd = PySem.W.ksFn x qual (defArgs st) (defBody st) (defScope st) .none kV doc pm an (.ref cda) ct cc)
    (hb : ∀ (kV doc pm : Value) (an : Option Addr) (cda : Addr) (ct : Value) (us : List Value), us.length = ps.length → bindArgs (PySem.W.ksFn x qual (defArgs st) (defBody st) (defScope st) .none kV doc pm an (.ref cda) ct cc) ⟨us, []⟩ = pure (ps.zip us)) : Binds K fd ps [] := by
  obtain ⟨kV, doc, pm, an, cda, ct, rfl⟩ := h
  exact .all (hb kV doc pm an cda ct)
theorem fxY (X : K.In h) (G : h.Ns mainGlobals mg) (c : SaysY h K) : Fx theP K mg (He.cT K ("is_name", none)).1 := by
  have d := c.d
  obtain ⟨x1, x2⟩ := He.ba c.ex
  obtain ⟨x2, x3⟩ := He.ba x2
  obtain ⟨a1, a2, a3, a4, fdU, a5, a6⟩ := excB_ok x1 c.s1
  obtain ⟨b1, b2, b3, b4, fdA, b5, b6⟩ := excB_ok x2 c.s2
  exact {
    isTouched := atY X G d 0 0 rfl rfl
    isNameSign := atY X G d 1 1 rfl rfl
    isName := atTY X G d 2 2 rfl rfl
    useOf := atY X G d 3 3 rfl rfl
    isCode := atY X G d 4 4 rfl rfl
    sections := atY X G d 5 5 rfl rfl
    tableOf := atY X G d 6 6 rfl rfl
    closure := atY X G d 7 7 rfl rfl
    occurrences := atY X G d 8 8 rfl rfl
    firstLines := atY X G d 9 9 rfl rfl
    lengthsOf := atY X G d 10 10 rfl rfl
    shown := atY X G d 11 11 rfl rfl
    tangle := atY X G d 12 12 rfl rfl
    indentOf := atY X G d 13 13 rfl rfl
    withoutIndent := atY X G d 14 14 rfl rfl
    codeEdit := atY X G d 15 15 rfl rfl
    plainChange := atY X G d 16 16 rfl rfl
    growth := atY X G d 17 17 rfl rfl
    fatesOf := atY X G d 18 18 rfl rfl
    saidOf := atY X G d 19 19 rfl rfl
    programFates := atY X G d 20 20 rfl rfl
    lCell := atY X G d 21 21 rfl rfl
    lDraws := atY X G d 22 22 rfl rfl
    lBig := atY X G d 23 23 rfl rfl
    lText := atY X G d 24 24 rfl rfl
    lLine := atY X G d 25 25 rfl rfl
    lDocument := atY X G d 26 26 rfl rfl
    lTable := atY X G d 27 27 rfl rfl
    lWalk := atY X G d 28 28 rfl rfl
    lLength := atY X G d 29 29 rfl rfl
    lIsSmall := atY X G d 30 30 rfl rfl
    lPut := atY X G d 31 31 rfl rfl
    lNewText := atY X G d 32 32 rfl rfl
    lFate := atY X G d 33 33 rfl rfl
    lEdit := atY X G d 34 34 rfl rfl
    lIsFirst := atY X G d 35 35 rfl rfl
    lIndent := atY X G d 36 36 rfl rfl
    lBroken := atY X G d 37 37 rfl rfl
    lEdits := atY X G d 38 38 rfl rfl
    lIsName := atY X G d 39 39 rfl rfl
    lIsRef := atY X G d 40 40 rfl rfl
    lFault := atY X G d 41 41 rfl rfl
    lRest := atY X G d 42 42 rfl rfl
    lTexts := atY X G d 43 43 rfl rfl
    lBack := atY X G d 44 44 rfl rfl
    lDue := atY X G d 45 45 rfl rfl
    lTold := atY X G d 46 46 rfl rfl
    lFates := atY X G d 47 47 rfl rfl
    mLen := He.free_ok X G (d.fact 53 rfl)
    mRange := He.free_ok X G (d.fact 54 rfl)
    mTuple := He.free_ok X G (d.fact 55 rfl)
    mList := He.free_ok X G (d.fact 56 rfl)
    mDict := He.free_ok X G (d.fact 57 rfl)
    mSum := He.free_ok X G (d.fact 58 rfl)
    mMax := He.free_ok X G (d.fact 59 rfl)
    mAll := He.free_ok X G (d.fact 60 rfl)
    mSorted := He.free_ok X G (d.fact 61 rfl)
    mReversed := He.free_ok X G (d.fact 62 rfl)
    mEnumerate := He.free_ok X G (d.fact 63 rfl)
    mIsinstance := He.free_ok X G (d.fact 64 rfl)
    mSuper := He.free_ok X G (d.fact 65 rfl)
    most := He.int_ok X G (d.fact 66 rfl)
    nameMost := He.int_ok X G (d.fact 67 rfl)
    nameSigns := He.str_ok X G (d.fact 68 rfl)
    keep := ⟨He.ga K "KEEP", He.glo_ok X G (d.fact 52 rfl), fun H => He.tupB_ok x3 H⟩
    exc := ⟨He.ga K "Unfit", He.ga K "Apart", He.ga K "WeftError", ccOf K (inOf K "Unfit"), ccOf K (inOf K "Apart"), inOf K "Unfit", inOf K "Apart", fdU, fdA, He.glo_ok X G (d.fact 49 rfl), He.glo_ok X G (d.fact 50 rfl), He.glo_ok X G (d.fact 51 rfl), a1, b1, a3, b3, a4, b4, a5, b5,
      bind3 a6 (fun _ _ _ _ _ _ us hl => match us, hl with | [_, _, _], _ => rfl), bind3 b6 (fun _ _ _ _ _ _ us hl => match us, hl with | [_, _, _], _ => rfl), a2, b2, He.exm_ok (d.fact 69 rfl), He.exm_ok (d.fact 70 rfl), He.exm_ok (d.fact 71 rfl)⟩ }
theorem lawY (X : K.In h) (G : h.Ns mainGlobals mg) (c : SaysY h K) : ∃ f fd, Fun K "law" "law" sLaw f fd ∧ mg "law" = some (.ref f) := (atY X G c.d 48 48 rfl rfl : At K mg "law" sLaw).ex
end
end K31
set_option maxHeartbeats 0
/-! H3: the head's run. -/
namespace K31
open PySem PySem.W PySem.Calls PyProof.Rows
abbrev theR : OpenRow := OpenLaw.row PySem.Challenge.rw_weft_k31_fates_of_program_edits
abbrev theQ : Program := view theR.prog [68]
def nm0 : List PySem.Str := [PySem.Str.ofString "WeftError", PySem.Str.ofString "NoPiece", PySem.Str.ofString "Missing", PySem.Str.ofString "Ring", PySem.Str.ofString "TooLong", PySem.Str.ofString "Unfit", PySem.Str.ofString "Apart", PySem.Str.ofString "KEEP", PySem.Str.ofString "is_touched", PySem.Str.ofString "NAME_MOST"]
def nm1 : List PySem.Str := [PySem.Str.ofString "NAME_SIGNS", PySem.Str.ofString "is_name_sign", PySem.Str.ofString "is_name", PySem.Str.ofString "use_of", PySem.Str.ofString "is_code", PySem.Str.ofString "sections", PySem.Str.ofString "table_of", PySem.Str.ofString "ring_from", PySem.Str.ofString "closure", PySem.Str.ofString "occurrences"]
def nm2 : List PySem.Str := [PySem.Str.ofString "first_lines", PySem.Str.ofString "MOST_LINES", PySem.Str.ofString "lengths_of", PySem.Str.ofString "shown", PySem.Str.ofString "tangle", PySem.Str.ofString "indent_of", PySem.Str.ofString "without_indent", PySem.Str.ofString "code_edit", PySem.Str.ofString "plain_change", PySem.Str.ofString "growth"]
def nm3 : List PySem.Str := [PySem.Str.ofString "fates_of", PySem.Str.ofString "said_of", PySem.Str.ofString "program_fates", PySem.Str.ofString "_law_cell", PySem.Str.ofString "_law_draws", PySem.Str.ofString "_law_big", PySem.Str.ofString "_law_text", PySem.Str.ofString "_law_line", PySem.Str.ofString "_law_document", PySem.Str.ofString "_law_table"]
def nm4 : List PySem.Str := [PySem.Str.ofString "_law_walk", PySem.Str.ofString "_law_length", PySem.Str.ofString "_law_is_small", PySem.Str.ofString "_law_put", PySem.Str.ofString "_law_new_text", PySem.Str.ofString "_law_fate", PySem.Str.ofString "_law_edit", PySem.Str.ofString "_law_is_first", PySem.Str.ofString "_law_indent", PySem.Str.ofString "_law_broken"]
def nm5 : List PySem.Str := [PySem.Str.ofString "_law_edits", PySem.Str.ofString "_law_is_name", PySem.Str.ofString "_law_is_reference", PySem.Str.ofString "_law_fault", PySem.Str.ofString "_law_rest", PySem.Str.ofString "_law_texts", PySem.Str.ofString "_law_back", PySem.Str.ofString "_law_due", PySem.Str.ofString "_law_told", PySem.Str.ofString "_law_fates"]
def names : List PySem.Str := nm0 ++ nm1 ++ nm2 ++ nm3 ++ nm4 ++ nm5


def obT (s : SharedT) : AlY := obsY 6 (HandSHeadRun.getT s)
theorem obT_eq (s : SharedT) : obT s = (hookY 6).obs s.abs := obsY_eq (HandSHeadRun.getT_eq s)
theorem run (w : World) : HandSHeadRun.RunEq theR theQ (hookY 6) obT 4000 names w := by
  intro os
  kernel_rfl
end K31
set_option maxHeartbeats 2000000
/-! H4: the end. -/
namespace K31
open PySem PySem.Spec PyProof.Rows L2
theorem lawAt {w : World} {K : PySem.W.Frag} {h : Heap} {mg : Str → Option Value} {fa : Addr} (X : K.In h) (G : h.Ns mainGlobals mg) (c : SaysY h K) (hm : mg "law" = some (.ref fa)) :
    LamX.LawAtS PySem.Challenge.rw_weft_k31_fates_of_program_edits w K CX0 10 63 "_law_script" mg fa h := by
  obtain ⟨f, fd, F, m⟩ := lawY X G c
  rw [hm] at m
  cases m
  have hb : ∀ (s : Shared) (u : Value), BindsTo s fd ⟨[u], []⟩ [("_law_script", u)] := by
    obtain ⟨oc, od, kV, doc, pm, an, cdv, ct, osl, e, _⟩ := F.ex
    subst e
    exact fun s u => .of_eq rfl
  refine ⟨fd, [He.cT K ("is_name", none)], spLaw K (He.cT K ("is_name", none)).2, fun p hp => ?_, fun p hp => ?_, fun p hp => ?_, hb, fun H a ns hl hbits hH hS => ?_, fun base KB GB TB => ?_⟩
  · rw [List.mem_singleton.mp hp]; exact c.empty
  · rw [List.mem_singleton.mp hp]; exact c.out
  · rw [List.mem_singleton.mp hp]; exact PySem.W.codeHd_of_K X c.hd
  · exact ⟨a, ns, rfl, hS, ⟨#[], hH _ List.mem_cons_self, trivial⟩, fun _ => rfl⟩
  · have t := TB _ List.mem_cons_self
    exact law_of (fxY X G c) F (by decide +kernel) ⟨t.code, t.bm, t.gP⟩
end K31
open PySem PySem.W PySem.Calls PyProof.Rows
set_option maxHeartbeats 0 in
theorem PySem.Challenge.cw_weft_k31_fates_of_program_edits_holds : PySem.Challenge.rw_weft_k31_fates_of_program_edits.Holds := by
  w_on; o_law
  refine HandSHeadRun.head_any (r := K31.theR) (q := K31.theQ) (H := K31.hookY 6) (ob := K31.obT) (M := 4000) (loose := K31.names) (d := HandSHeadRun.topDef K31.theR.prog 68) (kwd := []) K31.obT_eq
    (by kernel_rfl) (fun s => by kernel_rfl) K31.run (by kernel_rfl) (by kernel_rfl) (by kernel_rfl) (by rfl) (by first | assumption | decide +kernel) (by decide +kernel) ⟨rfl, rfl, rfl, rfl, rfl, by decide +kernel⟩ ?hw ?hc
  case hw => w_witness2
  case hc =>
    refine LamX.walk_ofTsE (l := PySem.Challenge.rw_weft_k31_fates_of_program_edits) (n := 63) (k := 10) (x := "_law_script") (CX := fun _ => L2.CX0) rfl (by decide) (by kernel_rfl) ⟨rfl, by decide, by decide⟩ ?F (fun _ _ _ _ _ z => z)
    case F =>
      intro w mg fa h Y G hmg0
      obtain ⟨K, KX, c⟩ := Y
      have hmg : mg ("law" : PySem.Str) = some (.ref fa) := by
        have e : (HandSHeadRun.topDef K31.theR.prog 68).name = ("law" : PySem.Str) := by kernel_rfl
        rw [← e]
        exact hmg0
      exact ⟨K, KX, K31.lawAt KX G c hmg⟩
