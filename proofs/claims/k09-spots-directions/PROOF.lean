import PyProof.Rows.All
import Wide.All
import OpenK.AllK
import Wide.FinOn
import HandS.ForSpec
import HandS.ForMost
import HandS.ExcInit
import KE.KExcSuper
import KE.KSuper
import HandS.ExcSuper
import HandS.Wide
import HandS.CallSlots
import HandS.Defaults
import HandS.IsInst
import HandS.TryOnly
import HandS.Flow
import HandS.Gcd
import HandS.TupAny
import HandS.Deep
import HandS.Style
import KE.KStateDown
import HandS.Head0
import HandS.Head1
import HandS.Head2
import HandS.Head3
import HandS.HeadEnd
import HandS.HeadHook1
import HandS.HeadHook2
import HandS.Walk
import HandS.ExcField
import HandS.Text
import HandS.StrMore
import HandS.FStr
import HandS.Iter
import PyProof.InstNe
import HandS.SetBool
import HandS.Strs
import KE.GoesMore
import KE.GoesEnum
import HandS.TupMul
import HandS.Conv
import HandS.Dict
import KE.GoesZip
import HandS.SortInts
import HandS.TryMany
import HandS.TupLe
import HandS.CallLocal
import HandS.Property
import HandS.ExcIs
import KE.KExcIs
import HandS.ExcBuiltin
import PySem.Challenge.RW_stillarms_k09_spots_and_directions_let_a
set_option Elab.async false
set_option linter.all false
set_option maxRecDepth 100000
set_option maxHeartbeats 4000000
namespace FdX
open PySem PySem.Spec PyProof.Rows L2
/-- the context of an __init__ that says super().__init__ -/
def cxS (CX : CXT) (P : Program) (w : World) (K : PySem.W.Frag) (mg : Str → Option Value) (base : Heap) (N : List Str) (fd : FuncData) (f : Addr) (A : Around) (outer : List Env) (s : Shared) (H : Hp) (E : XK) : Cx where
  prog := P
  w := w
  K := K
  mg := mg
  base := base
  A := A.deeper (callEnv fd s.heap.objs.size f)
  N := N
  s_0 := s
  H_0 := H
  env := callEnv fd s.heap.objs.size f
  outer := outer
  stack := callEnv fd s.heap.objs.size f :: outer
  ex := []
  calm := true
  fn := fun _ => false
  pn := []
  xe := fun e s' => wpAny (model P w) (A.deeper (callEnv fd s.heap.objs.size f)) (leaving (callEnv fd s.heap.objs.size f) e) (fun _ s'' => CX outer H s E e s'') (fun e' s'' => CX outer H s E e' s'') s'
abbrev fnS (name qual : Str) (params : Arguments) (body : List Stmt) (scope : Scope) (dV kV doc pm : Value) (an : Option Addr) (cdv ct : Value) (cc : Addr) : FuncData := PySem.W.ksFn name qual params body scope dV kV doc pm an cdv ct cc
structure ScopeS (ps : List Str) (sc : Scope) : Prop where
  kind : sc.kind = .function
  co : sc.isCoroutine = false
  gen : sc.isGenerator = false
  nd : ps.Nodup
  par : ∀ x ∈ ps, sc.names.lookup x = some .local
  nocell : ∀ y ∈ sc.names, y.2 ≠ .cell
  free : ∀ x, sc.names.lookup x = some .free → x = "__class__"
  sup : sc.names.lookup ("super" : Str) = some .globalImplicit
  cls : sc.names.lookup ("__class__" : Str) = some .free
section
variable {CX : CXT} {P : Program} {w : World} {K : PySem.W.Frag} {mg : Str → Option Value} {base : Heap} {ps : List Str} {name qual : Str} {params : Arguments} {body : List Stmt} {scope : Scope} {dV kV doc pm cdv ct : Value} {an : Option Addr} {cc f : Addr} {A : Around} {outer : List Env} {s : Shared} {H : Hp} {E : XK} {us : List Value} {vs : List V}
theorem zip_get {v : Value} {i : Nat} {x : Str} : ∀ {ps : List Str} {us : List Value} {i : Nat}, ps.Nodup → ps[i]? = some x → us[i]? = some v → (ps.zip us).reverse.lookup x = some v := by
  intro ps
  induction ps with
  | nil => intro us i _ h _; simp at h
  | cons p ps ih =>
    intro us i nd h1 h2
    cases us with
    | nil => simp at h2
    | cons u us =>
      rw [List.zip_cons_cons, List.reverse_cons, List.lookup_append]
      cases i with
      | zero =>
        simp at h1 h2
        subst h1 h2
        have hn : (ps.zip us).reverse.lookup p = none := by
          rw [List.lookup_eq_none_iff]
          intro q hq
          have hq' : q ∈ ps.zip us := by simpa using hq
          have : q.1 ∈ ps := (List.of_mem_zip hq').1
          have hne : p ≠ q.1 := fun z => (List.nodup_cons.mp nd).1 (z ▸ this)
          simpa using hne
        rw [hn]
        simp [List.lookup]
      | succ i =>
        simp at h1 h2
        rw [ih (List.nodup_cons.mp nd).2 h1 h2]
        rfl
theorem inv_startS (S : ScopeS ps scope) (hd : A.handled = none) (e0 : Env0 P w K mg base A outer s H) (hl : vs.length = ps.length) (r : Vals vs us) (hc : ∃ cl cld v csl, K.lookup cc = some ⟨cl, cld, .cell v, csl⟩)
    {h₀ : Heap} {tk : Nat} (hns : h₀.Ns s.heap.objs.size (fun x => (ps.zip us).reverse.lookup x)) (hk : ∀ b o, s.heap.get? b = some o → h₀.get? b = some o) :
    Inv (cxS CX P w K mg base ps (fnS name qual params body scope dV kV doc pm an cdv ct cc) f A outer s H E) [] (vs.map some) H { s with heap := h₀, toks := tk } := by
  have noA : ∀ b : Addr, b ∉ (cxS CX P w K mg base ps (fnS name qual params body scope dV kV doc pm an cdv ct cc) f A outer s H E).ex := fun b z => absurd (show b ∈ ([] : List Addr) from z) (by simp)
  have KX : K.In s.heap := e0.mod.kin.keeps fun b o e => (e0.bs b o e).1
  obtain ⟨cl, cld, cv, csl, hcl⟩ := hc
  have lookc : ∀ x c, (cxS CX P w K mg base ps (fnS name qual params body scope dV kV doc pm an cdv ct cc) f A outer s H E).env.cells.lookup x = some c → x = "__class__" ∧ c = cc := fun x c h => by
    have h' : List.lookup x [(("__class__" : Str), cc)] = some c := h
    rw [List.lookup_cons] at h'
    split at h'
    · rename_i z
      cases h'
      exact ⟨beq_iff_eq.mp z, rfl⟩
    · cases h'
  have hcc : s.heap.get? cc = some ⟨cl, cld, .cell cv, csl⟩ := KX _ _ hcl
  have hcb : base.get? cc = some ⟨cl, cld, .cell cv, csl⟩ := e0.mod.kin _ _ hcl
  refine ⟨⟨e0.mod, S.kind, rfl, rfl, Nat.le_refl _, fun y z c h1 h2 => by rw [(lookc y c h1).1, (lookc z c h2).1], fun y hy => ?_, fun y c hf _ => (Bool.noConfusion hf), fun _ => hd, Around.frames_deeper e0.frames, .inr ⟨rfl, rfl⟩, fun b z => absurd z (noA b), e0.bs, e0.bsz, fun b _ _ => noA b, fun b z => absurd z (noA b), e0.funs, e0.frf⟩,
    rfl, e0.bare, Un.kept hk, ⟨_, hns, fun i y v h1 h2 h3 => ?_⟩, fun y c h => ?_, e0.hok.fresh (Nat.le_refl _), fun y c h => ?_, fun p hp => absurd (show p ∈ ([] : List (Addr × Obj)) from hp) (by simp), e0.hok.kept hk, ?_⟩
  · have hy : scope.names.lookup y = some .cell ∨ scope.names.lookup y = some .free := hy
    rcases hy with hy | hy
    · exact absurd rfl (S.nocell _ (PySem.mem_of_lookup hy))
    · have := S.free y hy
      subst this
      exact ⟨cc, by show List.lookup _ [(("__class__" : Str), cc)] = some cc; simp [List.lookup]⟩
  · have ha : vs[i]? = some v := by
      rw [List.getElem?_map] at h2
      cases e : vs[i]? with
      | none => rw [e] at h2; cases h2
      | some a => rw [e] at h2; cases h2; rfl
    obtain ⟨u, hu, rv⟩ := r.get ha
    have hp : ps[i]? = some y := h1
    exact ⟨u, rv, .inl ⟨S.par y (List.mem_of_getElem? hp), zip_get (i := i) S.nd hp hu⟩⟩
  · obtain ⟨rfl, rfl⟩ := lookc y c h
    exact ⟨_, _, hk _ _ hcc, rfl⟩
  · obtain ⟨rfl, rfl⟩ := lookc y c h
    exact (e0.bs _ _ hcb).2
  · show (vs.map some).length = ps.length
    simpa using hl
end
/-! ## the call of the wrapper -/
section
open PySem.W
variable {prog : Program} {w : World} {A : Around} {E : Value → Shared → Prop} {h : Heap} {g : Array GenState} {d : Drawn} {t : Nat} {os : OsState}
variable {nm q : Str} {C N : Addr} {bs bm : List Value} {hdct : Bool} {sn : List Str} {sub : List Value} {ab : Bool} {col : Option Bool} {dd : Option Addr} {k0 k1 k2 k3 k5 : Option Value}
theorem call_mw {u e t0 : Addr} {rest : List Value} {Q : Value → Shared → Prop}
    (hC : h.get? C = some (excClassObj nm q C N bs bm hdct sn sub ab col dd k0 k1 k2 k3 k5 "ValueError.__new__")) (he : h.get? e = some (PySem.HandSPX.excO C t0)) (hu : h.get? u = some (kxs_mw "ValueError.__init__" e)) (hrest : rest.length ≤ sizeLine)
    (hq : ∀ h' t1, (∀ b o, b ≠ e → h.get? b = some o → h'.get? b = some o) → h'.get? e = some (PySem.HandSPX.excO C t1) → Q .none ⟨h', g, d, t, os⟩) :
    wpAny (model prog w) A (call (.ref u) rest) Q E ⟨h, g, d, t, os⟩ := by
  refine wpAny_call (codeAny_of_tree ?_)
  show wpAny _ A.in1 (callAny (.ref u) ⟨rest, []⟩) _ _ _
  simp only [callAny]
  refine wpAny_bind (wpAny_load hu ?_)
  simp only [kxs_mw, show (Value.type "method-wrapper" == Value.type "method" || Value.type "method-wrapper" == Value.type "builtin_function_or_method" || Value.type "method-wrapper" == Value.type "method-wrapper") = true by decide, if_true]
  refine W.KFB.if_so (by decide) ?_
  refine wpAny_bind (PySem.ESX.check_bound F.excBase_ValueError hC he rfl ?_)
  refine wpAny_bind (wpAny_pure (wpAny_pure ?_))
  refine ⟨Code.quiet_builtin _ (by decide +kernel), codeAny_builtin F.excBase_ValueError.initEntry ?_⟩
  rw [Around.under_plainId F.excBase_ValueError.init.plain _]
  wp_walk
  refine hq _ h.objs.size (fun b o hb ho => ?_) ?_
  · rw [Heap.get?_update_other _ _ (Ne.symm hb)]
    exact Heap.get?_push_of_some _ ho
  · rw [Heap.get?_update_self _ (Heap.get?_push_of_some _ he) rfl]
    rfl
end

section
open PySem.W
variable {CX : CXT} {P : Program} {w : World} {K : PySem.W.Frag} {mg : Str → Option Value} {base : Heap} {ps : List Str} {name qual : Str} {params : Arguments} {rest : List Stmt} {scope : Scope} {dV kV doc pm ct oc ccl cl : Value} {an od cdd cld : Option Addr} {cc cda f C : Addr} {osl ccs csl : Array (Option Value)} {sp : Sp} {k : Nat}
  {p0 p1 p2 p3 p4 : Pos} {e : Expr} {es : List Expr} {cvs : Array Value} {file : Str} {tf : Tok} {cdD : ClassData} {ar : Arg}
abbrev bodyS (p0 p1 p2 p3 p4 : Pos) (e : Expr) (es : List Expr) (rest : List Stmt) : List Stmt := .Expr (.Call (.Attribute (.Call (.Name "super" p0) [] [] p1) "__init__" p2) (e :: es) [] p3) p4 :: rest
theorem fn_sup (lk : K.lookup f = some ⟨oc, od, .func (fnS name qual params (bodyS p0 p1 p2 p3 p4 e es rest) scope dV kV doc pm an (.ref cda) ct cc), osl⟩) (hcd : codeIn K (.ref cda) qual = true) (S : ScopeS ps scope)
    (har : (params.posonlyargs ++ params.args).head? = some ar) (hps : ps[0]? = some ar.arg) (T : OexC K C)
    (hcode : K.lookup cda = some ⟨ccl, cdd, .fields cvs, ccs⟩) (hvs : cvs[2]? = some (.str file tf)) (hfile : ((P.main.file : Str) == file) = true)
    (hcell : K.lookup cc = some ⟨cl, cld, .cell (some (.ref C)), csl⟩) (hD : clsIn K C = some cdD) (hsub : mroIn K C (.ref C) = some true) (hsuper : mg "super" = none)
    (htop : (P.main.scope.names.lookup ("super" : Str)).isSome = false) (hboot : bootBuiltins "super" = some (.type "super")) (hop : nsIn K cStatics "thirdparty.any" = some none)
    (hsu : ks_superIn K C C "__init__" = some (some (.builtin "ValueError.__init__"))) (hB : subIn K (.ref C) (.type "ValueError") = some true)
    (len : ∀ vs H Q E, sp vs H Q E → vs.length = ps.length)
    (hbody : ∀ (A : Around) (outer : List Env) (s : Shared) (H : Hp) (vs : List V) (Q : VK) (E : XK), Room k (A.deeper (callEnv (fnS name qual params (bodyS p0 p1 p2 p3 p4 e es rest) scope dV kV doc pm an (.ref cda) ct cc) s.heap.objs.size f)) → sp vs H Q E →
      ∃ a vr ta t, vs = .ref a :: vr ∧ H a = some (exo a C none) ∧
        PA (cxS CX P w K mg base ps (fnS name qual params (bodyS p0 p1 p2 p3 p4 e es rest) scope dV kV doc pm an (.ref cda) ct cc) f A outer s H E) (e :: es) ta ∧ ta (vs.map some) H (fun ws H' => H' = H ∧ ws.length ≤ 1000) ∧
        PSs (cxS CX P w K mg base ps (fnS name qual params (bodyS p0 p1 p2 p3 p4 e es rest) scope dV kV doc pm an (.ref cda) ct cc) f A outer s H E) rest t ∧ t { nx := fun _ H' => Q .non H', rt := Q } (vs.map some) H)
    (hm1 : eval (.Call (.Attribute (.Call (.Name "super" p0) [] [] p1) "__init__" p2) (e :: es) [] p3) = fun env => (do
      let ov ← attributeBase (.Call (.Name "super" p0) [] [] p1) "__init__" env (eval (.Call (.Name "super" p0) [] [] p1) env)
      standAt p2.atName
      let (f, first) ← holding [ov] (getMethod ov "__init__" (pure false))
      callWith p3 f first (backTo p3 (starEach (e :: es) env)) []) := by rfl)
    (he : ∀ env, starEach (e :: es) env = (false, eval e env) :: starEach es env := by intro _; rfl) (hpl : ∀ env, (backTo p3 (starEach es env)).any (·.1) = false := by intro _; rfl) :
    FnOk P w K mg base CX (k + 1) f (fnS name qual params (bodyS p0 p1 p2 p3 p4 e es rest) scope dV kV doc pm an (.ref cda) ct cc) ps sp := by
  refine ⟨len, fun A outer s H args us vs Q E hr e0 hb r hsp => ?_⟩
  have hl := len _ _ _ _ hsp
  have KX : K.In s.heap := e0.mod.kin.keeps fun b o e => (e0.bs b o e).1
  have lim : s.heap.NoLimit := e0.mod.nolimit.keeps fun b o e => (e0.bs b o e).1
  refine PySem.ks_codeAny_call_defAt hr.depth (KX _ _ lk) rfl lim (codeRec_of KX hcd) rfl hb S.nocell (fun ⟨n, v⟩ hy => S.par n (List.of_mem_zip hy).1) (fun h₀ hns hk => ?_) S.co S.gen S.kind
  obtain ⟨a, vr, ta, t, rfl, ha, hA, qA, ht, qt⟩ := hbody A outer s H vs Q E (hr.deeper _) hsp
  have I : L2.Inv (cxS CX P w K mg base ps (fnS name qual params (bodyS p0 p1 p2 p3 p4 e es rest) scope dV kV doc pm an (.ref cda) ct cc) f A outer s H E) [] ((V.ref a :: vr).map some) H { s with heap := h₀, toks := s.toks + (ps.zip us).length } :=
    inv_startS S hr.hd e0 hl r ⟨_, _, _, _, hcell⟩ hns hk
  -- the first statement
  refine PySem.ks_wpAt_execs_cons (PySem.ks_wpAt_Expr_any (PySem.ks_wpAt_MethodCall (pl := pure false) ?_ (by rw [hm1])) ?hi ?hs)
  case hi => simp [interactive, callEnv, newEnv, S.kind]
  case hs => rfl
  -- the heap's facts
  have kI := I.kIn
  have hCo : ∃ oD, h₀.get? C = some oD ∧ oD.data = .cls cdD := by
    unfold clsIn at hD
    split at hD
    · rename_i c d cd' sl ho
      cases hD
      exact ⟨_, kI _ _ ho, rfl⟩
    · cases hD
  obtain ⟨oD, hD1, hD2⟩ := hCo
  obtain ⟨t1, hx⟩ := exo_at I.hok ha
  have hxC : a ≠ C := by
    intro z
    rw [z] at hx
    have hx' : h₀.get? C = _ := hx
    rw [hD1] at hx'
    cases hx'
    cases hD2
  have hself : us[0]? = some (.ref a) := by
    cases r with
    | cons q _ => cases q; rfl
  refine PySem.ks_wpAt_super_base S.sup S.cls (by decide) rfl (kI _ _ lk) rfl har rfl (kI _ _ hcode) rfl hvs hfile htop ?_
  obtain ⟨mb, bl1, bl2⟩ := I.mod.blt
  refine ks_loadName_global S.kind S.sup (Calls.loadGlobal_builtin (I.mod.glob.keeps I.bk) hsuper (bl1.keeps I.bk) ((bl2 _ (by decide)).trans hboot) ⟨rfl, ?_⟩)
  refine wpAny_loadName_free S.kind S.cls rfl ⟨_, kI _ _ hcell, rfl⟩ ?_
  refine wpAny_loadName_local S.kind (S.par _ (List.mem_of_getElem? hps)) hns (zip_get (i := 0) S.nd hps hself) ?_
  refine PySem.ks_wpAny_isType_cls hD1 hD2 ⟨rfl, ?_⟩
  refine PySem.ks_wpAny_call_super hD1 hD2 hx rfl (fun c z => by cases z) (looks_mroIn kI hsub) (fun h1 e1 k1 => ?_)
  have I1 := I.kept (h' := h1) (t' := s.toks + (ps.zip us).length) fun b u q => k1 b u q
  have kI1 := I1.kIn
  refine kxs_getMethod kxs_ValueError e1 (looks_opaque kI1 hop) (l₀ := cdD.mro) ?g1 rfl kI1 ?g2 ?g3 hxC (by decide) ?g4
  case g1 => exact fun A Q E s k q => wpAny_bind ((looks_clsIn kI1 hD) A _ E s k (wpAny_pure q))
  case g2 =>
    unfold ks_superIn at hsu
    rw [hD] at hsu
    exact hsu
  case g3 =>
    have ty : Looks (model P w) h1 (typeOf (.ref a)) (.ref C) := fun A Q E s k q => wpAny_typeOf_ref (k _ _ (k1 _ _ hx)) q
    exact ty.andThen (looks_subIn kI1 hB)
  case g4 =>
    refine kxs_callWith (i := "ValueError.__init__") (x := a) (by rw [he]; show (false || (backTo p3 (starEach es _)).any (·.1)) = false; rw [hpl]; rfl) ?_
    have I2 := I1.kept (h' := h1.push (kxs_mw "ValueError.__init__" a)) (t' := s.toks + (ps.zip us).length + 1) fun b u q => Heap.get?_push_of_some _ q
    have hu : (h1.push (kxs_mw "ValueError.__init__" a)).get? h1.objs.size = some (kxs_mw "ValueError.__init__" a) := Heap.get?_push_size _ rfl
    have I3 := I2.pins_of (pins' := [(h1.objs.size, kxs_mw "ValueError.__init__" a)]) fun p hp => by
      have : p = (h1.objs.size, kxs_mw "ValueError.__init__" a) := by simpa using hp
      subst this
      exact ⟨hu, I1.hok.fresh (Nat.le_refl _), Nat.ne_of_gt I1.lt, I1.nofs (Nat.le_refl _), fun v z => by cases z⟩
    rw [he]
    refine Calls.evalArgs_plain ?_
    have hrun := hA.run p3 [(h1.objs.size, kxs_mw "ValueError.__init__" a)] _ _ H _ I3 qA
    rw [he] at hrun
    refine wpAny_mono hrun (fun ws s3 ⟨wvs, H3, I4, rw3, eH, lw⟩ => ?_) fun _ _ z => z
    subst eH
    have hp := I4.pin (h1.objs.size, kxs_mw "ValueError.__init__" a) (by simp [cxS])
    refine ⟨hp.1, ?_⟩
    obtain ⟨nm, q, N, bs, bm, sn, sub, ab, col, dd, k0, k1', k2, k3, k5, hC, hbm⟩ := T.cls
    obtain ⟨t2, hx2⟩ := exo_at I4.hok ha
    obtain ⟨hp3, g3, d3, tk3, os3⟩ := s3
    refine call_mw (I4.kIn _ _ hC) hx2 hp.1 ?_ fun h4 t4 k4 hx4 => ?_
    · show ([] ++ ws).length ≤ sizeLine
      rw [List.nil_append, ← Paired.length rw3, sizeLine_eq]
      omega
    have J := I4.write (t' := tk3) (x := a) (e := a) (o := exo a C none) (by rw [ha]; exact True.intro) (.inl rfl) k4 ⟨_, hx4⟩ (exo_ok hx4)
    have eu : upd H3 a (exo a C none) = H3 := by
      funext b
      by_cases hb : b = a
      · rw [hb, upd_same, ha]
      · rw [upd_ne hb]
    rw [eu] at J
    refine PySem.wpAt_of_wpAny (wpAny_mono (ht.run _ _ _ H3 _ J qt) (fun fl s' hs => ?_) fun e s' hs => hs)
    have fin : ∀ {σ' : L2.St} {H' : Hp} {v : V} {u : Value} {pp}, L2.Inv (cxS CX P w K mg base ps (fnS name qual params (bodyS p0 p1 p2 p3 p4 e es rest) scope dV kV doc pm an (.ref cda) ct cc) f A outer s H3 E) pp σ' H' s' → RelV v u → Q v H' → CE outer P w H3 s Q u s' :=
      fun {σ' H' v u pp} J rv q => ⟨v, H', J.os, J.bare, J.base, J.hok, rv, q⟩
    cases fl with
    | ret u =>
      obtain ⟨v, σ', H', J, rv, q⟩ := hs
      exact fin J rv q
    | next =>
      obtain ⟨σ', H', J, q⟩ := hs
      exact fin (v := V.non) (u := Value.none) J rfl q
    | brk =>
      obtain ⟨_, _, _, q⟩ := hs
      exact False.elim q
    | cont =>
      obtain ⟨_, _, _, q⟩ := hs
      exact False.elim q
end
end FdX
set_option Elab.async false
set_option linter.all false
set_option maxRecDepth 100000
set_option maxHeartbeats 4000000
namespace Fd
open PySem PySem.Spec PyProof.Rows L2

/-! ## data -/
inductive D where
  | non | bl (b : Bool) | int (i : Int) | str (x : Str) | tup (ds : List D) | lst (ds : List D) | obj (c : Nat) (ds : List (Str × D)) | dct (kds : List (Key × D)) | dcp (kds : List (List Key × D))

/-- a locked list -/
def FzL (K : PySem.W.Frag) (H : Hp) (a : Addr) (xs : List V) : Prop := ∃ o, H a = some (.frz o (.lst xs))
theorem FzL.rd {K : PySem.W.Frag} {H : Hp} {a : Addr} {xs : List V} (h : FzL K H a xs) : Rd H a (.lst xs) := .inr h
theorem FzL.sq {K : PySem.W.Frag} {H : Hp} {a : Addr} {xs : List V} (h : FzL K H a xs) : SqL K H a xs := .inl (.inr h)
def Imm : HO → Prop
  | .tup _ => True
  | .frz _ _ => True
  | .xd _ => True
  | .ins _ _ fs => fs ≠ []
  | _ => False

section
variable (K : PySem.W.Frag) (ct : Nat → Addr)
mutual
inductive RepD (H : Hp) : V → D → Prop
  | non : RepD H .non .non
  | bl (b : Bool) : RepD H (.bl b) (.bl b)
  | int (i : Int) : RepD H (.int i) (.int i)
  | str (x : Str) : RepD H (.str x) (.str x)
  | tup {a : Addr} {vs : List V} {ds : List D} : SqT K H a vs → RepDs H vs ds → RepD H (.ref a) (.tup ds)
  | lst {a : Addr} {vs : List V} {ds : List D} : FzL K H a vs → RepDs H vs ds → RepD H (.ref a) (.lst ds)
  | obj {a dx : Addr} {c : Nat} {fs : List (Str × V)} {ds : List (Str × D)} : H a = some (.ins (ct c) dx fs) → fs ≠ [] → fs.map (·.1) = ds.map (·.1) → RepDs H (fs.map (·.2)) (ds.map (·.2)) → RepD H (.ref a) (.obj c ds)
  | dcp {a : Addr} {o : Obj} {kvs : List (List Key × V)} {kds : List (List Key × D)} : H a = some (.frz o (.dT kvs)) → kvs.map (·.1) = kds.map (·.1) → RepDs H (kvs.map (·.2)) (kds.map (·.2)) → RepD H (.ref a) (.dcp kds)
  | dct {a : Addr} {o : Obj} {kvs : List (Key × V)} {kds : List (Key × D)} : H a = some (.frz o (.dK kvs)) → kvs.map (·.1) = kds.map (·.1) → RepDs H (kvs.map (·.2)) (kds.map (·.2)) → RepD H (.ref a) (.dct kds)
inductive RepDs (H : Hp) : List V → List D → Prop
  | nil : RepDs H [] []
  | cons {v : V} {vs : List V} {d : D} {ds : List D} : RepD H v d → RepDs H vs ds → RepDs H (v :: vs) (d :: ds)
end
end
def KeepI (H H' : Hp) : Prop := ∀ a o, H a = some o → Imm o → H' a = some o
section
variable {K : PySem.W.Frag} {ct : Nat → Addr} {H H' : Hp}
theorem FzL.mono (k : KeepI H H') {a : Addr} {xs : List V} (h : FzL K H a xs) : FzL K H' a xs := by
  obtain ⟨o, h⟩ := h
  exact ⟨o, k _ _ h trivial⟩
theorem sqT_mono (k : KeepI H H') {a : Addr} {xs : List V} (h : SqT K H a xs) : SqT K H' a xs := by
  rcases h with (h | ⟨o, h⟩) | h
  · exact .inl (.inl (k _ _ h trivial))
  · exact .inl (.inr ⟨o, k _ _ h trivial⟩)
  · exact .inr h
mutual
theorem RepD.mono (k : KeepI H H') : ∀ {v : V} {d : D}, RepD K ct H v d → RepD K ct H' v d
  | _, _, .non => .non
  | _, _, .bl b => .bl b
  | _, _, .int i => .int i
  | _, _, .str x => .str x
  | _, _, .tup h r => .tup (sqT_mono k h) (RepDs.mono k r)
  | _, _, .lst h r => .lst (h.mono k) (RepDs.mono k r)
  | _, _, .obj h z e r => .obj (k _ _ h z) z e (RepDs.mono k r)
  | _, _, .dct h e r => .dct (k _ _ h trivial) e (RepDs.mono k r)
  | _, _, .dcp h e r => .dcp (k _ _ h trivial) e (RepDs.mono k r)
theorem RepDs.mono (k : KeepI H H') : ∀ {vs : List V} {ds : List D}, RepDs K ct H vs ds → RepDs K ct H' vs ds
  | _, _, .nil => .nil
  | _, _, .cons r t => .cons (RepD.mono k r) (RepDs.mono k t)
end
theorem RepDs.length {vs : List V} {ds : List D} (r : RepDs K ct H vs ds) : vs.length = ds.length := by
  induction ds generalizing vs with
  | nil => cases r; rfl
  | cons d ds ih => cases r with | cons _ t => simp [ih t]
theorem RepDs.get {vs : List V} {ds : List D} (r : RepDs K ct H vs ds) : ∀ {i : Nat} {d : D}, ds[i]? = some d → ∃ v, vs[i]? = some v ∧ RepD K ct H v d := by
  induction ds generalizing vs with
  | nil => intro i d h; simp at h
  | cons d ds ih =>
    cases r with
    | cons q t =>
      intro i d' h
      cases i with
      | zero => simp at h; subst h; exact ⟨_, rfl, q⟩
      | succ i => simp at h; obtain ⟨v, e, q'⟩ := ih t h; exact ⟨v, by simpa using e, q'⟩
theorem RepDs.append {vs us : List V} {ds es : List D} (r : RepDs K ct H vs ds) (q : RepDs K ct H us es) : RepDs K ct H (vs ++ us) (ds ++ es) := by
  induction ds generalizing vs with
  | nil => cases r; exact q
  | cons d ds ih => cases r with | cons h t => exact .cons h (ih t)
end

/-! ## states -/
inductive SV where
  | dat (d : D) | ref (k : Nat) | hand | fn (c : Nat)
inductive RV where
  | sv (x : SV) | new (xs : List SV)
structure Hand where
  great : List Int
  mixed : Int
  cnt : Int
/-- the special object of a state: the law's hand, or the object that an __init__ is making (its class, its fields) -/
inductive Hd where
  | hand (h : Hand) | me (c : Nat) (fs : List (Str × D)) | dic (kds : List (List Key × D))
instance : Coe Hand Hd := ⟨Hd.hand⟩
structure S where
  env : List (Option SV)
  mem : List (Option (List SV))
  hd : Option Hd
structure Exn where
  c : Nat
  fs : List (Str × D)
inductive Out (α : Type) where
  | ok (a : α) (s : S) | exc (x : Exn) (s : S) | bad
def Out.post {α : Type} (o : Out α) (P : α → S → Prop) (E : Exn → S → Prop) : Prop := match o with
  | .ok a s => P a s
  | .exc x s => E x s
  | .bad => False
theorem Out.post.imp {α : Type} {o : Out α} {P P' : α → S → Prop} {E E' : Exn → S → Prop} (h : o.post P E) (hp : ∀ a s, P a s → P' a s) (he : ∀ x s, E x s → E' x s) : o.post P' E' := by
  cases o with
  | ok a s => exact hp a s h
  | exc x s => exact he x s h
  | bad => exact h
abbrev M (α : Type) := S → Out α
def pur {α : Type} (a : α) : M α := fun s => .ok a s
def bnd {α β : Type} (m : M α) (f : α → M β) : M β := fun s => match m s with
  | .ok a s' => f a s'
  | .exc x s' => .exc x s'
  | .bad => .bad
def stuck {α : Type} : M α := fun _ => .bad
theorem post_bnd {α β : Type} {m : M α} {f : α → M β} {s : S} {P : β → S → Prop} {E : Exn → S → Prop} (h : (bnd m f s).post P E) : (m s).post (fun a s1 => (f a s1).post P E) E := by
  unfold bnd at h
  cases e : m s with
  | ok a s' => rw [e] at h; exact h
  | exc x s' => rw [e] at h; exact h
  | bad => rw [e] at h; exact h

/-! ## what stands for a state -/
structure G where
  kp : Nat → Addr
  ah : Addr
  g : Addr
def Live (s : S) (k : Nat) : Prop := ∃ xs, s.mem[k]? = some (some xs)
theorem Live.lt {s : S} {k : Nat} (h : Live s k) : k < s.mem.length := by
  obtain ⟨xs, h⟩ := h
  exact (List.getElem?_eq_some_iff.mp h).1
def Own (γ : G) (s : S) (a : Addr) : Prop := (∃ k, Live s k ∧ γ.kp k = a) ∨ (s.hd ≠ none ∧ (a = γ.ah ∨ a = γ.g))
def HandAt (γ : G) (H : Hp) (h : Hand) : Prop := H γ.ah = some (.lst [.ref γ.g, .int h.mixed, .int h.cnt]) ∧ H γ.g = some (.lst (h.great.map V.int))
/-- an object in the making: its own object, its dict -/
def meA (a C dx : Addr) : Heap → Prop := fun h => h.get? a = some (PySem.W.instObj C dx)
def meD (dx : Addr) (fs : List (Str × V)) : Heap → Prop := fun h => fs.length ≤ 1000 ∧ ∃ mA, h.Ns1 dx mA ∧ (∀ f, RelO (fs.lookup f) (mA f)) ∧ PySem.Within mA (fs.map (·.1))
section
variable (K : PySem.W.Frag) (ct : Nat → Addr)
def MeAt (γ : G) (H : Hp) (c : Nat) (ds : List (Str × D)) : Prop := ∃ fs : List (Str × V), H γ.ah = some (.ext (meA γ.ah (ct c) γ.g)) ∧ H γ.g = some (.ext (meD γ.g fs)) ∧ γ.g ≠ γ.ah ∧ fs.map (·.1) = ds.map (·.1) ∧ RepDs K ct H (fs.map (·.2)) (ds.map (·.2))
/-- a dict in the making -/
def DicAt (γ : G) (H : Hp) (kds : List (List Key × D)) : Prop := γ.g = γ.ah ∧ ∃ kvs : List (List Key × V), H γ.ah = some (.dT kvs) ∧ kvs.map (·.1) = kds.map (·.1) ∧ RepDs K ct H (kvs.map (·.2)) (kds.map (·.2))
def RepHd (γ : G) (H : Hp) : Hd → Prop
  | .hand h => HandAt γ H h
  | .dic kds => DicAt K ct γ H kds
  | .me c ds => MeAt K ct γ H c ds
def RepS (γ : G) (n : Nat) (H : Hp) (v : V) : SV → Prop
  | .dat d => RepD K ct H v d
  | .ref k => k < n ∧ v = .ref (γ.kp k)
  | .hand => v = .ref γ.ah
  | .fn c => v = .ref (ct c)
structure Rep (γ : G) (H : Hp) (σ : L2.St) (s : S) : Prop where
  len : σ.length = s.env.length
  env : ∀ (i : Nat) x, s.env[i]? = some (some x) → ∃ v, σ[i]? = some (some v) ∧ RepS K ct γ s.mem.length H v x
  mem : ∀ (k : Nat) xs, s.mem[k]? = some (some xs) → ∃ vs, H (γ.kp k) = some (.lst vs) ∧ Paired (RepS K ct γ s.mem.length H) vs xs
  inj : ∀ j k, Live s j → Live s k → γ.kp j = γ.kp k → j = k
  hd : ∀ h, s.hd = some h → RepHd K ct γ H h
  hdk : s.hd ≠ none → ∀ k, Live s k → γ.kp k ≠ γ.ah ∧ γ.kp k ≠ γ.g
structure Step (γ γ' : G) (s s' : S) (H H' : Hp) : Prop where
  keep : ∀ a o, H a = some o → ¬ Own γ s a → H' a = some o
  own : ∀ a, Own γ' s' a → Own γ s a ∨ H a = none
  imm : KeepI H H'
  there : ∀ a, H a ≠ none → H' a ≠ none
  kp : ∀ k, k < s.mem.length → γ'.kp k = γ.kp k
  len : s.mem.length ≤ s'.mem.length
  ah : γ'.ah = γ.ah
  fresh : ∀ k, s.mem.length ≤ k → k < s'.mem.length → H (γ'.kp k) = none
def RepR (γ : G) (s : S) (H0 H : Hp) (v : V) : RV → Prop
  | .sv x => RepS K ct γ s.mem.length H v x
  | .new xs => ∃ a vs, v = .ref a ∧ H0 a = none ∧ H a = some (.lst vs) ∧ ¬ Own γ s a ∧ Paired (RepS K ct γ s.mem.length H) vs xs
/-- an exception: its class, its own dict -/
def RepX (H : Hp) (x : Exn) (cl : Value) (d : Option Addr) : Prop := cl = .ref (ct x.c) ∧ ((x.fs = [] ∧ d = none) ∨ ∃ dx fs, d = some dx ∧ H dx = some (.xd fs) ∧ fs.map (·.1) = x.fs.map (·.1) ∧ RepDs K ct H (fs.map (·.2)) (x.fs.map (·.2)))
end
section
variable {K : PySem.W.Frag} {ct : Nat → Addr} {γ γ1 γ2 : G} {s s1 s2 : S} {H H1 H2 : Hp} {σ : L2.St}
theorem KeepI.refl : KeepI H H := fun _ _ e _ => e
theorem KeepI.trans (a : KeepI H H1) (b : KeepI H1 H2) : KeepI H H2 := fun x o e i => b x o (a x o e i) i
theorem Step.refl : Step γ γ s s H H := ⟨fun _ _ e _ => e, fun _ h => .inl h, KeepI.refl, fun _ z => z, fun _ _ => rfl, Nat.le_refl _, rfl, fun _ h1 h2 => absurd h2 (Nat.not_lt.mpr h1)⟩
theorem Step.trans (a : Step γ γ1 s s1 H H1) (b : Step γ1 γ2 s1 s2 H1 H2) : Step γ γ2 s s2 H H2 where
  keep := fun x o e n => b.keep x o (a.keep x o e n) fun z => by
    rcases a.own x z with q | q
    · exact n q
    · rw [q] at e; cases e
  own := fun x z => by
    rcases b.own x z with q | q
    · exact a.own x q
    · by_cases n : Own γ s x
      · exact .inl n
      · right
        cases e : H x with
        | none => rfl
        | some o => rw [a.keep x o e n] at q; cases q
  imm := a.imm.trans b.imm
  there := fun x z => b.there x (a.there x z)
  kp := fun k h => (b.kp k (Nat.lt_of_lt_of_le h a.len)).trans (a.kp k h)
  len := Nat.le_trans a.len b.len
  ah := b.ah.trans a.ah
  fresh := fun k h1 h2 => by
    by_cases h : k < s1.mem.length
    · rw [b.kp k h]; exact a.fresh k h1 h
    · have q := b.fresh k (Nat.not_lt.mp h) h2
      cases e : H (γ2.kp k) with
      | none => rfl
      | some o => exact absurd q (a.there _ (by rw [e]; exact fun z => by cases z))
theorem RepS.mono (t : Step γ γ1 s s1 H H1) {v : V} {x : SV} (h : RepS K ct γ s.mem.length H v x) : RepS K ct γ1 s1.mem.length H1 v x := by
  cases x with
  | dat d => exact RepD.mono t.imm h
  | ref k => exact ⟨Nat.lt_of_lt_of_le h.1 t.len, by rw [t.kp k h.1]; exact h.2⟩
  | hand => show v = .ref γ1.ah; rw [t.ah]; exact h
  | fn c => exact h
theorem RepSs.mono (t : Step γ γ1 s s1 H H1) {vs : List V} {xs : List SV} (h : Paired (RepS K ct γ s.mem.length H) vs xs) : Paired (RepS K ct γ1 s1.mem.length H1) vs xs := Paired.mapP h fun _ _ r => r.mono t
theorem RepR.mono {H0 : Hp} (t : Step γ γ1 s s1 H H1) {v : V} {r : RV} (h : RepR K ct γ s H0 H v r) : RepR K ct γ1 s1 H0 H1 v r := by
  cases r with
  | sv x => exact RepS.mono t h
  | new xs =>
    obtain ⟨a, vs, rfl, e0, e, n, p⟩ := h
    refine ⟨a, vs, rfl, e0, t.keep a _ e n, fun z => ?_, RepSs.mono t p⟩
    rcases t.own a z with q | q
    · exact n q
    · rw [q] at e; cases e
theorem free_of {H H1 : Hp} (t : ∀ a, H a ≠ none → H1 a ≠ none) {a : Addr} (e : H1 a = none) : H a = none := by
  cases q : H a with
  | none => rfl
  | some o => exact absurd e (t a (by rw [q]; exact fun z => by cases z))
theorem RepR.base {Ha Hb : Hp} (t : ∀ a, Ha a ≠ none → Hb a ≠ none) {v : V} {r : RV} (h : RepR K ct γ s Hb H v r) : RepR K ct γ s Ha H v r := by
  cases r with
  | sv x => exact h
  | new xs =>
    obtain ⟨a, vs, rfl, e0, e, n, p⟩ := h
    exact ⟨a, vs, rfl, free_of t e0, e, n, p⟩
theorem hd_two (R : Rep K ct γ H σ s) {h : Hd} (e : s.hd = some h) : ∃ o u, H γ.ah = some o ∧ H γ.g = some u ∧ ¬ Imm o ∧ ¬ Imm u := by
  have q := R.hd h e
  cases h with
  | hand h => exact ⟨_, _, q.1, q.2, (fun z => z), (fun z => z)⟩
  | dic kds =>
    obtain ⟨eg, kvs, q1, _⟩ := q
    exact ⟨.dT kvs, .dT kvs, q1, by rw [eg]; exact q1, (fun z => z), (fun z => z)⟩
  | me c ds =>
    obtain ⟨fs, q1, q2, _⟩ := q
    exact ⟨_, _, q1, q2, (fun z => z), (fun z => z)⟩
theorem Rep.own_some (R : Rep K ct γ H σ s) {a : Addr} (h : Own γ s a) : ∃ o, H a = some o ∧ ¬ Imm o := by
  rcases h with ⟨k, ⟨xs, e⟩, rfl⟩ | ⟨n, h⟩
  · obtain ⟨vs, q, _⟩ := R.mem k xs e
    exact ⟨_, q, fun z => z⟩
  · cases e : s.hd with
    | none => exact absurd e n
    | some hh =>
      obtain ⟨o, u, q1, q2, i1, i2⟩ := hd_two R e
      rcases h with rfl | rfl
      · exact ⟨_, q1, i1⟩
      · exact ⟨_, q2, i2⟩
theorem Rep.imm_notOwn (R : Rep K ct γ H σ s) {a : Addr} {o : HO} (e : H a = some o) (i : Imm o) : ¬ Own γ s a := fun z => by
  obtain ⟨u, q, n⟩ := R.own_some z
  rw [q] at e; cases e; exact n i
theorem keepI_new {p : Addr} {o : HO} (h : H p = none) : KeepI H (upd H p o) := fun a u e _ => by
  rw [upd_ne (ne_of_none e h)]; exact e
/-- a new object that is not owned -/
theorem there_upd {p : Addr} {o : HO} : ∀ a, H a ≠ none → upd H p o a ≠ none := fun a z => by
  unfold upd
  split
  · exact fun q => by cases q
  · exact z
theorem Step.laid {p : Addr} {o : HO} (h : H p = none) : Step γ γ s s H (upd H p o) :=
  ⟨fun a u e _ => by rw [upd_ne (ne_of_none e h)]; exact e, fun _ z => .inl z, keepI_new h, there_upd, fun _ _ => rfl, Nat.le_refl _, rfl, fun _ h1 h2 => absurd h2 (Nat.not_lt.mpr h1)⟩
theorem HandAt.mono {h : Hand} (e1 : ∀ a o, H a = some o → (a = γ.ah ∨ a = γ.g) → H1 a = some o) (x : HandAt γ H h) : HandAt γ H1 h := ⟨e1 _ _ x.1 (.inl rfl), e1 _ _ x.2 (.inr rfl)⟩
theorem RepHd.mono {h : Hd} (e1 : ∀ a o, H a = some o → (a = γ.ah ∨ a = γ.g) → H1 a = some o) (ki : KeepI H H1) (x : RepHd K ct γ H h) : RepHd K ct γ H1 h := by
  cases h with
  | hand h => exact HandAt.mono e1 x
  | dic kds =>
    obtain ⟨eg, kvs, q1, q2, q3⟩ := x
    exact ⟨eg, kvs, e1 _ _ q1 (.inl rfl), q2, RepDs.mono ki q3⟩
  | me c ds =>
    obtain ⟨fs, q1, q2, q3, q4, q5⟩ := x
    exact ⟨fs, e1 _ _ q1 (.inl rfl), e1 _ _ q2 (.inr rfl), q3, q4, RepDs.mono ki q5⟩
/-- all is kept -/
theorem Rep.kept (R : Rep K ct γ H σ s) (k : ∀ a o, H a = some o → H1 a = some o) : Rep K ct γ H1 σ s := by
  have st : Step γ γ s s H H1 := ⟨fun a o e _ => k a o e, fun _ z => .inl z, fun a o e _ => k a o e, fun a z q => z (by cases e : H a with | none => rfl | some o => rw [k a o e] at q; cases q), fun _ _ => rfl, Nat.le_refl _, rfl, fun _ h1 h2 => absurd h2 (Nat.not_lt.mpr h1)⟩
  refine ⟨R.len, fun i x e => ?_, fun k' xs e => ?_, R.inj, fun h e => ?_, R.hdk⟩
  · obtain ⟨v, q, r⟩ := R.env i x e
    exact ⟨v, q, r.mono st⟩
  · obtain ⟨vs, q, r⟩ := R.mem k' xs e
    exact ⟨vs, k _ _ q, RepSs.mono st r⟩
  · exact RepHd.mono (fun a o q _ => k a o q) (fun a o e _ => k a o e) (R.hd h e)
theorem Rep.laid (R : Rep K ct γ H σ s) {p : Addr} {o : HO} (h : H p = none) : Rep K ct γ (upd H p o) σ s := R.kept fun a u e => by rw [upd_ne (ne_of_none e h)]; exact e
theorem Rep.notOwn_free (R : Rep K ct γ H σ s) {p : Addr} (h : H p = none) : ¬ Own γ s p := fun z => by
  obtain ⟨u, q, _⟩ := R.own_some z
  rw [h] at q; cases q
end

/-! ## judgements -/
section
variable (K : PySem.W.Frag) (ct : Nat → Addr)
def GoodX (W : WX) (σ : L2.St) (γ : G) (s : S) (H : Hp) (x : Exn) (s' : S) : Prop := ∀ cl d γ' H', Step γ γ' s s' H H' → Rep K ct γ' H' σ s' → RepX K ct H' x cl d → W cl d σ H'
def Good (W : WX) (σ : L2.St) (γ : G) (s : S) (H : Hp) (o : Out RV) (Q : VK) : Prop :=
  o.post (fun r s' => ∀ v γ' H', Step γ γ' s s' H H' → Rep K ct γ' H' σ s' → RepR K ct γ' s' H H' v r → Q v H') (GoodX K ct W σ γ s H)
def GoodT (W : WX) (σ : L2.St) (γ : G) (s : S) (H : Hp) (o : Out Bool) (Q : Bool → Hp → Prop) : Prop :=
  o.post (fun b s' => ∀ γ' H', Step γ γ' s s' H H' → Rep K ct γ' H' σ s' → Q b H') (GoodX K ct W σ γ s H)
def GoodA (W : WX) (σ : L2.St) (γ : G) (s : S) (H : Hp) (o : Out (List SV)) (Q : List V → Hp → Prop) : Prop :=
  o.post (fun xs s' => ∀ vs γ' H', Step γ γ' s s' H H' → Rep K ct γ' H' σ s' → Paired (RepS K ct γ' s'.mem.length H') vs xs → Q vs H') (GoodX K ct W σ γ s H)
inductive Fl where
  | nx | bk | ct | rt (r : RV)
def GoodXS (W : WX) (γ : G) (s : S) (H : Hp) (x : Exn) (s' : S) : Prop := ∀ cl d σ' γ' H', Step γ γ' s s' H H' → Rep K ct γ' H' σ' s' → RepX K ct H' x cl d → W cl d σ' H'
def GoodF (γ : G) (s : S) (H : Hp) (N : Ends) (f : Fl) (s' : S) : Prop := match f with
  | .nx => ∀ σ' γ' H', Step γ γ' s s' H H' → Rep K ct γ' H' σ' s' → N.nx σ' H'
  | .bk => ∀ σ' γ' H', Step γ γ' s s' H H' → Rep K ct γ' H' σ' s' → N.bk σ' H'
  | .ct => ∀ σ' γ' H', Step γ γ' s s' H H' → Rep K ct γ' H' σ' s' → N.ct σ' H'
  | .rt r => ∀ v σ' γ' H', Step γ γ' s s' H H' → Rep K ct γ' H' σ' s' → RepR K ct γ' s' H H' v r → N.rt v H'
def GoodS (W : WX) (γ : G) (s : S) (H : Hp) (o : Out Fl) (N : Ends) : Prop := o.post (GoodF K ct γ s H N) (GoodXS K ct W γ s H)
end
structure ED (X : Cx) (ct : Nat → Addr) (W : WX) (e : Expr) (m : M RV) : Prop where
  ex : ∃ t, PE X e t ∧ ∀ σ H γ s Q, Rep X.K ct γ H σ s → Good X.K ct W σ γ s H (m s) Q → t σ H Q
structure TD (X : Cx) (ct : Nat → Addr) (W : WX) (e : Expr) (m : M Bool) : Prop where
  ex : ∃ t, PT X e t ∧ ∀ σ H γ s Q, Rep X.K ct γ H σ s → GoodT X.K ct W σ γ s H (m s) Q → t σ H Q
structure AD (X : Cx) (ct : Nat → Addr) (W : WX) (es : List Expr) (m : M (List SV)) : Prop where
  ex : ∃ t, PA X es t ∧ ∀ σ H γ s Q, Rep X.K ct γ H σ s → GoodA X.K ct W σ γ s H (m s) Q → t σ H Q
structure SD (X : Cx) (ct : Nat → Addr) (W : WX) (st : Stmt) (m : M Fl) : Prop where
  ex : ∃ t, PS X st t ∧ ∀ N σ H γ s, Rep X.K ct γ H σ s → GoodS X.K ct W γ s H (m s) N → t N σ H
structure SDs (X : Cx) (ct : Nat → Addr) (W : WX) (st : List Stmt) (m : M Fl) : Prop where
  ex : ∃ t, PSs X st t ∧ ∀ N σ H γ s, Rep X.K ct γ H σ s → GoodS X.K ct W γ s H (m s) N → t N σ H
section
variable {K : PySem.W.Frag} {ct : Nat → Addr} {W : WX} {γ γ1 : G} {s s1 : S} {H H1 : Hp} {σ : L2.St}
theorem GoodX.step {x : Exn} {s' : S} (t : Step γ γ1 s s1 H H1) (h : GoodX K ct W σ γ s H x s') : GoodX K ct W σ γ1 s1 H1 x s' := fun cl d γ' H' t' => h cl d γ' H' (t.trans t')
theorem GoodXS.step {x : Exn} {s' : S} (t : Step γ γ1 s s1 H H1) (h : GoodXS K ct W γ s H x s') : GoodXS K ct W γ1 s1 H1 x s' := fun cl d σ' γ' H' t' => h cl d σ' γ' H' (t.trans t')
theorem GoodXS.at {x : Exn} {s' : S} (h : GoodXS K ct W γ s H x s') : GoodX K ct W σ γ s H x s' := fun cl d γ' H' t' => h cl d σ γ' H' t'
theorem Good.step {o : Out RV} {Q : VK} (t : Step γ γ1 s s1 H H1) (h : Good K ct W σ γ s H o Q) : Good K ct W σ γ1 s1 H1 o Q := Out.post.imp h (fun r s' q v γ' H' t' R' r' => q v γ' H' (t.trans t') R' (r'.base t.there)) fun x s' q => q.step t
theorem GoodT.step {o : Out Bool} {Q : Bool → Hp → Prop} (t : Step γ γ1 s s1 H H1) (h : GoodT K ct W σ γ s H o Q) : GoodT K ct W σ γ1 s1 H1 o Q := Out.post.imp h (fun r s' q γ' H' t' => q γ' H' (t.trans t')) fun x s' q => q.step t
theorem GoodA.step {o : Out (List SV)} {Q : List V → Hp → Prop} (t : Step γ γ1 s s1 H H1) (h : GoodA K ct W σ γ s H o Q) : GoodA K ct W σ γ1 s1 H1 o Q := Out.post.imp h (fun r s' q v γ' H' t' => q v γ' H' (t.trans t')) fun x s' q => q.step t
theorem GoodF.step {f : Fl} {s' : S} {N : Ends} (t : Step γ γ1 s s1 H H1) (h : GoodF K ct γ s H N f s') : GoodF K ct γ1 s1 H1 N f s' := by
  cases f with
  | nx => exact fun σ' γ' H' t' => h σ' γ' H' (t.trans t')
  | bk => exact fun σ' γ' H' t' => h σ' γ' H' (t.trans t')
  | ct => exact fun σ' γ' H' t' => h σ' γ' H' (t.trans t')
  | rt r => exact fun v σ' γ' H' t' R' r' => h v σ' γ' H' (t.trans t') R' (r'.base t.there)
theorem GoodS.step {o : Out Fl} {N : Ends} (t : Step γ γ1 s s1 H H1) (h : GoodS K ct W γ s H o N) : GoodS K ct W γ1 s1 H1 o N := Out.post.imp h (fun f s' q => q.step t) fun x s' q => q.step t
end
end Fd
set_option Elab.async false
set_option linter.all false
set_option maxRecDepth 100000
set_option maxHeartbeats 4000000
namespace Fd
open PySem PySem.Spec PyProof.Rows L2
section
variable {K : PySem.W.Frag} {ct : Nat → Addr} {W : WX} {γ γ1 : G} {s s1 : S} {H H1 : Hp} {σ : L2.St} {β : Type}
theorem Good.imp {o : Out RV} {Q Q' : VK} (h : Good K ct W σ γ s H o Q) (f : ∀ v H, Q v H → Q' v H) : Good K ct W σ γ s H o Q' := Out.post.imp h (fun _ _ q v γ' H' t' R r => f _ _ (q v γ' H' t' R r)) fun _ _ q => q
/-- an expression first -/
theorem use_e {m : M RV} {f : RV → M β} {P : β → S → Prop} {E : Exn → S → Prop} {Q : VK} (h : (bnd m f s).post P E) (hE : ∀ x s', E x s' → GoodX K ct W σ γ s H x s')
    (k : ∀ r s1 v γ1 H1, Step γ γ1 s s1 H H1 → Rep K ct γ1 H1 σ s1 → RepR K ct γ1 s1 H H1 v r → (f r s1).post P E → Q v H1) : Good K ct W σ γ s H (m s) Q :=
  Out.post.imp (post_bnd h) (fun r s1 q v γ1 H1 t R r' => k r s1 v γ1 H1 t R r' q) hE
theorem use_t {m : M Bool} {f : Bool → M β} {P : β → S → Prop} {E : Exn → S → Prop} {Q : Bool → Hp → Prop} (h : (bnd m f s).post P E) (hE : ∀ x s', E x s' → GoodX K ct W σ γ s H x s')
    (k : ∀ b s1 γ1 H1, Step γ γ1 s s1 H H1 → Rep K ct γ1 H1 σ s1 → (f b s1).post P E → Q b H1) : GoodT K ct W σ γ s H (m s) Q :=
  Out.post.imp (post_bnd h) (fun r s1 q γ1 H1 t R => k r s1 γ1 H1 t R q) hE
theorem use_a {m : M (List SV)} {f : List SV → M β} {P : β → S → Prop} {E : Exn → S → Prop} {Q : List V → Hp → Prop} (h : (bnd m f s).post P E) (hE : ∀ x s', E x s' → GoodX K ct W σ γ s H x s')
    (k : ∀ xs s1 vs γ1 H1, Step γ γ1 s s1 H H1 → Rep K ct γ1 H1 σ s1 → Paired (RepS K ct γ1 s1.mem.length H1) vs xs → (f xs s1).post P E → Q vs H1) : GoodA K ct W σ γ s H (m s) Q :=
  Out.post.imp (post_bnd h) (fun r s1 q v γ1 H1 t R r' => k r s1 v γ1 H1 t R r' q) hE
theorem good_pur {r : RV} {Q : VK} (q : ∀ v γ' H', Step γ γ' s s H H' → Rep K ct γ' H' σ s → RepR K ct γ' s H H' v r → Q v H') : Good K ct W σ γ s H (pur r s) Q := q
end

/-! ## pure data in lists -/
def datL : List SV → Option (List D)
  | [] => some []
  | .dat d :: r => match datL r with
    | some ds => some (d :: ds)
    | none => none
  | _ :: _ => none
theorem datL_map (ds : List D) : datL (ds.map SV.dat) = some ds := by
  induction ds with
  | nil => rfl
  | cons d ds ih => simp [datL, ih]
section
variable {K : PySem.W.Frag} {ct : Nat → Addr} {W : WX} {γ γ1 : G} {s s1 : S} {H H1 : Hp} {σ : L2.St}
theorem datL_rep {n : Nat} : ∀ {xs : List SV} {ds : List D} {vs : List V}, datL xs = some ds → Paired (RepS K ct γ n H) vs xs → RepDs K ct H vs ds := by
  intro xs
  induction xs with
  | nil => intro ds vs e h; cases h; cases e; exact .nil
  | cons x xs ih =>
    intro ds vs e h
    cases h with
    | cons q t =>
      cases x with
      | dat d =>
        unfold datL at e
        cases h : datL xs with
        | none => rw [h] at e; cases e
        | some es => rw [h] at e; cases e; exact .cons q (ih h t)
      | ref _ => cases e
      | hand => cases e
      | fn c => cases e
theorem rep_map {n : Nat} : ∀ {ds : List D} {vs : List V}, RepDs K ct H vs ds → Paired (RepS K ct γ n H) vs (ds.map SV.dat) := by
  intro ds
  induction ds with
  | nil => intro vs h; cases h; exact .nil
  | cons d ds ih => intro vs h; cases h with | cons r t => exact .cons r (ih t)

/-! ## locking: a list becomes data -/
def substR (k : Nat) (ds : List D) : Option SV → Option SV
  | some (.ref j) => if j = k then some (.dat (.lst ds)) else some (.ref j)
  | x => x
def frz : RV → M RV
  | .sv (.dat d) => pur (.sv (.dat d))
  | .sv (.ref k) => fun s => match s.mem[k]? with
    | some (some xs) => match datL xs with
      | some ds => .ok (.sv (.dat (.lst ds))) { s with mem := s.mem.set k none, env := s.env.map (substR k ds) }
      | none => .bad
    | _ => .bad
  | .sv .hand => stuck
  | .sv (.fn _) => stuck
  | .new xs => fun s => match datL xs with
    | some ds => .ok (.sv (.dat (.lst ds))) s
    | none => .bad
end
def tFz (t : TE) : TE := fun σ H Q => t σ H fun v H1 => Q v H1 ∨ ∃ a vs, v = .ref a ∧ H1 a = some (.lst vs) ∧ ∀ o, Q v (upd H1 a (.frz o (.lst vs)))
theorem pe_fz {X : Cx} {e : Expr} {t : TE} (h : PE X e t) : PE X e (tFz t) := ⟨fun pins s σ H Q I hw =>
  thn (h.run pins s σ H _ I hw) fun u s1 ⟨v, H1, I1, r1, q1⟩ => by
    rcases q1 with q | ⟨a, vs, rfl, ea, q⟩
    · exact ⟨v, H1, I1, r1, q⟩
    · obtain ⟨o, I2⟩ := I1.lock ea trivial
      exact ⟨_, _, I2, r1, q o⟩⟩
section
variable {K : PySem.W.Frag} {ct : Nat → Addr} {W : WX} {γ γ1 : G} {s s1 : S} {H H1 : Hp} {σ : L2.St}
/-- what is not owned is locked -/
theorem step_lockN {a : Addr} {vs : List V} {o : Obj} (e : H a = some (.lst vs)) (s0 : S) (γ0 : G) (H0 : Hp) (t : Step γ0 γ s0 s H0 H) (n0 : H0 a = none) : Step γ0 γ s0 s H0 (upd H a (.frz o (.lst vs))) := by
  refine ⟨fun x u ex n => ?_, t.own, fun x u ex i => ?_, fun x z => ?_, t.kp, t.len, t.ah, t.fresh⟩
  · rw [upd_ne (ne_of_none ex n0)]; exact t.keep x u ex n
  · rw [upd_ne (ne_of_none ex n0)]; exact t.imm x u ex i
  · exact there_upd x (t.there x z)
theorem rep_lockN (R : Rep K ct γ H σ s) {a : Addr} {vs : List V} {o : Obj} (e : H a = some (.lst vs)) (n : ¬ Own γ s a) : Rep K ct γ (upd H a (.frz o (.lst vs))) σ s := by
  have ki : KeepI H (upd H a (.frz o (.lst vs))) := fun x u ex i => by
    rw [upd_ne]
    · exact ex
    · rintro rfl; rw [e] at ex; cases ex; exact i
  have m1 : ∀ {v x}, RepS K ct γ s.mem.length H v x → RepS K ct γ s.mem.length (upd H a (.frz o (.lst vs))) v x := fun {v x} r => by
    cases x with
    | dat d => exact RepD.mono ki r
    | ref k => exact r
    | hand => exact r
    | fn c => exact r
  refine ⟨R.len, fun i x ex => ?_, fun k xs ex => ?_, R.inj, fun h ex => ?_, R.hdk⟩
  · obtain ⟨v, q, r⟩ := R.env i x ex
    exact ⟨v, q, m1 r⟩
  · obtain ⟨us, q, r⟩ := R.mem k xs ex
    refine ⟨us, ?_, Paired.mapP r fun _ _ z => m1 z⟩
    rw [upd_ne]
    · exact q
    · rintro rfl; exact n (.inl ⟨k, ⟨xs, ex⟩, rfl⟩)
  · refine RepHd.mono (fun b u q hb => ?_) ki (R.hd h ex)
    rw [upd_ne]
    · exact q
    · rintro rfl; exact n (.inr ⟨by rw [ex]; exact (fun z => by cases z), hb⟩)
end
section
variable {X : Cx} {ct : Nat → Addr} {W : WX} {e : Expr} {m : M RV}
theorem ed_frz (h : ED X ct W e m) : ED X ct W e (bnd m frz) := by
  obtain ⟨t, pt, rt⟩ := h.ex
  refine ⟨_, pe_fz pt, fun σ H γ s Q R h => ?_⟩
  refine rt σ H γ s _ R (use_e h (fun _ _ z => z) fun r s1 v γ1 H1 t1 R1 r1 g => ?_)
  cases r with
  | sv x =>
    cases x with
    | dat d => exact .inl (g v γ1 H1 t1 R1 r1)
    | hand => exact False.elim g
    | fn c => exact False.elim g
    | ref k =>
      right
      have r1' : k < s1.mem.length ∧ v = .ref (γ1.kp k) := r1
      obtain ⟨hk, rfl⟩ := r1'
      unfold frz at g
      cases e1 : s1.mem[k]? with
      | none => simp only [e1] at g; exact False.elim g
      | some o1 =>
        cases o1 with
        | none => simp only [e1] at g; exact False.elim g
        | some xs =>
          simp only [e1] at g
          cases e2 : datL xs with
          | none => simp only [e2] at g; exact False.elim g
          | some ds =>
            simp only [e2] at g
            obtain ⟨vs, ek, rp⟩ := R1.mem k xs e1
            refine ⟨γ1.kp k, vs, rfl, ek, fun o => ?_⟩
            have lk : Live s1 k := ⟨xs, e1⟩
            have live : ∀ j, Live { s1 with mem := s1.mem.set k none, env := s1.env.map (substR k ds) } j → Live s1 j ∧ j ≠ k := fun j ⟨ys, ey⟩ => by
              by_cases hj : k = j
              · subst hj
                have ey' : (s1.mem.set k none)[k]? = some (some ys) := ey
                rw [List.getElem?_set_self hk] at ey'; cases ey'
              · have ey' : (s1.mem.set k none)[j]? = some (some ys) := ey
                rw [List.getElem?_set_ne hj] at ey'
                exact ⟨⟨ys, ey'⟩, fun z => hj z.symm⟩
            have ki : KeepI H1 (upd H1 (γ1.kp k) (.frz o (.lst vs))) := fun x u ex i => by
              rw [upd_ne]
              · exact ex
              · rintro rfl; rw [ek] at ex; cases ex; exact i
            have st : Step γ1 γ1 s1 { s1 with mem := s1.mem.set k none, env := s1.env.map (substR k ds) } H1 (upd H1 (γ1.kp k) (.frz o (.lst vs))) := by
              refine ⟨fun x u ex n => ?_, fun x z => ?_, ki, fun x z => there_upd x z, fun _ _ => rfl, by simp, rfl, fun j h1 h2 => by simp at h2; omega⟩
              · rw [upd_ne]
                · exact ex
                · rintro rfl; exact n (.inl ⟨k, lk, rfl⟩)
              · rcases z with ⟨j, lj, rfl⟩ | z
                · exact .inl (.inl ⟨j, (live j lj).1, rfl⟩)
                · exact .inl (.inr z)
            have dk : RepD X.K ct (upd H1 (γ1.kp k) (.frz o (.lst vs))) (.ref (γ1.kp k)) (.lst ds) := .lst ⟨o, upd_same⟩ (RepDs.mono ki (datL_rep e2 rp))
            refine g _ γ1 _ (t1.trans st) ⟨by simpa using R1.len, fun i x ex => ?_, fun j ys ey => ?_, fun i j li lj => R1.inj i j (live i li).1 (live j lj).1, fun h eh => ?_, fun z j lj => R1.hdk z j (live j lj).1⟩ dk
            · have ex' : (s1.env.map (substR k ds))[i]? = some (some x) := ex
              rw [List.getElem?_map] at ex'
              cases e3 : s1.env[i]? with
              | none => rw [e3] at ex'; cases ex'
              | some y =>
                rw [e3] at ex'
                have ex2 : substR k ds y = some x := Option.some.inj ex'
                cases y with
                | none => cases ex2
                | some y =>
                  obtain ⟨v, q, r⟩ := R1.env i y e3
                  refine ⟨v, q, ?_⟩
                  cases y with
                  | dat d => cases ex2; exact RepD.mono ki r
                  | hand => cases ex2; exact r
                  | fn c => cases ex2; exact r
                  | ref j =>
                    unfold substR at ex2
                    obtain ⟨r1, rfl⟩ := r
                    by_cases hj : j = k
                    · simp only [hj, if_true] at ex2
                      cases ex2
                      rw [hj]
                      exact dk
                    · simp only [hj, if_false] at ex2
                      cases ex2
                      exact ⟨by simpa using r1, rfl⟩
            · obtain ⟨lj, nj⟩ := live j ⟨ys, ey⟩
              have ey' : (s1.mem.set k none)[j]? = some (some ys) := ey
              rw [List.getElem?_set_ne (Ne.symm nj)] at ey'
              obtain ⟨us, q, r⟩ := R1.mem j ys ey'
              refine ⟨us, ?_, Paired.mapP r fun _ _ z => z.mono st⟩
              rw [upd_ne]
              · exact q
              · exact fun z => nj (R1.inj j k lj lk z)
            · have eh' : s1.hd = some h := eh
              refine RepHd.mono (fun b u q hb => ?_) ki (R1.hd h eh')
              rw [upd_ne]
              · exact q
              · rintro rfl
                have := R1.hdk (by rw [eh']; exact fun z => by cases z) k lk
                rcases hb with z | z
                · exact this.1 z
                · exact this.2 z
  | new xs =>
    right
    unfold frz at g
    cases e2 : datL xs with
    | none => simp only [e2] at g; exact False.elim g
    | some ds =>
      simp only [e2] at g
      obtain ⟨a, vs, rfl, e0, ea, na, rp⟩ := r1
      refine ⟨a, vs, rfl, ea, fun o => ?_⟩
      have ki : KeepI H1 (upd H1 a (.frz o (.lst vs))) := fun x u ex i => by
        rw [upd_ne]
        · exact ex
        · rintro rfl; rw [ea] at ex; cases ex; exact i
      exact g _ γ1 _ (step_lockN ea s γ H t1 e0) (rep_lockN R1 ea na) (.lst ⟨o, upd_same⟩ (RepDs.mono ki (datL_rep e2 rp)))

/-! ## a new list becomes the state's own -/
def own : RV → M RV
  | .sv x => pur (.sv x)
  | .new xs => fun s => .ok (.sv (.ref s.mem.length)) { s with mem := s.mem ++ [some xs] }
theorem ed_own (h : ED X ct W e m) : ED X ct W e (bnd m own) := by
  obtain ⟨t, pt, rt⟩ := h.ex
  refine ⟨_, pt, fun σ H γ s Q R h => ?_⟩
  refine rt σ H γ s _ R (use_e h (fun _ _ z => z) fun r s1 v γ1 H1 t1 R1 r1 g => ?_)
  cases r with
  | sv x => exact g v γ1 H1 t1 R1 r1
  | new xs =>
    obtain ⟨a, vs, rfl, e0, ea, na, rp⟩ := r1
    let γ2 : G := { γ1 with kp := fun j => if j = s1.mem.length then a else γ1.kp j }
    let s2 : S := { s1 with mem := s1.mem ++ [some xs] }
    have kp1 : ∀ k, k < s1.mem.length → γ2.kp k = γ1.kp k := fun k h => if_neg (Nat.ne_of_lt h)
    have kp2 : γ2.kp s1.mem.length = a := if_pos rfl
    have live : ∀ k, Live s2 k → (Live s1 k ∧ γ2.kp k = γ1.kp k) ∨ (k = s1.mem.length ∧ γ2.kp k = a) := fun k ⟨ys, ey⟩ => by
      have ey' : (s1.mem ++ [some xs])[k]? = some (some ys) := ey
      by_cases hk : k < s1.mem.length
      · rw [List.getElem?_append_left hk] at ey'
        exact .inl ⟨⟨ys, ey'⟩, kp1 k hk⟩
      · have hk2 : k < (s1.mem ++ [some xs]).length := (List.getElem?_eq_some_iff.mp ey').1
        simp at hk2
        have : k = s1.mem.length := by omega
        exact .inr ⟨this, by rw [this]; exact kp2⟩
    have own2 : ∀ x, Own γ2 s2 x → Own γ1 s1 x ∨ x = a := fun x z => by
      rcases z with ⟨k, lk, rfl⟩ | z
      · rcases live k lk with ⟨l, q⟩ | ⟨_, q⟩
        · exact .inl (.inl ⟨k, l, q.symm⟩)
        · exact .inr q
      · exact .inl (.inr z)
    have st : Step γ γ2 s s2 H H1 := by
      refine ⟨t1.keep, fun x z => ?_, t1.imm, t1.there, fun k hk => (kp1 k (Nat.lt_of_lt_of_le hk t1.len)).trans (t1.kp k hk), by show s.mem.length ≤ (s1.mem ++ [some xs]).length; have := t1.len; simp; omega, t1.ah, fun k h1 h2 => ?_⟩
      rcases own2 x z with z | z
      · exact t1.own x z
      · rw [z]; exact .inr e0
      · have h3 : k < (s1.mem ++ [some xs]).length := h2
        simp at h3
        by_cases hk : k < s1.mem.length
        · rw [kp1 k hk]; exact t1.fresh k h1 hk
        · have : k = s1.mem.length := by omega
          rw [this, kp2]; exact e0
    have m1 : ∀ {v x}, RepS X.K ct γ1 s1.mem.length H1 v x → RepS X.K ct γ2 s2.mem.length H1 v x := fun {v x} r => by
      cases x with
      | dat d => exact r
      | ref k => exact ⟨by show k < (s1.mem ++ [some xs]).length; have := r.1; simp; omega, by rw [kp1 k r.1]; exact r.2⟩
      | hand => exact r
      | fn c => exact r
    refine g _ γ2 H1 st ⟨R1.len, fun i x ex => ?_, fun k ys ey => ?_, fun i j li lj eij => ?_, fun h eh => R1.hd h eh, fun z k lk => ?_⟩ ⟨by show s1.mem.length < (s1.mem ++ [some xs]).length; simp, by rw [kp2]⟩
    · obtain ⟨v, q, r⟩ := R1.env i x ex
      exact ⟨v, q, m1 r⟩
    · have ey' : (s1.mem ++ [some xs])[k]? = some (some ys) := ey
      by_cases hk : k < s1.mem.length
      · rw [List.getElem?_append_left hk] at ey'
        obtain ⟨us, q, r⟩ := R1.mem k ys ey'
        exact ⟨us, by rw [kp1 k hk]; exact q, Paired.mapP r fun _ _ z => m1 z⟩
      · have hk2 : k < (s1.mem ++ [some xs]).length := (List.getElem?_eq_some_iff.mp ey').1
        simp at hk2
        have hk3 : k = s1.mem.length := by omega
        subst hk3
        simp at ey'
        subst ey'
        exact ⟨vs, by rw [kp2]; exact ea, Paired.mapP rp fun _ _ z => m1 z⟩
    · rcases live i li with ⟨l1, q1⟩ | ⟨l1, q1⟩ <;> rcases live j lj with ⟨l2, q2⟩ | ⟨l2, q2⟩
      · exact R1.inj i j l1 l2 (by rw [← q1, ← q2]; exact eij)
      · exact absurd (.inl ⟨i, l1, by rw [← q1, eij, q2]⟩) na
      · exact absurd (.inl ⟨j, l2, by rw [← q2, ← eij, q1]⟩) na
      · rw [l1, l2]
    · rcases live k lk with ⟨l1, q1⟩ | ⟨l1, q1⟩
      · rw [q1]; exact R1.hdk z k l1
      · rw [q1]
        exact ⟨fun y => na (.inr ⟨z, .inl y⟩), fun y => na (.inr ⟨z, .inr y⟩)⟩
end
end Fd
set_option Elab.async false
set_option linter.all false
set_option maxRecDepth 100000
set_option maxHeartbeats 4000000
namespace Fd
open PySem PySem.Spec PyProof.Rows L2
abbrev RD (d : D) : RV := .sv (.dat d)
abbrev RI (i : Int) : RV := .sv (.dat (.int i))
abbrev RB (b : Bool) : RV := .sv (.dat (.bl b))
abbrev RT (ds : List D) : RV := .sv (.dat (.tup ds))
abbrev RS (x : Str) : RV := .sv (.dat (.str x))
abbrev RN : RV := .sv (.dat .non)

/-! ## data for == -/
mutual
def D.py : D → PyData
  | .non => .none
  | .bl b => .bool b
  | .int i => .int i
  | .str x => .str x
  | .tup ds => .tuple (D.pys ds)
  | .lst ds => .list (D.pys ds)
  | .obj _ _ => .dict []
  | .dct _ => .dict []
  | .dcp _ => .dict []
def D.pys : List D → List PyData
  | [] => []
  | d :: ds => D.py d :: D.pys ds
end
def okD (d : D) : Bool := SeqAt.shaped d.py
def eqD (d e : D) : Bool := PyData.eqv d.py e.py
theorem lim_ok {n : Nat} (h : n ≤ 100000) : n ≤ sizeLine := Nat.le_trans h (by decide)
section
variable {K : PySem.W.Frag} {ct : Nat → Addr} {W : WX} {γ γ1 : G} {s s1 : S} {H H0 H1 : Hp} {σ : L2.St}
mutual
theorem dp_of : ∀ (d : D) {v : V}, d.py.canLay0 = true → RepD K ct H v d → Dp K H v d.py
  | .non, _, _, .non => .non
  | .bl b, _, _, .bl _ => .bl b
  | .int i, _, _, .int _ => .int i
  | .str x, _, _, .str _ => .str x
  | .tup ds, _, h, .tup q r => by
    have h' : PyData.canLayAll0 (D.pys ds) = true := by simpa [D.py, PyData.canLay0] using h
    have := dps_of ds h' r
    exact .tup q this
  | .lst ds, _, h, .lst q r => by
    have h' : PyData.canLayAll0 (D.pys ds) = true := by simpa [D.py, PyData.canLay0] using h
    have := dps_of ds h' r
    exact .lst q.sq this
  | .obj _ _, _, h, _ => by simp [D.py, PyData.canLay0] at h
  | .dct _, _, h, _ => by simp [D.py, PyData.canLay0] at h
  | .dcp _, _, h, _ => by simp [D.py, PyData.canLay0] at h
theorem dps_of : ∀ (ds : List D) {vs : List V}, PyData.canLayAll0 (D.pys ds) = true → RepDs K ct H vs ds → DpAll K H vs (D.pys ds)
  | [], _, _, .nil => .nil
  | d :: ds, _, h, .cons r t => by
    have h' : d.py.canLay0 = true ∧ PyData.canLayAll0 (D.pys ds) = true := by simpa [D.pys, PyData.canLayAll0] using h
    exact .cons (dp_of d h'.1 r) (dps_of ds h'.2 t)
end

/-! ## what a value is in a state -/
def deep (s : S) : RV → Option D
  | .sv (.dat d) => some d
  | .sv (.ref k) => match s.mem[k]? with
    | some (some xs) => match datL xs with
      | some ds => some (.lst ds)
      | none => none
    | _ => none
  | .sv .hand => none
  | .sv (.fn _) => none
  | .new xs => match datL xs with
    | some ds => some (.lst ds)
    | none => none
def seqL (s : S) : RV → Option (List SV)
  | .sv (.dat (.lst ds)) => some (ds.map SV.dat)
  | .sv (.ref k) => match s.mem[k]? with
    | some (some xs) => some xs
    | _ => none
  | .new xs => some xs
  | _ => none
theorem seqL_rd (R : Rep K ct γ H σ s) {r : RV} {v : V} {xs : List SV} (e : seqL s r = some xs) (q : RepR K ct γ s H0 H v r) : ∃ a vs, v = .ref a ∧ Rd H a (.lst vs) ∧ Paired (RepS K ct γ s.mem.length H) vs xs := by
  cases r with
  | new ys =>
    obtain ⟨a, vs, rfl, _, ea, _, p⟩ := q
    cases e
    exact ⟨a, vs, rfl, .inl ea, p⟩
  | sv x =>
    cases x with
    | hand => cases e
    | fn c => cases e
    | ref k =>
      have q' : k < s.mem.length ∧ v = .ref (γ.kp k) := q
      unfold seqL at e
      cases h : s.mem[k]? with
      | none => simp only [h] at e; cases e
      | some o =>
        cases o with
        | none => simp only [h] at e; cases e
        | some ys =>
          simp only [h] at e
          cases e
          obtain ⟨vs, ek, p⟩ := R.mem k _ h
          exact ⟨_, vs, q'.2, .inl ek, p⟩
    | dat d =>
      cases d with
      | lst ds =>
        cases e
        have q' : RepD K ct H v (.lst ds) := q
        cases q' with
        | lst hq r => exact ⟨_, _, rfl, hq.rd, rep_map r⟩
      | _ => cases e
theorem seqL_rep (R : Rep K ct γ H σ s) {r : RV} {v : V} {xs : List SV} (e : seqL s r = some xs) (q : RepR K ct γ s H0 H v r) : ∃ a vs, v = .ref a ∧ SqL K H a vs ∧ Paired (RepS K ct γ s.mem.length H) vs xs := by
  obtain ⟨a, vs, e1, h, p⟩ := seqL_rd R e q
  exact ⟨a, vs, e1, .inl h, p⟩
theorem tup_rep {v : V} {ds : List D} (q : RepR K ct γ s H0 H v (RT ds)) : ∃ a vs, v = .ref a ∧ SqT K H a vs ∧ RepDs K ct H vs ds := by
  have q' : RepD K ct H v (.tup ds) := q
  cases q' with
  | tup hq r => exact ⟨_, _, rfl, hq, r⟩
theorem deep_dp (R : Rep K ct γ H σ s) {r : RV} {v : V} {d : D} (e : deep s r = some d) (c : d.py.canLay0 = true) (q : RepR K ct γ s H0 H v r) : Dp K H v d.py := by
  have fin : ∀ {xs : List SV} {ds : List D}, seqL s r = some xs → datL xs = some ds → d = .lst ds → Dp K H v d.py := fun {xs ds} e1 e2 e3 => by
    obtain ⟨a, vs, rfl, hq, p⟩ := seqL_rep R e1 q
    subst e3
    have h' : PyData.canLayAll0 (D.pys ds) = true := by simpa [D.py, PyData.canLay0] using c
    exact .lst hq (dps_of ds h' (datL_rep e2 p))
  cases r with
  | new ys =>
    unfold deep at e
    cases h : datL ys with
    | none => simp only [h] at e; cases e
    | some ds => simp only [h] at e; cases e; exact fin rfl h rfl
  | sv x =>
    cases x with
    | hand => cases e
    | fn c => cases e
    | dat d' => cases e; exact dp_of _ c q
    | ref k =>
      unfold deep at e
      cases h : s.mem[k]? with
      | none => simp only [h] at e; cases e
      | some o =>
        cases o with
        | none => simp only [h] at e; cases e
        | some ys =>
          simp only [h] at e
          cases h2 : datL ys with
          | none => simp only [h2] at e; cases e
          | some ds => simp only [h2] at e; cases e; exact fin (by unfold seqL; simp only [h]) h2 rfl
theorem rep_int {v : V} {i : Int} (q : RepR K ct γ s H0 H v (RI i)) : v = .int i := by
  have q' : RepD K ct H v (.int i) := q
  cases q'; rfl
theorem rep_str {v : V} {x : Str} (q : RepR K ct γ s H0 H v (RS x)) : v = .str x := by
  have q' : RepD K ct H v (.str x) := q
  cases q'; rfl
theorem rep_bl {v : V} {b : Bool} (q : RepR K ct γ s H0 H v (RB b)) : v = .bl b := by
  have q' : RepD K ct H v (.bl b) := q
  cases q'; rfl
/-- a new list, a new tuple -/
theorem good_new {xs : List SV} {vs : List V} {Q : VK} (R : Rep K ct γ H σ s) (p : Paired (RepS K ct γ s.mem.length H) vs xs) (g : Good K ct W σ γ s H (.ok (.new xs) s) Q) : ∀ a, H a = none → Q (.ref a) (upd H a (.lst vs)) := fun a ha =>
  g _ γ _ (Step.laid ha) (R.laid ha) ⟨a, vs, rfl, ha, upd_same, R.notOwn_free ha, RepSs.mono (Step.laid ha) p⟩
theorem good_tup {ds : List D} {vs : List V} {Q : VK} (R : Rep K ct γ H σ s) (p : RepDs K ct H vs ds) (g : Good K ct W σ γ s H (.ok (RT ds) s) Q) : ∀ a, H a = none → Q (.ref a) (upd H a (.tup vs)) := fun a ha =>
  g _ γ _ (Step.laid ha) (R.laid ha) (.tup (SqT.of upd_same) (RepDs.mono (keepI_new ha) p))
theorem good_ok {r : RV} {v : V} {Q : VK} (R : Rep K ct γ H σ s) (q : RepR K ct γ s H H v r) (g : Good K ct W σ γ s H (.ok r s) Q) : Q v H := g v γ H Step.refl R q
theorem RepDs.appendS {vs us : List V} {xs ys : List SV} {n : Nat} (r : Paired (RepS K ct γ n H) vs xs) (q : Paired (RepS K ct γ n H) us ys) : Paired (RepS K ct γ n H) (vs ++ us) (xs ++ ys) := by
  induction r with
  | nil => exact q
  | cons h t ih => exact .cons h ih
theorem paired_get {n : Nat} : ∀ {xs : List SV} {vs : List V} {i : Nat} {x : SV}, Paired (RepS K ct γ n H) vs xs → xs[i]? = some x → ∃ v, vs[i]? = some v ∧ RepS K ct γ n H v x := by
  intro xs
  induction xs with
  | nil => intro vs i x _ e; simp at e
  | cons y ys ih =>
    intro vs i x h e
    cases h with
    | cons r t =>
      cases i with
      | zero => simp at e; subst e; exact ⟨_, rfl, r⟩
      | succ i => simp at e; obtain ⟨v, q, r'⟩ := ih t e; exact ⟨v, by simpa using q, r'⟩
theorem atI_rep {n : Nat} {xs : List SV} {vs : List V} {i : Int} {x : SV} (p : Paired (RepS K ct γ n H) vs xs) (e : atI xs i = some x) : ∃ v, atI vs i = some v ∧ RepS K ct γ n H v x := by
  unfold atI at e ⊢
  have hl : vs.length = xs.length := Paired.length p
  rw [hl]
  cases h : ixN xs.length i with
  | none => rw [h] at e; cases e
  | some j => rw [h] at e; exact paired_get p e
end

/-! ## names, constants -/
def getV (i : Nat) : M RV := fun s => match s.env[i]? with
  | some (some x) => .ok (.sv x) s
  | _ => .bad
section
variable {X : Cx} {ct : Nat → Addr} {W : WX} {pos : Pos}
theorem ed_name (i : Nat) {x : Str} (hp : PE X (.Name x pos) (tVar i)) : ED X ct W (.Name x pos) (getV i) := by
  refine ⟨_, hp, fun σ H γ s Q R h => ?_⟩
  unfold getV at h
  cases e : s.env[i]? with
  | none => simp only [e] at h; exact False.elim h
  | some o =>
    cases o with
    | none => simp only [e] at h; exact False.elim h
    | some y =>
      simp only [e] at h
      obtain ⟨v, q, r⟩ := R.env i y e
      exact ⟨v, q, good_ok (r := .sv y) R r h⟩
theorem ed_c {e : Expr} {v : V} {d : D} (hp : PE X e (tC v)) (hd : ∀ H, RepD X.K ct H v d) : ED X ct W e (pur (RD d)) :=
  ⟨_, hp, fun σ H γ s Q R h => good_ok (r := RD d) R (hd H) h⟩
theorem ed_int {i : Int} {j : Nat} : ED X ct W (.Constant (.int i) j pos) (pur (RI i)) := ed_c pe_int fun _ => .int i
theorem ed_bl {b : Bool} {j : Nat} : ED X ct W (.Constant (.bool b) j pos) (pur (RB b)) := ed_c pe_bl fun _ => .bl b
theorem ed_non {j : Nat} : ED X ct W (.Constant .none j pos) (pur RN) := ed_c pe_non fun _ => .non
theorem ed_str {x : Str} {j : Nat} : ED X ct W (.Constant (.str x) j pos) (pur (RS x)) := ed_c pe_str fun _ => .str x

/-! ## two operands -/
def BinOk (X : Cx) (ct : Nat → Addr) (r : R2) (f : RV → RV → M RV) : Prop := ∀ (W : WX) (σ : L2.St) (γ : G) (s : S) (H Ha Hb : Hp) (x y : V) (r1 r2 : RV) (Q : VK), Rep X.K ct γ H σ s → RepR X.K ct γ s Ha H x r1 → RepR X.K ct γ s Hb H y r2 → Good X.K ct W σ γ s H (f r1 r2 s) Q → r x y H Q
def UnOk (X : Cx) (ct : Nat → Addr) (r : V → Hp → VK → Prop) (f : RV → M RV) : Prop := ∀ (W : WX) (σ : L2.St) (γ : G) (s : S) (H Ha : Hp) (x : V) (r1 : RV) (Q : VK), Rep X.K ct γ H σ s → RepR X.K ct γ s Ha H x r1 → Good X.K ct W σ γ s H (f r1 s) Q → r x H Q
def m2 (ma mb : M RV) (f : RV → RV → M RV) : M RV := bnd ma fun x => bnd mb fun y => f x y
theorem sem2 {r : R2} {f : RV → RV → M RV} (hf : BinOk X ct r f) {ta tb : TE} {ma mb : M RV} (ra : ∀ σ H γ s Q, Rep X.K ct γ H σ s → Good X.K ct W σ γ s H (ma s) Q → ta σ H Q) (rb : ∀ σ H γ s Q, Rep X.K ct γ H σ s → Good X.K ct W σ γ s H (mb s) Q → tb σ H Q)
    {σ : L2.St} {H : Hp} {γ : G} {s : S} {Q : VK} (R : Rep X.K ct γ H σ s) (h : Good X.K ct W σ γ s H (m2 ma mb f s) Q) : tOp r ta tb σ H Q := by
  refine ra σ H γ s _ R (use_e h (fun _ _ z => z) fun r1 s1 v γ1 H1 t1 R1 q1 g1 => ?_)
  have g1' : Good X.K ct W σ γ1 s1 H1 (bnd mb (fun y => f r1 y) s1) Q := Good.step t1 g1
  refine rb σ H1 γ1 s1 _ R1 (use_e g1' (fun _ _ z => z) fun r2 s2 u γ2 H2 t2 R2 q2 g2 => ?_)
  exact hf W σ γ2 s2 H2 _ _ v u r1 r2 Q R2 (q1.mono t2) q2 (Good.step t2 g2)
variable {a b : Expr} {ma mb : M RV}
theorem ed_bin {op : Operator} {r : R2} {f : RV → RV → M RV} (ho : OpR X (binaryOp op) r) (hf : BinOk X ct r f) (ha : ED X ct W a ma) (hb : ED X ct W b mb) : ED X ct W (.BinOp a op b pos) (m2 ma mb f) := by
  obtain ⟨ta, pa, ra⟩ := ha.ex
  obtain ⟨tb, pb, rb⟩ := hb.ex
  exact ⟨_, pe_op ho pa pb, fun σ H γ s Q R h => sem2 hf ra rb R h⟩
theorem ed_cmp {op : CmpOp} {r : R2} {f : RV → RV → M RV} (ho : OpR X (compareOp op) r) (hf : BinOk X ct r f) (ha : ED X ct W a ma) (hb : ED X ct W b mb) (hm : behindInMarks op b = false) : ED X ct W (.Compare a [op] [b] pos) (m2 ma mb f) := by
  obtain ⟨ta, pa, ra⟩ := ha.ex
  obtain ⟨tb, pb, rb⟩ := hb.ex
  exact ⟨_, pe_cmpR ho pa pb hm, fun σ H γ s Q R h => sem2 hf ra rb R h⟩
theorem ed_ix {r : R2} {f : RV → RV → M RV} (ho : IxR X r) (hf : BinOk X ct r f) (ha : ED X ct W a ma) (hb : ED X ct W b mb) (hs : PlainIx b) : ED X ct W (.Subscript a b pos) (m2 ma mb f) := by
  obtain ⟨ta, pa, ra⟩ := ha.ex
  obtain ⟨tb, pb, rb⟩ := hb.ex
  exact ⟨_, pe_ix ho pa pb hs, fun σ H γ s Q R h => sem2 hf ra rb R h⟩
theorem ed_un {op : UnaryOp} {r : V → Hp → VK → Prop} {f : RV → M RV} (ho : UnR X (unaryOp op) r) (hf : UnOk X ct r f) (ha : ED X ct W a ma) : ED X ct W (.UnaryOp op a pos) (bnd ma f) := by
  obtain ⟨ta, pa, ra⟩ := ha.ex
  refine ⟨_, pe_un ho pa, fun σ H γ s Q R h => ?_⟩
  refine ra σ H γ s _ R (use_e h (fun _ _ z => z) fun r1 s1 v γ1 H1 t1 R1 q1 g1 => ?_)
  exact hf W σ γ1 s1 H1 _ v r1 Q R1 q1 (Good.step t1 g1)

/-! ## ints -/
def int2 (g : Int → Int → RV) : RV → RV → M RV
  | .sv (.dat (.int i)), .sv (.dat (.int j)) => pur (g i j)
  | _, _ => stuck
def int2g (C : Int → Int → Bool) (g : Int → Int → RV) : RV → RV → M RV
  | .sv (.dat (.int i)), .sv (.dat (.int j)) => fun s => if C i j = true then .ok (g i j) s else .bad
  | _, _ => stuck
theorem int2_ok {g : Int → Int → V} {g' : Int → Int → RV} (hg : ∀ i j K ct γ s H, RepR K ct γ s H H (g i j) (g' i j)) : BinOk X ct (rI0 g) (int2 g') := by
  intro W σ γ s H Ha Hb x y r1 r2 Q R q1 q2 h
  unfold int2 at h
  split at h
  · rename_i i j
    exact ⟨i, j, rep_int q1, rep_int q2, good_ok R (hg ..) h⟩
  · exact False.elim h
theorem int2g_ok {C : Int → Int → Prop} {Cb : Int → Int → Bool} {g : Int → Int → V} {g' : Int → Int → RV} (hC : ∀ i j, Cb i j = true → C i j) (hg : ∀ i j K ct γ s H, RepR K ct γ s H H (g i j) (g' i j)) : BinOk X ct (rI C g) (int2g Cb g') := by
  intro W σ γ s H Ha Hb x y r1 r2 Q R q1 q2 h
  unfold int2g at h
  split at h
  · rename_i i j
    by_cases c : Cb i j = true
    · rw [if_pos c] at h
      exact ⟨i, j, rep_int q1, rep_int q2, hC i j c, good_ok R (hg ..) h⟩
    · rw [if_neg c] at h
      exact False.elim h
  · exact False.elim h
theorem repI {K : PySem.W.Frag} {ct : Nat → Addr} {γ : G} {s : S} {H : Hp} (i : Int) : RepR K ct γ s H H (.int i) (RI i) := RepD.int i
theorem repB {K : PySem.W.Frag} {ct : Nat → Addr} {γ : G} {s : S} {H : Hp} (i : Bool) : RepR K ct γ s H H (.bl i) (RB i) := RepD.bl i
def subM : RV → RV → M RV := int2 fun i j => RI (i - j)
def ltM : RV → RV → M RV := int2 fun i j => RB (decide (i < j))
def leM : RV → RV → M RV := int2 fun i j => RB (decide (i ≤ j))
def gtM : RV → RV → M RV := int2 fun i j => RB (decide (j < i))
def geM : RV → RV → M RV := int2 fun i j => RB (decide (j ≤ i))
theorem ed_sub (ha : ED X ct W a ma) (hb : ED X ct W b mb) : ED X ct W (.BinOp a .Sub b pos) (m2 ma mb subM) := ed_bin op_sub (int2_ok fun i j _ _ _ _ _ => repI _) ha hb
theorem ed_lt (ha : ED X ct W a ma) (hb : ED X ct W b mb) : ED X ct W (.Compare a [.Lt] [b] pos) (m2 ma mb ltM) := ed_cmp op_lt (int2_ok fun i j _ _ _ _ _ => repB _) ha hb (nomark _)
theorem ed_le (ha : ED X ct W a ma) (hb : ED X ct W b mb) : ED X ct W (.Compare a [.LtE] [b] pos) (m2 ma mb leM) := ed_cmp op_le (int2_ok fun i j _ _ _ _ _ => repB _) ha hb (nomark _)
theorem ed_gt (ha : ED X ct W a ma) (hb : ED X ct W b mb) : ED X ct W (.Compare a [.Gt] [b] pos) (m2 ma mb gtM) := ed_cmp op_gt (int2_ok fun i j _ _ _ _ _ => repB _) ha hb (nomark _)
theorem ed_ge (ha : ED X ct W a ma) (hb : ED X ct W b mb) : ED X ct W (.Compare a [.GtE] [b] pos) (m2 ma mb geM) := ed_cmp op_ge (int2_ok fun i j _ _ _ _ _ => repB _) ha hb (nomark _)
def negM : RV → M RV
  | .sv (.dat (.int i)) => pur (RI (-i))
  | _ => stuck
theorem ed_neg (ha : ED X ct W a ma) : ED X ct W (.UnaryOp .USub a pos) (bnd ma negM) := by
  refine ed_un un_neg (fun W σ γ s H Ha x r1 Q R q1 h => ?_) ha
  unfold negM at h
  split at h
  · rename_i i
    exact ⟨i, rep_int q1, good_ok R (repI _) h⟩
  · exact False.elim h
/-! * // % ** -/
def mulC (i j : Int) : Bool := decide (i.natAbs.log2 + j.natAbs.log2 < 100000000)
def divC (i j : Int) : Bool := decide (j ≠ 0 ∧ j.natAbs.log2 < 9000)
def modC (_ j : Int) : Bool := decide (j ≠ 0)
def powC (i j : Int) : Bool := decide (0 ≤ j ∧ j ≤ 1000 ∧ i.natAbs < 2 ^ 64)
theorem mulC_ok {i j : Int} (h : mulC i j = true) : IntMulOk i j := by
  have b : ∀ x : Int, Builtin.Int.intBits x ≤ x.natAbs.log2 + 1 := fun x => by
    unfold Builtin.Int.intBits
    split <;> omega
  have h1 := b i
  have h2 := b j
  have h3 : i.natAbs.log2 + j.natAbs.log2 < 100000000 := of_decide_eq_true h
  have e : bitsLine = 134217728 := by decide
  unfold IntMulOk
  intro z
  rw [Bool.and_eq_true] at z
  have z2 := z.2
  unfold Builtin.Int.intTooBig at z2
  have z3 := of_decide_eq_true z2
  rw [e] at z3
  omega
theorem op_mulF : OpR X (binaryOp .Mult) (rI IntMulOk fun i j => .int (i * j)) := opI fun _ _ _ _ _ _ _ hc q => mul_int q hc
theorem op_divF : OpR X (binaryOp .FloorDiv) (rI (fun _ j => j ≠ 0 ∧ j.natAbs.log2 < 9000) fun i j => .int (i.fdiv j)) := opI fun i j _ _ _ _ _ hc q => floordiv_int hc.1 q (.inl (PyProof.noPylong_of_log2 hc.2))
def mulI : RV → RV → M RV := int2g mulC fun i j => RI (i * j)
def divM : RV → RV → M RV := int2g divC fun i j => RI (i.fdiv j)
def modM : RV → RV → M RV := int2g modC fun i j => RI (i.fmod j)
def powM : RV → RV → M RV := int2g powC fun i j => RI (i ^ j.toNat)
theorem ed_mulI (ha : ED X ct W a ma) (hb : ED X ct W b mb) : ED X ct W (.BinOp a .Mult b pos) (m2 ma mb mulI) := ed_bin op_mulF (int2g_ok (fun i j h => mulC_ok h) fun i j _ _ _ _ _ => repI _) ha hb
theorem ed_div (ha : ED X ct W a ma) (hb : ED X ct W b mb) : ED X ct W (.BinOp a .FloorDiv b pos) (m2 ma mb divM) := ed_bin op_divF (int2g_ok (fun i j h => of_decide_eq_true h) fun i j _ _ _ _ _ => repI _) ha hb
theorem ed_mod (ha : ED X ct W a ma) (hb : ED X ct W b mb) : ED X ct W (.BinOp a .Mod b pos) (m2 ma mb modM) := ed_bin op_modN (int2g_ok (fun i j h => of_decide_eq_true h) fun i j _ _ _ _ _ => repI _) ha hb
theorem ed_pow (ha : ED X ct W a ma) (hb : ED X ct W b mb) : ED X ct W (.BinOp a .Pow b pos) (m2 ma mb powM) := ed_bin op_pow (int2g_ok (fun i j h => by
  have := of_decide_eq_true h
  exact ⟨this.1, by omega, this.2.2⟩) fun i j _ _ _ _ _ => repI _) ha hb
end
end Fd
set_option Elab.async false
set_option linter.all false
set_option maxRecDepth 100000
set_option maxHeartbeats 4000000
namespace Fd
open PySem PySem.Spec PyProof.Rows L2
/-! ## truth -/
def trB (s : S) : RV → Option Bool
  | .sv (.dat .non) => some false
  | .sv (.dat (.bl b)) => some b
  | .sv (.dat (.int i)) => some (i != 0)
  | .sv (.dat (.str x)) => if x.length ≤ 100000 then some ((x.length : Int) != 0) else none
  | .sv (.dat (.tup ds)) => some (!ds.isEmpty)
  | r => match seqL s r with
    | some xs => some (!xs.isEmpty)
    | none => none
def truthM (r : RV) : M Bool := fun s => match trB s r with
  | some b => .ok b s
  | none => .bad
section
variable {K : PySem.W.Frag} {ct : Nat → Addr} {W : WX} {γ γ1 : G} {s s1 : S} {H H0 H1 : Hp} {σ : L2.St}
theorem isEmpty_rep {n : Nat} {vs : List V} {xs : List SV} (p : Paired (RepS K ct γ n H) vs xs) : (!xs.isEmpty) = !vs.isEmpty := by cases p <;> rfl
theorem isEmpty_reps {vs : List V} {ds : List D} (p : RepDs K ct H vs ds) : (!ds.isEmpty) = !vs.isEmpty := by cases p <;> rfl
theorem trB_rep (R : Rep K ct γ H σ s) {r : RV} {v : V} {b : Bool} (e : trB s r = some b) (q : RepR K ct γ s H0 H v r) : TruV K v H b := by
  have fin : ∀ {xs : List SV}, seqL s r = some xs → b = !xs.isEmpty → TruV K v H b := fun {xs} e1 e2 => by
    obtain ⟨a, vs, rfl, hq, p⟩ := seqL_rep R e1 q
    exact .inl ⟨vs, hq, by rw [e2]; exact isEmpty_rep p⟩
  have fin2 : (match seqL s r with | some xs => some (!xs.isEmpty) | none => none) = some b → TruV K v H b := fun e2 => by
    cases h : seqL s r with
    | none => rw [h] at e2; cases e2
    | some xs => rw [h] at e2; cases e2; exact fin h rfl
  cases r with
  | new xs => exact fin2 e
  | sv x =>
    cases x with
    | hand => exact fin2 e
    | fn c => exact fin2 e
    | ref k => exact fin2 e
    | dat d =>
      cases d with
      | non => cases e; have q' : RepD K ct H v .non := q; cases q'; rfl
      | bl c => cases e; rw [rep_bl q]; rfl
      | int i => cases e; rw [rep_int q]; rfl
      | str y =>
        rw [rep_str q]
        unfold trB at e
        by_cases h : y.length ≤ 100000
        · simp only [h, if_true] at e
          cases e
          exact ⟨lim_ok h, rfl⟩
        · simp only [h, if_false] at e
          cases e
      | tup ds =>
        cases e
        obtain ⟨a, vs, rfl, hq, p⟩ := tup_rep q
        exact .inr (.inl ⟨vs, hq, isEmpty_reps p⟩)
      | lst ds => exact fin2 e
      | obj c ds => exact fin2 e
      | dct kds => exact fin2 e
      | dcp kds => exact fin2 e
end
section
variable {X : Cx} {ct : Nat → Addr} {W : WX} {pos : Pos} {a b e : Expr} {ma mb m : M RV} {rest : List Expr}
theorem td_truth (h : ED X ct W e m) (he : ∀ whole, isTrue e X.env whole = (do let v ← whole; standAt e.pos; holding [v] (truthy v)) := by intro _; rfl) : TD X ct W e (bnd m truthM) := by
  obtain ⟨t, pt, rt⟩ := h.ex
  refine ⟨_, pt_truth pt he, fun σ H γ s Q R h => ?_⟩
  refine rt σ H γ s _ R (use_e h (fun _ _ z => z) fun r s1 v γ1 H1 t1 R1 r1 g => ?_)
  unfold truthM at g
  cases h1 : trB s1 r with
  | none => simp only [h1] at g; exact False.elim g
  | some c => simp only [h1] at g; exact ⟨c, trB_rep R1 h1 r1, g γ1 H1 t1 R1⟩
def asB : RV → M Bool
  | .sv (.dat (.bl b)) => pur b
  | _ => stuck
theorem td_cmp {op : CmpOp} {r : R2} {f : RV → RV → M RV} (ho : OpR X (compareOp op) r) (hf : BinOk X ct r f) (ha : ED X ct W a ma) (hb : ED X ct W b mb) (hm : behindInMarks op b = false) : TD X ct W (.Compare a [op] [b] pos) (bnd (m2 ma mb f) asB) := by
  obtain ⟨ta, pa, ra⟩ := ha.ex
  obtain ⟨tb, pb, rb⟩ := hb.ex
  refine ⟨_, pt_cmpR ho pa pb hm, fun σ H γ s Q R h => ?_⟩
  have h' : Good X.K ct W σ γ s H (m2 ma mb f s) (fun x H' => ∃ k, x = .bl k ∧ Q k H') := use_e h (fun _ _ z => z) fun r s1 v γ1 H1 t1 R1 r1 g => by
    unfold asB at g
    split at g
    · exact ⟨_, rep_bl r1, g γ1 H1 t1 R1⟩
    · exact False.elim g
  exact sem2 hf ra rb R h'
/-! ## and, or, not as tests -/
structure WD (X : Cx) (ct : Nat → Addr) (W : WX) (e : Expr) (m : M Bool) : Prop where
  ex : ∃ t, PW X e t ∧ ∀ σ H γ s Q, Rep X.K ct γ H σ s → GoodT X.K ct W σ γ s H (m s) Q → t σ H Q
variable {ta tb : M Bool}
theorem WD.td (h : WD X ct W e ta) : TD X ct W e ta := by
  obtain ⟨t, p, r⟩ := h.ex
  exact ⟨t, p.pt, r⟩
theorem wd_and1 (h : TD X ct W a ta) : WD X ct W (.BoolOp .And [a] pos) ta := by
  obtain ⟨t, p, r⟩ := h.ex
  exact ⟨t, pw_and1 p, r⟩
theorem wd_or1 (h : TD X ct W a ta) : WD X ct W (.BoolOp .Or [a] pos) ta := by
  obtain ⟨t, p, r⟩ := h.ex
  exact ⟨t, pw_or1 p, r⟩
def andT (ta tb : M Bool) : M Bool := bnd ta fun b => if b = true then tb else pur false
def orT (ta tb : M Bool) : M Bool := bnd ta fun b => if b = true then pur true else tb
theorem wd_and (ha : TD X ct W a ta) (hb : WD X ct W (.BoolOp .And (b :: rest) pos) tb) : WD X ct W (.BoolOp .And (a :: b :: rest) pos) (andT ta tb) := by
  obtain ⟨t, p, r⟩ := ha.ex
  obtain ⟨t2, p2, r2⟩ := hb.ex
  refine ⟨_, pw_and p p2, fun σ H γ s Q R h => ?_⟩
  refine r σ H γ s _ R (use_t h (fun _ _ z => z) fun b s1 γ1 H1 t1 R1 g => ?_)
  cases b with
  | true => exact r2 σ H1 γ1 s1 Q R1 (GoodT.step t1 g)
  | false => exact g γ1 H1 t1 R1
theorem wd_or (ha : TD X ct W a ta) (hb : WD X ct W (.BoolOp .Or (b :: rest) pos) tb) : WD X ct W (.BoolOp .Or (a :: b :: rest) pos) (orT ta tb) := by
  obtain ⟨t, p, r⟩ := ha.ex
  obtain ⟨t2, p2, r2⟩ := hb.ex
  refine ⟨_, pw_or p p2, fun σ H γ s Q R h => ?_⟩
  refine r σ H γ s _ R (use_t h (fun _ _ z => z) fun b s1 γ1 H1 t1 R1 g => ?_)
  cases b with
  | true => exact g γ1 H1 t1 R1
  | false => exact r2 σ H1 γ1 s1 Q R1 (GoodT.step t1 g)
def notT (ta : M Bool) : M Bool := bnd ta fun b => pur (!b)
theorem td_not (h : TD X ct W a ta) : TD X ct W (.UnaryOp .Not a pos) (notT ta) := by
  obtain ⟨t, p, r⟩ := h.ex
  refine ⟨_, pt_not p, fun σ H γ s Q R h => ?_⟩
  exact r σ H γ s _ R (use_t h (fun _ _ z => z) fun b s1 γ1 H1 t1 R1 g => g γ1 H1 t1 R1)
/-! ## .. as values -/
def orV (ma mb : M RV) : M RV := bnd ma fun x s => match trB s x with
  | some true => .ok x s
  | some false => mb s
  | none => .bad
def andV (ma mb : M RV) : M RV := bnd ma fun x s => match trB s x with
  | some true => mb s
  | some false => .ok x s
  | none => .bad
def notM (r : RV) : M RV := fun s => match trB s r with
  | some b => .ok (RB (!b)) s
  | none => .bad
theorem ed_one {op : BoolOp} (h : ED X ct W a ma) : ED X ct W (.BoolOp op [a] pos) ma := by
  obtain ⟨t, p, r⟩ := h.ex
  exact ⟨t, pe_one p, r⟩
theorem ed_or (ha : ED X ct W a ma) (hb : ED X ct W (.BoolOp .Or (b :: rest) pos) mb) : ED X ct W (.BoolOp .Or (a :: b :: rest) pos) (orV ma mb) := by
  obtain ⟨t, p, r⟩ := ha.ex
  obtain ⟨t2, p2, r2⟩ := hb.ex
  refine ⟨_, pe_orT p p2, fun σ H γ s Q R h => ?_⟩
  refine r σ H γ s _ R (use_e h (fun _ _ z => z) fun x s1 v γ1 H1 t1 R1 q1 g => ?_)
  cases h1 : trB s1 x with
  | none => simp only [h1] at g; exact False.elim g
  | some c =>
    simp only [h1] at g
    refine ⟨c, trB_rep R1 h1 q1, ?_⟩
    cases c with
    | true => exact g v γ1 H1 t1 R1 q1
    | false => exact r2 σ H1 γ1 s1 Q R1 (Good.step t1 g)
theorem ed_and (ha : ED X ct W a ma) (hb : ED X ct W (.BoolOp .And (b :: rest) pos) mb) : ED X ct W (.BoolOp .And (a :: b :: rest) pos) (andV ma mb) := by
  obtain ⟨t, p, r⟩ := ha.ex
  obtain ⟨t2, p2, r2⟩ := hb.ex
  refine ⟨_, pe_andT p p2, fun σ H γ s Q R h => ?_⟩
  refine r σ H γ s _ R (use_e h (fun _ _ z => z) fun x s1 v γ1 H1 t1 R1 q1 g => ?_)
  cases h1 : trB s1 x with
  | none => simp only [h1] at g; exact False.elim g
  | some c =>
    simp only [h1] at g
    refine ⟨c, trB_rep R1 h1 q1, ?_⟩
    cases c with
    | true => exact r2 σ H1 γ1 s1 Q R1 (Good.step t1 g)
    | false => exact g v γ1 H1 t1 R1 q1
theorem ed_not (ha : ED X ct W a ma) : ED X ct W (.UnaryOp .Not a pos) (bnd ma notM) := by
  obtain ⟨t, p, r⟩ := ha.ex
  refine ⟨_, pe_notT p, fun σ H γ s Q R h => ?_⟩
  refine r σ H γ s _ R (use_e h (fun _ _ z => z) fun x s1 v γ1 H1 t1 R1 q1 g => ?_)
  unfold notM at g
  cases h1 : trB s1 x with
  | none => simp only [h1] at g; exact False.elim g
  | some c =>
    simp only [h1] at g
    exact ⟨c, trB_rep R1 h1 q1, g _ γ1 H1 t1 R1 (repB _)⟩
def ifE (tc : M Bool) (ma mb : M RV) : M RV := bnd tc fun b => if b = true then ma else mb
theorem ed_if {c : Expr} (hc : TD X ct W c ta) (ha : ED X ct W a ma) (hb : ED X ct W b mb) : ED X ct W (.IfExp c a b pos) (ifE ta ma mb) := by
  obtain ⟨t, p, r⟩ := hc.ex
  obtain ⟨t1, p1, r1⟩ := ha.ex
  obtain ⟨t2, p2, r2⟩ := hb.ex
  refine ⟨_, pe_ifExp p p1 p2, fun σ H γ s Q R h => ?_⟩
  refine r σ H γ s _ R (use_t h (fun _ _ z => z) fun b s1 γ1 H1 t1 R1 g => ?_)
  cases b with
  | true => exact r1 σ H1 γ1 s1 Q R1 (Good.step t1 g)
  | false => exact r2 σ H1 γ1 s1 Q R1 (Good.step t1 g)
/-! ## comparisons of data -/
def cmpC (i j : Int) : Bool := true
def eqM (x y : RV) : M RV := fun s => match deep s x, deep s y with
  | some d, some e => if okD d = true then if okD e = true then .ok (RB (eqD d e)) s else .bad else .bad
  | _, _ => .bad
def neM (x y : RV) : M RV := fun s => match deep s x, deep s y with
  | some d, some e => if okD d = true then if okD e = true then .ok (RB (!eqD d e)) s else .bad else .bad
  | _, _ => .bad
theorem eqM_ok : BinOk X ct (rEqD X.K) eqM := by
  intro W σ γ s H Ha Hb x y r1 r2 Q R q1 q2 h
  unfold eqM at h
  cases e1 : deep s r1 with
  | none => simp only [e1] at h; exact False.elim h
  | some d =>
    cases e2 : deep s r2 with
    | none => simp only [e1, e2] at h; exact False.elim h
    | some e =>
      simp only [e1, e2] at h
      by_cases o1 : okD d = true
      · by_cases o2 : okD e = true
        · rw [if_pos o1, if_pos o2] at h
          exact ⟨_, _, deep_dp R e1 (SeqAt.canLay_of_shaped o1) q1, deep_dp R e2 (SeqAt.canLay_of_shaped o2) q2, o1, o2, good_ok R (repB _) h⟩
        · rw [if_pos o1, if_neg o2] at h; exact False.elim h
      · rw [if_neg o1] at h; exact False.elim h
theorem neM_ok : BinOk X ct (rNeD X.K) neM := by
  intro W σ γ s H Ha Hb x y r1 r2 Q R q1 q2 h
  unfold neM at h
  cases e1 : deep s r1 with
  | none => simp only [e1] at h; exact False.elim h
  | some d =>
    cases e2 : deep s r2 with
    | none => simp only [e1, e2] at h; exact False.elim h
    | some e =>
      simp only [e1, e2] at h
      by_cases o1 : okD d = true
      · by_cases o2 : okD e = true
        · rw [if_pos o1, if_pos o2] at h
          exact ⟨_, _, deep_dp R e1 (SeqAt.canLay_of_shaped o1) q1, deep_dp R e2 (SeqAt.canLay_of_shaped o2) q2, o1, o2, good_ok R (repB _) h⟩
        · rw [if_pos o1, if_neg o2] at h; exact False.elim h
      · rw [if_neg o1] at h; exact False.elim h
/-- x in list -/
def inC (neg : Bool) (x y : RV) : M RV := fun s => match deep s x, deep s y with
  | some d, some (.lst es) => if okD d = true then if okD (.lst es) = true then .ok (RB (if neg then !(es.any fun z => eqD z d) else es.any fun z => eqD z d)) s else .bad else .bad
  | _, _ => .bad
theorem pys_any (es : List D) (d : D) : (D.pys es).any (fun z => PyData.eqv z d.py) = es.any fun z => eqD z d := by
  induction es with
  | nil => rfl
  | cons e es ih => simp only [D.pys, List.any_cons, ih]; rfl
theorem inC_ok : BinOk X ct (rInD X.K) (inC false) := by
  intro W σ γ s H Ha Hb x y r1 r2 Q R q1 q2 h
  unfold inC at h
  split at h
  · rename_i d es e1 e2
    by_cases o1 : okD d = true
    · by_cases o2 : okD (.lst es) = true
      · rw [if_pos o1, if_pos o2] at h
        have o2' : SeqAt.shaped (.list (D.pys es)) = true := by simpa [okD, D.py] using o2
        have k := deep_dp R e2 (SeqAt.canLay_of_shaped o2) q2
        have k' : Dp X.K H y (.list (D.pys es)) := by simpa [D.py] using k
        refine ⟨d.py, D.pys es, deep_dp R e1 (SeqAt.canLay_of_shaped o1) q1, k', o1, o2', ?_⟩
        rw [pys_any]
        exact good_ok R (repB _) h
      · rw [if_pos o1, if_neg o2] at h; exact False.elim h
    · rw [if_neg o1] at h; exact False.elim h
  · exact False.elim h
theorem notInC_ok : BinOk X ct (rNotInD X.K) (inC true) := by
  intro W σ γ s H Ha Hb x y r1 r2 Q R q1 q2 h
  unfold inC at h
  split at h
  · rename_i d es e1 e2
    by_cases o1 : okD d = true
    · by_cases o2 : okD (.lst es) = true
      · rw [if_pos o1, if_pos o2] at h
        have o2' : SeqAt.shaped (.list (D.pys es)) = true := by simpa [okD, D.py] using o2
        have k := deep_dp R e2 (SeqAt.canLay_of_shaped o2) q2
        have k' : Dp X.K H y (.list (D.pys es)) := by simpa [D.py] using k
        refine ⟨d.py, D.pys es, deep_dp R e1 (SeqAt.canLay_of_shaped o1) q1, k', o1, o2', ?_⟩
        rw [pys_any]
        exact good_ok R (repB _) h
      · rw [if_pos o1, if_neg o2] at h; exact False.elim h
    · rw [if_neg o1] at h; exact False.elim h
  · exact False.elim h
/-- is None, is not None; is True .. of bools alone -/
def isN : RV → M RV
  | .sv (.dat .non) => pur (RB true)
  | .sv (.dat _) => pur (RB false)
  | .new _ => pur (RB false)
  | .sv (.ref _) => pur (RB false)
  | .sv .hand => pur (RB false)
  | .sv (.fn _) => pur (RB false)
def isNM (x y : RV) : M RV := match y with
  | .sv (.dat .non) => isN x
  | _ => stuck
def notNM (x y : RV) : M RV := match y with
  | .sv (.dat .non) => bnd (isN x) fun r => match r with
    | .sv (.dat (.bl b)) => pur (RB (!b))
    | _ => stuck
  | _ => stuck
theorem isN_rep {K : PySem.W.Frag} {ct : Nat → Addr} {γ : G} {s : S} {H0 H : Hp} {v : V} {r : RV} (q : RepR K ct γ s H0 H v r) : isN r s = .ok (RB (decide (v = .non))) s := by
  cases r with
  | new xs => obtain ⟨a, vs, rfl, _⟩ := q; rfl
  | sv x =>
    cases x with
    | hand => have q' : v = .ref γ.ah := q; subst q'; rfl
    | fn c => have q' : v = .ref (ct c) := q; subst q'; rfl
    | ref k => have q' : k < s.mem.length ∧ v = .ref (γ.kp k) := q; rw [q'.2]; rfl
    | dat d =>
      have q' : RepD K ct H v d := q
      cases q' <;> rfl
theorem rep_non {K : PySem.W.Frag} {ct : Nat → Addr} {γ : G} {s : S} {H0 H : Hp} {v : V} (q : RepR K ct γ s H0 H v RN) : v = .non := by
  have q' : RepD K ct H v .non := q
  cases q'; rfl
theorem isNM_ok : BinOk X ct (fun x y H Q => y = .non ∧ Q (.bl (decide (x = .non))) H) isNM := by
  intro W σ γ s H Ha Hb x y r1 r2 Q R q1 q2 h
  unfold isNM at h
  split at h
  · rw [isN_rep q1] at h
    exact ⟨rep_non q2, good_ok R (repB _) h⟩
  · exact False.elim h
theorem notNM_ok : BinOk X ct (fun x y H Q => y = .non ∧ Q (.bl (!decide (x = .non))) H) notNM := by
  intro W σ γ s H Ha Hb x y r1 r2 Q R q1 q2 h
  unfold notNM at h
  split at h
  · unfold bnd at h
    rw [isN_rep q1] at h
    exact ⟨rep_non q2, good_ok R (repB _) h⟩
  · exact False.elim h
end
end Fd
set_option Elab.async false
set_option linter.all false
set_option maxRecDepth 100000
set_option maxHeartbeats 4000000
namespace Fd
open PySem PySem.Spec PyProof.Rows L2
section
variable {X : Cx} {ct : Nat → Addr} {W : WX} {pos : Pos} {a b e : Expr} {ma mb m : M RV} {rest es : List Expr}
theorem ed_eq (hu : X.A.units + 64 < cLine) (ha : ED X ct W a ma) (hb : ED X ct W b mb) : ED X ct W (.Compare a [.Eq] [b] pos) (m2 ma mb eqM) := ed_cmp (op_eqD hu) eqM_ok ha hb (nomark _)
theorem ed_ne (hu : X.A.units + 64 < cLine) (ha : ED X ct W a ma) (hb : ED X ct W b mb) : ED X ct W (.Compare a [.NotEq] [b] pos) (m2 ma mb neM) := ed_cmp (op_neD hu) neM_ok ha hb (nomark _)
theorem ed_in (hu : X.A.units + 65 < cLine) (ha : ED X ct W a ma) (hb : ED X ct W b mb) (hm : behindInMarks .In b = false) : ED X ct W (.Compare a [.In] [b] pos) (m2 ma mb (inC false)) := ed_cmp (op_inD hu) inC_ok ha hb hm
theorem ed_notin (hu : X.A.units + 65 < cLine) (ha : ED X ct W a ma) (hb : ED X ct W b mb) (hm : behindInMarks .NotIn b = false) : ED X ct W (.Compare a [.NotIn] [b] pos) (m2 ma mb (inC true)) := ed_cmp (op_notInD hu) notInC_ok ha hb hm
theorem ed_isN (ha : ED X ct W a ma) (hb : ED X ct W b mb) : ED X ct W (.Compare a [.Is] [b] pos) (m2 ma mb isNM) := ed_cmp op_isN isNM_ok ha hb (nomark _)
theorem ed_notN (ha : ED X ct W a ma) (hb : ED X ct W b mb) : ED X ct W (.Compare a [.IsNot] [b] pos) (m2 ma mb notNM) := ed_cmp op_notN notNM_ok ha hb (nomark _)
/-- is not of bools -/
def notBM : RV → RV → M RV
  | .sv (.dat (.bl x)), .sv (.dat (.bl y)) => pur (RB (!decide (x = y)))
  | _, _ => stuck
theorem ed_notB (ha : ED X ct W a ma) (hb : ED X ct W b mb) : ED X ct W (.Compare a [.IsNot] [b] pos) (m2 ma mb notBM) := by
  refine ed_cmp op_notBl (fun W σ γ s H Ha Hb x y r1 r2 Q R q1 q2 h => ?_) ha hb (nomark _)
  unfold notBM at h
  split at h
  · exact ⟨_, _, rep_bl q1, rep_bl q2, good_ok R (repB _) h⟩
  · exact False.elim h
theorem td_eq (hu : X.A.units + 64 < cLine) (ha : ED X ct W a ma) (hb : ED X ct W b mb) : TD X ct W (.Compare a [.Eq] [b] pos) (bnd (m2 ma mb eqM) asB) := td_cmp (op_eqD hu) eqM_ok ha hb (nomark _)
theorem td_ne (hu : X.A.units + 64 < cLine) (ha : ED X ct W a ma) (hb : ED X ct W b mb) : TD X ct W (.Compare a [.NotEq] [b] pos) (bnd (m2 ma mb neM) asB) := td_cmp (op_neD hu) neM_ok ha hb (nomark _)
theorem td_in (hu : X.A.units + 65 < cLine) (ha : ED X ct W a ma) (hb : ED X ct W b mb) (hm : behindInMarks .In b = false) : TD X ct W (.Compare a [.In] [b] pos) (bnd (m2 ma mb (inC false)) asB) := td_cmp (op_inD hu) inC_ok ha hb hm
theorem td_notin (hu : X.A.units + 65 < cLine) (ha : ED X ct W a ma) (hb : ED X ct W b mb) (hm : behindInMarks .NotIn b = false) : TD X ct W (.Compare a [.NotIn] [b] pos) (bnd (m2 ma mb (inC true)) asB) := td_cmp (op_notInD hu) notInC_ok ha hb hm
theorem td_lt (ha : ED X ct W a ma) (hb : ED X ct W b mb) : TD X ct W (.Compare a [.Lt] [b] pos) (bnd (m2 ma mb ltM) asB) := td_cmp op_lt (int2_ok fun i j _ _ _ _ _ => repB _) ha hb (nomark _)
theorem td_le (ha : ED X ct W a ma) (hb : ED X ct W b mb) : TD X ct W (.Compare a [.LtE] [b] pos) (bnd (m2 ma mb leM) asB) := td_cmp op_le (int2_ok fun i j _ _ _ _ _ => repB _) ha hb (nomark _)
theorem td_gt (ha : ED X ct W a ma) (hb : ED X ct W b mb) : TD X ct W (.Compare a [.Gt] [b] pos) (bnd (m2 ma mb gtM) asB) := td_cmp op_gt (int2_ok fun i j _ _ _ _ _ => repB _) ha hb (nomark _)
theorem td_ge (ha : ED X ct W a ma) (hb : ED X ct W b mb) : TD X ct W (.Compare a [.GtE] [b] pos) (bnd (m2 ma mb geM) asB) := td_cmp op_ge (int2_ok fun i j _ _ _ _ _ => repB _) ha hb (nomark _)
theorem td_isN (ha : ED X ct W a ma) (hb : ED X ct W b mb) : TD X ct W (.Compare a [.Is] [b] pos) (bnd (m2 ma mb isNM) asB) := td_cmp op_isN isNM_ok ha hb (nomark _)
theorem td_notN (ha : ED X ct W a ma) (hb : ED X ct W b mb) : TD X ct W (.Compare a [.IsNot] [b] pos) (bnd (m2 ma mb notNM) asB) := td_cmp op_notN notNM_ok ha hb (nomark _)
theorem td_notB (ha : ED X ct W a ma) (hb : ED X ct W b mb) : TD X ct W (.Compare a [.IsNot] [b] pos) (bnd (m2 ma mb notBM) asB) := by
  refine td_cmp op_notBl (fun W σ γ s H Ha Hb x y r1 r2 Q R q1 q2 h => ?_) ha hb (nomark _)
  unfold notBM at h
  split at h
  · exact ⟨_, _, rep_bl q1, rep_bl q2, good_ok R (repB _) h⟩
  · exact False.elim h

/-! ## + -/
def rCatR : R2 := fun x y H Q => ∃ l b xs zs, x = .ref l ∧ y = .ref b ∧ Rd H l (.lst xs) ∧ Rd H b (.lst zs) ∧ xs.length + zs.length ≤ sizeLine ∧ ∀ p, H p = none → Q (.ref p) (upd H p (.lst (xs ++ zs)))
theorem op_catR : OpR X (binaryOp .Add) rCatR := by
  intro pins s σ H x y v u Q I rx ry h
  obtain ⟨l, b, xs, zs, rfl, rfl, hH, hB, hz, q⟩ := h
  cases rx
  cases ry
  obtain ⟨z, its, n, r, e⟩ := hH.ok I.hok
  obtain ⟨z2, its2, n2, r2, e2⟩ := hB.ok I.hok
  have hl := r.length
  have hl2 := r2.length
  refine PySem.P.add_list e e2 ?_ (by rw [List.size_toArray, List.size_toArray]; omega)
  have ea : its.toArray ++ its2.toArray = (its ++ its2).toArray := by simp
  rw [ea]
  exact ⟨.ref _, _, I.lnew (t' := s.toks) (r.append r2) (by rw [List.length_append]; omega), rfl, q _ I.fresh⟩
def rAddF (K : PySem.W.Frag) : R2 := fun x y H Q => (rI0 fun i j => .int (i + j)) x y H Q ∨ ((∃ i j, x = .str i ∧ y = .str j ∧ i.length + j.length ≤ sizeLine ∧ Q (.str (i ++ j)) H) ∨ (rCatA K x y H Q ∨ rCatR x y H Q))
theorem op_addF : OpR X (binaryOp .Add) (rAddF X.K) := op_add.or (op_add_str.or (op_catA.or op_catR))
def addM : RV → RV → M RV
  | .sv (.dat (.int i)), .sv (.dat (.int j)) => pur (RI (i + j))
  | .sv (.dat (.str x)), .sv (.dat (.str y)) => fun s => if x.length + y.length ≤ 100000 then .ok (RS (x ++ y)) s else .bad
  | .sv (.dat (.tup x)), .sv (.dat (.tup y)) => fun s => if x.length + y.length ≤ 100000 then .ok (RT (x ++ y)) s else .bad
  | x, y => fun s => match seqL s x, seqL s y with
    | some xs, some ys => if xs.length + ys.length ≤ 100000 then .ok (.new (xs ++ ys)) s else .bad
    | _, _ => .bad
theorem addM_ok : BinOk X ct (rAddF X.K) addM := by
  intro W σ γ s H Ha Hb x y r1 r2 Q R q1 q2 h
  unfold addM at h
  split at h
  · rename_i i j
    exact .inl ⟨i, j, rep_int q1, rep_int q2, good_ok R (repI _) h⟩
  · rename_i z1 z2
    by_cases c : z1.length + z2.length ≤ 100000
    · rw [if_pos c] at h
      exact .inr (.inl ⟨z1, z2, rep_str q1, rep_str q2, lim_ok c, good_ok (r := RS _) R (RepD.str _) h⟩)
    · rw [if_neg c] at h; exact False.elim h
  · rename_i z1 z2
    by_cases c : z1.length + z2.length ≤ 100000
    · rw [if_pos c] at h
      obtain ⟨p1, vs1, rfl, h1, w1⟩ := tup_rep q1
      obtain ⟨p2, vs2, rfl, h2, w2⟩ := tup_rep q2
      refine .inr (.inr (.inl ⟨p1, p2, vs1, vs2, rfl, rfl, h1, h2, by rw [w1.length, w2.length]; exact lim_ok c, fun e1 => ?_, fun e1 e2 => ?_, fun _ _ => good_tup R (RepDs.append w1 w2) h⟩))
      · have e3 : z1 = [] := by
          have := w1.length; rw [e1] at this; exact List.length_eq_zero_iff.mp this.symm
        rw [e3, List.nil_append] at h
        exact good_ok (r := RT z2) R (RepD.tup h2 w2) h
      · have e3 : z2 = [] := by
          have := w2.length; rw [e2] at this; exact List.length_eq_zero_iff.mp this.symm
        rw [e3, List.append_nil] at h
        exact good_ok (r := RT z1) R (RepD.tup h1 w1) h
    · rw [if_neg c] at h; exact False.elim h
  · dsimp only at h
    split at h
    · rename_i xs ys e1 e2
      by_cases c : xs.length + ys.length ≤ 100000
      · rw [if_pos c] at h
        obtain ⟨p1, vs1, rfl, h1, w1⟩ := seqL_rd R e1 q1
        obtain ⟨p2, vs2, rfl, h2, w2⟩ := seqL_rd R e2 q2
        exact .inr (.inr (.inr ⟨p1, p2, vs1, vs2, rfl, rfl, h1, h2, by rw [Paired.length w1, Paired.length w2]; exact lim_ok c, good_new R (RepDs.appendS w1 w2) h⟩))
      · rw [if_neg c] at h; exact False.elim h
    · exact False.elim h
theorem ed_add (ha : ED X ct W a ma) (hb : ED X ct W b mb) : ED X ct W (.BinOp a .Add b pos) (m2 ma mb addM) := ed_bin op_addF addM_ok ha hb

/-! ## x[i] -/
def ixM : RV → RV → M RV
  | .sv (.dat (.tup ds)), .sv (.dat (.int i)) => fun s => match atI ds i with
    | some d => .ok (RD d) s
    | none => .bad
  | .sv (.dat (.str z)), .sv (.dat (.int i)) => fun s => if z.length ≤ 100000 then match atI z.cps.toList i with
    | some c => .ok (RS ⟨#[c]⟩) s
    | none => .bad
    else .bad
  | x, .sv (.dat (.int i)) => fun s => match seqL s x with
    | some xs => match atI xs i with
      | some y => .ok (.sv y) s
      | none => .bad
    | none => .bad
  | _, _ => stuck
theorem atI_repD {K : PySem.W.Frag} {H : Hp} {ds : List D} {vs : List V} {i : Int} {d : D} (p : RepDs K ct H vs ds) (e : atI ds i = some d) : ∃ v, atI vs i = some v ∧ RepD K ct H v d := by
  unfold atI at e ⊢
  rw [p.length]
  cases h : ixN ds.length i with
  | none => rw [h] at e; cases e
  | some j => rw [h] at e; exact p.get e
theorem ixM_ok : BinOk X ct (rIx X.K) ixM := by
  intro W σ γ s H Ha Hb x y r1 r2 Q R q1 q2 h
  unfold ixM at h
  split at h
  · rename_i ds i
    cases e : atI ds i with
    | none => simp only [e] at h; exact False.elim h
    | some d =>
      simp only [e] at h
      obtain ⟨p1, vs1, rfl, h1, w1⟩ := tup_rep q1
      obtain ⟨v, ev, rv⟩ := atI_repD w1 e
      exact .inr (.inl ⟨p1, vs1, i, v, rfl, rep_int q2, h1, ev, good_ok (r := RD d) R rv h⟩)
  · rename_i z i
    by_cases c : z.length ≤ 100000
    · rw [if_pos c] at h
      cases e : atI z.cps.toList i with
      | none => simp only [e] at h; exact False.elim h
      | some d =>
        simp only [e] at h
        exact .inr (.inr ⟨z, i, d, rep_str q1, rep_int q2, lim_ok c, e, good_ok (r := RS _) R (RepD.str _) h⟩)
    · rw [if_neg c] at h; exact False.elim h
  · rename_i i _ _
    cases e1 : seqL s r1 with
    | none => simp only [e1] at h; exact False.elim h
    | some xs =>
      simp only [e1] at h
      cases e : atI xs i with
      | none => simp only [e] at h; exact False.elim h
      | some d =>
        simp only [e] at h
        obtain ⟨p1, vs1, rfl, h1, w1⟩ := seqL_rep R e1 q1
        obtain ⟨v, ev, rv⟩ := atI_rep w1 e
        exact .inl ⟨p1, vs1, i, v, rfl, rep_int q2, h1, ev, good_ok (r := .sv d) R rv h⟩
  · exact False.elim h
theorem ed_sub1 (ha : ED X ct W a ma) (hb : ED X ct W b mb) (hs : PlainIx b := by intro _ _; rfl) : ED X ct W (.Subscript a b pos) (m2 ma mb ixM) := ed_ix ix_seq ixM_ok ha hb hs

/-! ## slices -/
def OD (X : Cx) (ct : Nat → Addr) (W : WX) (e : Option Expr) (m : M (Option Int)) : Prop := ∃ t, PO X e t ∧ ∀ σ H γ s Q, Rep X.K ct γ H σ s →
  (m s).post (fun o s' => ∀ γ' H', Step γ γ' s s' H H' → Rep X.K ct γ' H' σ s' → Q o H') (GoodX X.K ct W σ γ s H) → t σ H Q
theorem od_none : OD X ct W none (pur none) := ⟨_, po_none, fun σ H γ s Q R h => h γ H Step.refl R⟩
def asI : RV → M (Option Int)
  | .sv (.dat (.int i)) => pur (some i)
  | _ => stuck
theorem od_some (h : ED X ct W e m) : OD X ct W (some e) (bnd m asI) := by
  obtain ⟨t, p, r⟩ := h.ex
  refine ⟨_, po_some p, fun σ H γ s Q R h => ?_⟩
  refine r σ H γ s _ R (use_e h (fun _ _ z => z) fun x s1 v γ1 H1 t1 R1 q1 g => ?_)
  unfold asI at g
  split at g
  · exact ⟨_, rep_int q1, g γ1 H1 t1 R1⟩
  · exact False.elim g
def cutD {α : Type} (xs : List α) (lo hi : Option Int) : List α := (xs.drop (HT.sIx xs.length 0 lo)).take (HT.sIx xs.length xs.length hi - HT.sIx xs.length 0 lo)
def slM (x : RV) (lo hi : Option Int) : M RV := match x with
  | .sv (.dat (.tup ds)) => pur (RT (cutD ds lo hi))
  | x => fun s => match seqL s x with
    | some xs => .ok (.new (cutD xs lo hi)) s
    | none => .bad
def m3 (m : M RV) (ml mh : M (Option Int)) : M RV := bnd m fun x => bnd ml fun lo => bnd mh fun hi => slM x lo hi
theorem Paired.takeS {α β : Type} {F : α → β → Prop} : ∀ {l₁ : List α} {l₂ : List β} (n : Nat), Paired F l₁ l₂ → Paired F (l₁.take n) (l₂.take n)
  | _, _, 0, _ => by simp; exact .nil
  | _, _, n + 1, .nil => by simp; exact .nil
  | _, _, n + 1, .cons r t => by simp; exact .cons r (Paired.takeS n t)
theorem Paired.dropS {α β : Type} {F : α → β → Prop} : ∀ {l₁ : List α} {l₂ : List β} (n : Nat), Paired F l₁ l₂ → Paired F (l₁.drop n) (l₂.drop n)
  | _, _, 0, h => by simpa using h
  | _, _, n + 1, .nil => by simp; exact .nil
  | _, _, n + 1, .cons r t => by simp; exact Paired.dropS n t
theorem RepDs.take {K : PySem.W.Frag} {H : Hp} (n : Nat) : ∀ {vs : List V} {ds : List D}, RepDs K ct H vs ds → RepDs K ct H (vs.take n) (ds.take n) := by
  induction n with
  | zero => intro vs ds h; simp; exact .nil
  | succ n ih => intro vs ds h; cases ds with
    | nil => cases h; simp; exact .nil
    | cons d ds => cases h with | cons r t => simp; exact .cons r (ih t)
theorem RepDs.drop {K : PySem.W.Frag} {H : Hp} (n : Nat) : ∀ {vs : List V} {ds : List D}, RepDs K ct H vs ds → RepDs K ct H (vs.drop n) (ds.drop n) := by
  induction n with
  | zero => intro vs ds h; simpa using h
  | succ n ih => intro vs ds h; cases ds with
    | nil => cases h; simp; exact .nil
    | cons d ds => cases h with | cons r t => simp; exact ih t
theorem use_o {K : PySem.W.Frag} {β : Type} {σ : L2.St} {γ : G} {s : S} {H : Hp} {m : M (Option Int)} {f : Option Int → M β} {P : β → S → Prop} {E : Exn → S → Prop} {Q : Option Int → Hp → Prop} (h : (bnd m f s).post P E) (hE : ∀ x s', E x s' → GoodX K ct W σ γ s H x s')
    (k : ∀ b s1 γ1 H1, Step γ γ1 s s1 H H1 → Rep K ct γ1 H1 σ s1 → (f b s1).post P E → Q b H1) : (m s).post (fun o s' => ∀ γ' H', Step γ γ' s s' H H' → Rep K ct γ' H' σ s' → Q o H') (GoodX K ct W σ γ s H) :=
  Out.post.imp (post_bnd h) (fun r s1 q γ1 H1 t R => k r s1 γ1 H1 t R q) hE
theorem ed_slice {lo hi : Option Expr} {ml mh : M (Option Int)} {p2 : Pos} (h : ED X ct W e m) (hl : OD X ct W lo ml) (hh : OD X ct W hi mh) : ED X ct W (.Subscript e (.Slice lo hi none p2) pos) (m3 m ml mh) := by
  obtain ⟨t, p, r⟩ := h.ex
  obtain ⟨tl, pl, rl⟩ := hl
  obtain ⟨th, ph, rh⟩ := hh
  refine ⟨_, pe_slice (sl_tupA.or sl_list) p pl ph, fun σ H γ s Q R h => ?_⟩
  refine r σ H γ s _ R (use_e h (fun _ _ z => z) fun x s1 v γ1 H1 t1 R1 q1 g => ?_)
  refine rl σ H1 γ1 s1 _ R1 (use_o (Good.step t1 g) (fun _ _ z => z) fun o1 s2 γ2 H2 t2 R2 g2 => ?_)
  refine rh σ H2 γ2 s2 _ R2 (use_o (Good.step t2 g2) (fun _ _ z => z) fun o2 s3 γ3 H3 t3 R3 g3 => ?_)
  have g4 : Good X.K ct W σ γ3 s3 H3 (slM x o1 o2 s3) Q := Good.step t3 g3
  have q3 := (q1.mono t2).mono t3
  unfold slM at g4
  split at g4
  · rename_i ds
    obtain ⟨p1, vs1, rfl, h1, w1⟩ := tup_rep q3
    have hl := w1.length
    refine .inl ⟨p1, vs1, rfl, h1, fun c => ?_, fun _ => ?_⟩
    · have e1 : cutD ds o1 o2 = ds := by
        unfold cutD
        rw [hl] at c
        rw [c.1, c.2]
        simp
      have g5 : Good X.K ct W σ γ3 s3 H3 (.ok (RT (cutD ds o1 o2)) s3) Q := g4
      rw [e1] at g5
      exact good_ok (r := RT ds) R3 (RepD.tup h1 w1) g5
    · have e2 : cutV vs1 o1 o2 = (vs1.drop (HT.sIx ds.length 0 o1)).take (HT.sIx ds.length ds.length o2 - HT.sIx ds.length 0 o1) := by unfold cutV; rw [hl]
      rw [e2]
      exact good_tup R3 (RepDs.take _ (RepDs.drop _ w1)) g4
  · cases e1 : seqL s3 x with
    | none => simp only [e1] at g4; exact False.elim g4
    | some xs =>
      simp only [e1] at g4
      obtain ⟨p1, vs1, rfl, h1, w1⟩ := seqL_rep R3 e1 q3
      have hl := Paired.length w1
      have e2 : cutV vs1 o1 o2 = (vs1.drop (HT.sIx xs.length 0 o1)).take (HT.sIx xs.length xs.length o2 - HT.sIx xs.length 0 o1) := by unfold cutV; rw [hl]
      refine .inr ⟨p1, vs1, rfl, h1, ?_⟩
      rw [e2]
      exact good_new R3 (Paired.takeS _ (Paired.dropS _ w1)) g4

/-! ## arguments, displays -/
variable {mA : M (List SV)}
def consA (m : M RV) (mA : M (List SV)) : M (List SV) := bnd m fun x => match x with
  | .sv x => bnd mA fun xs => pur (x :: xs)
  | .new _ => stuck
theorem ad_nil : AD X ct W [] (pur []) := ⟨_, pa_nil, fun σ H γ s Q R h => h [] γ H Step.refl R .nil⟩
theorem ad_cons (h : ED X ct W e m) (hr : AD X ct W es mA) (hs : starEach (e :: es) X.env = (false, eval e X.env) :: starEach es X.env := by rfl) : AD X ct W (e :: es) (consA m mA) := by
  obtain ⟨t, p, r⟩ := h.ex
  obtain ⟨t2, p2, r2⟩ := hr.ex
  refine ⟨_, pa_cons p p2 hs, fun σ H γ s Q R h => ?_⟩
  refine r σ H γ s _ R (use_e h (fun _ _ z => z) fun x s1 v γ1 H1 t1 R1 q1 g => ?_)
  cases x with
  | new xs => exact False.elim g
  | sv x =>
    refine r2 σ H1 γ1 s1 _ R1 (use_a (GoodA.step t1 g) (fun _ _ z => z) fun xs s2 vs γ2 H2 t2 R2 q2 g2 => ?_)
    exact g2 (v :: vs) γ2 H2 t2 R2 (.cons (RepS.mono t2 q1) q2)
def tupM (xs : List SV) : M RV := fun s => match datL xs with
  | some ds => if ds.length ≤ 1000 then .ok (RT ds) s else .bad
  | none => .bad
def lstM (xs : List SV) : M RV := fun s => if xs.length ≤ 1000 then .ok (.new xs) s else .bad
theorem ed_tup {x1} (h : AD X ct W es mA) : ED X ct W (.Tuple es x1 pos) (bnd mA tupM) := by
  obtain ⟨t, p, r⟩ := h.ex
  refine ⟨_, pe_tup p, fun σ H γ s Q R h => ?_⟩
  refine r σ H γ s _ R (use_a h (fun _ _ z => z) fun xs s1 vs γ1 H1 t1 R1 q1 g => ?_)
  unfold tupM at g
  cases e1 : datL xs with
  | none => simp only [e1] at g; exact False.elim g
  | some ds =>
    simp only [e1] at g
    have w := datL_rep e1 q1
    by_cases c : ds.length ≤ 1000
    · rw [if_pos c] at g
      exact ⟨lim_ok (by rw [w.length]; omega), good_tup R1 w (Good.step t1 g)⟩
    · rw [if_neg c] at g; exact False.elim g
theorem ed_lst (h : AD X ct W es mA) : ED X ct W (.List es pos) (bnd mA lstM) := by
  obtain ⟨t, p, r⟩ := h.ex
  refine ⟨_, pe_lst p, fun σ H γ s Q R h => ?_⟩
  refine r σ H γ s _ R (use_a h (fun _ _ z => z) fun xs s1 vs γ1 H1 t1 R1 q1 g => ?_)
  unfold lstM at g
  by_cases c : xs.length ≤ 1000
  · rw [if_pos c] at g
    exact ⟨lim_ok (by rw [Paired.length q1]; omega), good_new R1 q1 (Good.step t1 g)⟩
  · rw [if_neg c] at g; exact False.elim g
end
end Fd
set_option Elab.async false
set_option linter.all false
set_option maxRecDepth 100000
set_option maxHeartbeats 4000000
namespace Fd
open PySem PySem.Spec PyProof.Rows L2
/-! ## arguments of built-ins: any values -/
section
variable (K : PySem.W.Frag) (ct : Nat → Addr)
def GoodB (W : WX) (σ : L2.St) (γ : G) (s : S) (H : Hp) (o : Out (List RV)) (Q : List V → Hp → Prop) : Prop :=
  o.post (fun xs s' => ∀ vs γ' H', Step γ γ' s s' H H' → Rep K ct γ' H' σ s' → Paired (RepR K ct γ' s' H H') vs xs → Q vs H') (GoodX K ct W σ γ s H)
end
structure BD (X : Cx) (ct : Nat → Addr) (W : WX) (es : List Expr) (m : M (List RV)) : Prop where
  ex : ∃ t, PA X es t ∧ ∀ σ H γ s Q, Rep X.K ct γ H σ s → GoodB X.K ct W σ γ s H (m s) Q → t σ H Q
section
variable {X : Cx} {ct : Nat → Addr} {W : WX} {pos : Pos} {a b e : Expr} {ma mb m : M RV} {rest es : List Expr} {mB : M (List RV)} {mA : M (List SV)}
def consB (m : M RV) (mB : M (List RV)) : M (List RV) := bnd m fun x => bnd mB fun xs => pur (x :: xs)
theorem bd_nil : BD X ct W [] (pur []) := ⟨_, pa_nil, fun σ H γ s Q R h => h [] γ H Step.refl R .nil⟩
theorem bd_cons (h : ED X ct W e m) (hr : BD X ct W es mB) (hs : starEach (e :: es) X.env = (false, eval e X.env) :: starEach es X.env := by rfl) : BD X ct W (e :: es) (consB m mB) := by
  obtain ⟨t, p, r⟩ := h.ex
  obtain ⟨t2, p2, r2⟩ := hr.ex
  refine ⟨_, pa_cons p p2 hs, fun σ H γ s Q R h => ?_⟩
  refine r σ H γ s _ R (use_e h (fun _ _ z => z) fun x s1 v γ1 H1 t1 R1 q1 g => ?_)
  refine r2 σ H1 γ1 s1 _ R1 (Out.post.imp (post_bnd g) (fun xs s2 g2 vs γ2 H2 t2 R2 q2 => ?_) fun x s2 z => GoodX.step t1 z)
  exact g2 (v :: vs) γ2 H2 (t1.trans t2) R2 (.cons (q1.mono t2) (Paired.mapP q2 fun _ _ z => z.base t1.there))
def CallOk (X : Cx) (ct : Nat → Addr) (r : List V → Hp → VK → Prop) (f : List RV → M RV) : Prop := ∀ (W : WX) (σ : L2.St) (γ : G) (s : S) (H Ha : Hp) (vs : List V) (rs : List RV) (Q : VK), Rep X.K ct γ H σ s → Paired (RepR X.K ct γ s Ha H) vs rs → Good X.K ct W σ γ s H (f rs s) Q → r vs H Q
/-- a call of a built-in: hp is «fun _ h => pe_callB .. h» -/
theorem ed_blt {c : Expr} {r : List V → Hp → VK → Prop} {f : List RV → M RV} (hp : ∀ t, PA X es t → PE X c (tCB r t)) (hf : CallOk X ct r f) (h : BD X ct W es mB) : ED X ct W c (bnd mB f) := by
  obtain ⟨t, p, rr⟩ := h.ex
  refine ⟨_, hp t p, fun σ H γ s Q R h => ?_⟩
  refine rr σ H γ s _ R (Out.post.imp (post_bnd h) (fun xs s1 g vs γ1 H1 t1 R1 q1 => ?_) fun _ _ z => z)
  exact hf W σ γ1 s1 H1 _ vs xs Q R1 q1 (Good.step t1 g)
/-! len -/
def lenM : List RV → M RV
  | [.sv (.dat (.str z))] => fun s => if z.length ≤ 100000 then .ok (RI z.length) s else .bad
  | [.sv (.dat (.tup ds))] => pur (RI ds.length)
  | [x] => fun s => match seqL s x with
    | some xs => .ok (RI xs.length) s
    | none => .bad
  | _ => stuck
def rLen (K : PySem.W.Frag) : List V → Hp → VK → Prop := fun xs H Q => ∃ x n, xs = [x] ∧ LenV K x H n ∧ Q (.int n) H
theorem lenM_ok : CallOk X ct (rLen X.K) lenM := by
  intro W σ γ s H Ha vs rs Q R q h
  unfold lenM at h
  split at h
  · rename_i z
    cases q with
    | cons q1 q2 =>
      cases q2
      by_cases c : z.length ≤ 100000
      · rw [if_pos c] at h
        exact ⟨_, z.length, rfl, by rw [rep_str q1]; exact ⟨lim_ok c, rfl⟩, good_ok R (repI _) h⟩
      · rw [if_neg c] at h; exact False.elim h
  · rename_i ds
    cases q with
    | cons q1 q2 =>
      cases q2
      obtain ⟨p1, vs1, rfl, h1, w1⟩ := tup_rep q1
      exact ⟨_, ds.length, rfl, .inr ⟨vs1, h1, w1.length.symm⟩, good_ok R (repI _) h⟩
  · rename_i x _ _
    cases q with
    | cons q1 q2 =>
      cases q2
      cases e1 : seqL s x with
      | none => simp only [e1] at h; exact False.elim h
      | some xs =>
        simp only [e1] at h
        obtain ⟨p1, vs1, rfl, h1, w1⟩ := seqL_rep R e1 q1
        exact ⟨_, xs.length, rfl, .inl ⟨vs1, h1, (Paired.length w1).symm⟩, good_ok R (repI _) h⟩
  · exact False.elim h
/-! abs, int, gcd, max, min of ints -/
def absM : List RV → M RV
  | [.sv (.dat (.int i))] => pur (RI (if i < 0 then -i else i))
  | _ => stuck
theorem absM_ok : CallOk X ct (fun xs H Q => ∃ i, xs = [.int i] ∧ Q (.int (if i < 0 then -i else i)) H) absM := by
  intro W σ γ s H Ha vs rs Q R q h
  unfold absM at h
  split at h
  · cases q with
    | cons q1 q2 =>
      cases q2
      exact ⟨_, by rw [rep_int q1], good_ok R (repI _) h⟩
  · exact False.elim h
def intM : List RV → M RV
  | [.sv (.dat (.int i))] => pur (RI i)
  | [.sv (.dat (.bl b))] => pur (RI (if b then 1 else 0))
  | _ => stuck
theorem intM_ok : CallOk X ct (fun xs H Q => (∃ i, xs = [.int i] ∧ Q (.int i) H) ∨ ∃ k, xs = [.bl k] ∧ Q (.int (if k then 1 else 0)) H) intM := by
  intro W σ γ s H Ha vs rs Q R q h
  unfold intM at h
  split at h
  · cases q with
    | cons q1 q2 =>
      cases q2
      exact .inl ⟨_, by rw [rep_int q1], good_ok R (repI _) h⟩
  · cases q with
    | cons q1 q2 =>
      cases q2
      exact .inr ⟨_, by rw [rep_bl q1], good_ok R (repI _) h⟩
  · exact False.elim h
def int2M (g : Int → Int → Int) : List RV → M RV
  | [.sv (.dat (.int i)), .sv (.dat (.int j))] => pur (RI (g i j))
  | _ => stuck
theorem int2M_ok {g : Int → Int → Int} {r : List V → Hp → VK → Prop} (hr : ∀ i j H Q, Q (.int (g i j)) H → r [.int i, .int j] H Q) : CallOk X ct r (int2M g) := by
  intro W σ γ s H Ha vs rs Q R q h
  unfold int2M at h
  split at h
  · cases q with
    | cons q1 q2 =>
      cases q2 with
      | cons q2 q3 =>
        cases q3
        rw [rep_int q1, rep_int q2]
        exact hr _ _ _ _ (good_ok R (repI _) h)
  · exact False.elim h
def gcdM : List RV → M RV := int2M fun a b => ((Nat.gcd a.natAbs b.natAbs : Nat) : Int)
def max2M : List RV → M RV := int2M fun i j => if j > i then j else i
def min2M : List RV → M RV := int2M fun i j => if j < i then j else i
theorem gcdM_ok : CallOk X ct rGcd gcdM := int2M_ok fun i j H Q q => ⟨i, j, rfl, q⟩
theorem max2M_ok : CallOk X ct (fun xs H Q => ∃ i j, xs = [.int i, .int j] ∧ Q (.int (if j > i then j else i)) H) max2M := int2M_ok fun i j H Q q => ⟨i, j, rfl, q⟩
theorem min2M_ok : CallOk X ct (fun xs H Q => ∃ i j, xs = [.int i, .int j] ∧ Q (.int (if j < i then j else i)) H) min2M := int2M_ok fun i j H Q q => ⟨i, j, rfl, q⟩
/-! str of an int -/
def strM : List RV → M RV
  | [.sv (.dat (.int i))] => fun s => if i.natAbs.log2 < 1920 then .ok (RS (toString i)) s else .bad
  | _ => stuck
theorem strM_ok : CallOk X ct (fun xs H Q => ∃ i, xs = [.int i] ∧ i.natAbs.log2 < 1920 ∧ Q (.str (toString i)) H) strM := by
  intro W σ γ s H Ha vs rs Q R q h
  unfold strM at h
  split at h
  · rename_i i
    cases q with
    | cons q1 q2 =>
      cases q2
      by_cases c : i.natAbs.log2 < 1920
      · rw [if_pos c] at h
        exact ⟨_, by rw [rep_int q1], c, good_ok (r := RS _) R (RepD.str _) h⟩
      · rw [if_neg c] at h; exact False.elim h
  · exact False.elim h
/-! list(x), tuple(x) -/
def listM : List RV → M RV
  | [.sv (.dat (.tup ds))] => pur (.new (ds.map SV.dat))
  | [x] => fun s => match seqL s x with
    | some xs => .ok (.new xs) s
    | none => .bad
  | _ => stuck
theorem listM_ok : CallOk X ct (fun xs H Q => ∃ p ys, xs = [.ref p] ∧ (SqL X.K H p ys ∨ SqT X.K H p ys) ∧ ∀ l, H l = none → Q (.ref l) (upd H l (.lst ys))) listM := by
  intro W σ γ s H Ha vs rs Q R q h
  unfold listM at h
  split at h
  · rename_i ds
    cases q with
    | cons q1 q2 =>
      cases q2
      obtain ⟨p1, vs1, rfl, h1, w1⟩ := tup_rep q1
      exact ⟨p1, vs1, rfl, .inr h1, good_new R (rep_map w1) h⟩
  · rename_i x _
    cases q with
    | cons q1 q2 =>
      cases q2
      cases e1 : seqL s x with
      | none => simp only [e1] at h; exact False.elim h
      | some xs =>
        simp only [e1] at h
        obtain ⟨p1, vs1, rfl, h1, w1⟩ := seqL_rep R e1 q1
        exact ⟨p1, vs1, rfl, .inl h1, good_new R w1 h⟩
  · exact False.elim h
def tupleM : List RV → M RV
  | [.sv (.dat (.tup ds))] => pur (RT ds)
  | [x] => fun s => match seqL s x with
    | some xs => match datL xs with
      | some ds => .ok (RT ds) s
      | none => .bad
    | none => .bad
  | _ => stuck
theorem tupleM_ok : CallOk X ct (fun xs H Q => ∃ p ys, xs = [.ref p] ∧ ((SqL X.K H p ys ∧ ∀ l, H l = none → Q (.ref l) (upd H l (.tup ys))) ∨ (SqT X.K H p ys ∧ Q (.ref p) H))) tupleM := by
  intro W σ γ s H Ha vs rs Q R q h
  unfold tupleM at h
  split at h
  · rename_i ds
    cases q with
    | cons q1 q2 =>
      cases q2
      obtain ⟨p1, vs1, rfl, h1, w1⟩ := tup_rep q1
      exact ⟨p1, vs1, rfl, .inr ⟨h1, good_ok (r := RT ds) R (RepD.tup h1 w1) h⟩⟩
  · rename_i x _
    cases q with
    | cons q1 q2 =>
      cases q2
      cases e1 : seqL s x with
      | none => simp only [e1] at h; exact False.elim h
      | some xs =>
        simp only [e1] at h
        cases e2 : datL xs with
        | none => simp only [e2] at h; exact False.elim h
        | some ds =>
          simp only [e2] at h
          obtain ⟨p1, vs1, rfl, h1, w1⟩ := seqL_rep R e1 q1
          exact ⟨p1, vs1, rfl, .inl ⟨h1, good_tup R (datL_rep e2 w1) h⟩⟩
  · exact False.elim h

/-! ## isinstance of built-in types -/
inductive Ty where
  | int | bool | str | tuple | list | dict | none
  deriving DecidableEq
def Ty.nm : Ty → String
  | .int => "int" | .bool => "bool" | .str => "str" | .tuple => "tuple" | .list => "list" | .dict => "dict" | .none => "NoneType"
def subTy : Ty → Ty → Bool
  | .int, .int => true | .bool, .int => true | .bool, .bool => true | .str, .str => true | .tuple, .tuple => true | .list, .list => true | .dict, .dict => true | _, _ => false
theorem kit_sub : ∀ a b : Ty, b ≠ .none → kitB a.nm b.nm = some (subTy a b) := by
  intro a b h
  cases a <;> cases b <;> first | exact absurd rfl h | decide +kernel
def tyR (s : S) : RV → Option Ty
  | .sv (.dat .non) => some .none
  | .sv (.dat (.bl _)) => some .bool
  | .sv (.dat (.int _)) => some .int
  | .sv (.dat (.str _)) => some .str
  | .sv (.dat (.tup _)) => some .tuple
  | .sv (.dat (.dct _)) => some .dict
  | .sv (.dat (.dcp _)) => none
  | x => match seqL s x with
    | some _ => some .list
    | none => none
theorem tyR_rep {K : PySem.W.Frag} {γ : G} {s : S} {H0 H : Hp} {σ : L2.St} (R : Rep K ct γ H σ s) {r : RV} {v : V} {t : Ty} (e : tyR s r = some t) (q : RepR K ct γ s H0 H v r) : TyX K H v (.type t.nm) := by
  have fin : (match seqL s r with | some _ => some Ty.list | none => none) = some t → TyX K H v (.type t.nm) := fun e2 => by
    cases h : seqL s r with
    | none => rw [h] at e2; cases e2
    | some xs =>
      rw [h] at e2; cases e2
      obtain ⟨p1, vs1, rfl, h1, w1⟩ := seqL_rd R h q
      rcases h1 with h1 | ⟨o, h1⟩
      · exact .base (.lst h1)
      · exact .base (.frz h1)
  cases r with
  | new xs => exact fin e
  | sv x =>
    cases x with
    | hand => exact fin e
    | fn c => exact fin e
    | ref k => exact fin e
    | dat d =>
      cases d with
      | non => cases e; rw [rep_non q]; exact .base .non
      | bl c => cases e; rw [rep_bl q]; exact .base (.bl _)
      | int i => cases e; rw [rep_int q]; exact .base (.int _)
      | str y => cases e; rw [rep_str q]; exact .base (.str _)
      | tup ds =>
        cases e
        obtain ⟨p1, vs1, rfl, h1, w1⟩ := tup_rep q
        rcases h1 with (h1 | ⟨o, h1⟩) | ⟨o, its, n, hk, hc, _⟩
        · exact .base (.tup h1)
        · exact .fTuple h1
        · exact .kTuple hk hc
      | lst ds => exact fin e
      | obj c ds => exact fin e
      | dct kds =>
        cases e
        have q' : RepD K ct H v (.dct kds) := q
        cases q' with
        | dct h1 _ _ => exact .fDict h1
      | dcp kds => cases e

def isiM (t : Ty) (r : RV) : M RV := fun s => match tyR s r with
  | some u => .ok (RB (subTy u t)) s
  | none => .bad
theorem ed_isi {p p2 : Pos} {x : Str} (t : Ty) (ht : t ≠ .none) (hg : Gl X "isinstance") (hm : X.mg "isinstance" = none) (h : ED X ct W e m) (hx : PE X (.Name x p2) (tC (.ty t.nm)))
    (he : starEach [e, .Name x p2] X.env = (false, eval e X.env) :: starEach [.Name x p2] X.env := by rfl) (hpl : (backTo pos (starEach [.Name x p2] X.env)).any (·.1) = false := by rfl)
    (he2 : starEach [.Name x p2] X.env = (false, eval (.Name x p2) X.env) :: starEach [] X.env := by rfl) : ED X ct W (.Call (.Name "isinstance" p) [e, .Name x p2] [] pos) (bnd m (isiM t)) := by
  obtain ⟨te, pe, r⟩ := h.ex
  refine ⟨_, pe_callB call_isi hg hm boot_isinstance (pa_cons pe (pa_cons hx pa_nil he2) he) (he := he) (hpl := hpl), fun σ H γ s Q R h => ?_⟩
  refine r σ H γ s _ R (use_e h (fun _ _ z => z) fun x s1 v γ1 H1 t1 R1 q1 g => ?_)
  unfold isiM at g
  cases e1 : tyR s1 x with
  | none => simp only [e1] at g; exact False.elim g
  | some u =>
    simp only [e1] at g
    exact ⟨v, .ty t.nm, _, .type t.nm, subTy u t, rfl, .ty _, tyR_rep R1 e1 q1, kit_ty (kit_sub u t ht), g _ γ1 H1 t1 R1 (repB _)⟩
/-- isinstance(x, (T, U)) -/
def isiM2 (t t' : Ty) (r : RV) : M RV := fun s => match tyR s r with
  | some u => .ok (RB (subTy u t || subTy u t')) s
  | none => .bad
theorem kitAny2 {K : PySem.W.Frag} {a b c : Ty} (hb : b ≠ .none) (hc : c ≠ .none) : PySem.W.kitAny K (.type a.nm) [.type b.nm, .type c.nm] = some (subTy a b || subTy a c) := by
  have h1 : PySem.W.kitOne K (.type a.nm) (.type b.nm) = some (subTy a b) := kit_ty (kit_sub a b hb)
  have h2 : PySem.W.kitOne K (.type a.nm) (.type c.nm) = some (subTy a c) := kit_ty (kit_sub a c hc)
  unfold PySem.W.kitAny PySem.W.kitAny PySem.W.kitAny
  rw [h1, h2]
  cases subTy a b <;> cases subTy a c <;> rfl
end
end Fd
set_option Elab.async false
set_option linter.all false
set_option maxRecDepth 100000
set_option maxHeartbeats 4000000
/-! ## the head of a row by one kernel run: the tests of the written part -/
namespace Fd
open PySem PySem.Spec PyProof.Rows L2
abbrev Fr := PySem.W.Frag
abbrev gA (K : Fr) (x : Str) : Addr := He.ga K x
abbrev mA (K : Fr) (x m : Str) : Addr := He.ma K (He.ga K x) m
/-- two values of facts are one -/
def sameO (a b : Option (Option Value)) : Bool := decide (a = b)
def tFree (x : Str) (K : Fr) : Bool := sameO (PySem.W.nsIn K mainGlobals x) (some none)
def tBlt (x : Str) (id : String) (K : Fr) : Bool := sameO (PySem.W.nsIn K mainGlobals x) (some (some (.builtin id)))
def tGlo (x : Str) (K : Fr) : Bool := sameO (PySem.W.nsIn K mainGlobals x) (some (some (.ref (gA K x))))
def tNoAt (x f : Str) (K : Fr) : Bool := sameO (PySem.W.findIn K (.ref (gA K x)) f) (some none)
def tAtB (x f : Str) (id : String) (K : Fr) : Bool := sameO (PySem.W.findIn K (.ref (gA K x)) f) (some (some (.builtin id)))
def tKit (x y : Str) (b : Bool) (K : Fr) : Bool := decide (PySem.W.kitOne K (.ref (gA K x)) (.ref (gA K y)) = some b)
def tNot (x y : Str) (K : Fr) : Bool := PySem.W.notFirst K (gA K x) (.ref (gA K y))
def tExm (x y : Str) (b : Bool) (K : Fr) : Bool := decide (PySem.W.exmOne K (.ref (gA K x)) (.ref (gA K y)) = some b)
def tySix : List Ty := [.int, .bool, .str, .tuple, .list, .dict]
def tKb (x : Str) (K : Fr) : Bool := tySix.all fun t => decide (PySem.W.kitOne K (.ref (gA K x)) (.type t.nm) = some false)
def tKc (x : Str) (K : Fr) : Bool := (.none :: tySix).all fun t => decide (PySem.W.kitOne K (.type t.nm) (.ref (gA K x)) = some false)
def tNb (x : Str) (K : Fr) : Bool := (.none :: tySix).all fun t => PySem.W.notFirst K (gA K x) (.type t.nm)
def tCls (x : Str) (K : Fr) : Bool := PySem.W.plainGet K (gA K x) Str.empty && (PySem.W.hasDictIn K (gA K x) && (PySem.W.plainOver K (gA K x) && (sameO (PySem.W.findIn K (.ref (gA K x)) "__setattr__") (some (some (.builtin "object.__setattr__"))) &&
  (sameO (PySem.W.findIn K (.ref (gA K x)) "__class__") (some (some (.builtin "object.__class__"))) && (sameO (PySem.W.specialIn K (.builtin "object.__class__") "__get__") (some (some (.builtin "getset_descriptor.__get__"))) &&
  (decide (PySem.W.takesIn K (.builtin "object.__class__") = some true) && decide (PySem.W.mroIn K (gA K x) (.type "object") = some true)))))))
def tMk (x : Str) (K : Fr) : Bool := PySem.W.makesIn K (gA K x) && (PySem.W.keepIn K (.ref (gA K x)) && tGlo x K)
def tPrp (x m : Str) (K : Fr) : Bool := sameO (PySem.W.findIn K (.ref (gA K x)) m) (some (some (.ref (mA K x m)))) && (sameO (PySem.W.specialIn K (.ref (mA K x m)) "__get__") (some (some (.builtin "property.__get__"))) && (decide (PySem.W.takesIn K (.ref (mA K x m)) = some true) &&
  (match PySem.W.recIn K (mA K x m) "property" with
  | some (.ref _ :: _) => true
  | _ => false)))
def tMeth (x m : Str) (K : Fr) : Bool := sameO (PySem.W.findIn K (.ref (gA K x)) m) (some (some (.ref (mA K x m)))) && (decide (PySem.W.typeIn K (.ref (mA K x m)) = some (.type "function")) && PySem.W.keepIn K (.ref (mA K x m)))
mutual
def isV (K : Fr) : D → Value → Bool
  | .non, .none => true
  | .bl b, .bool c => b == c
  | .int i, .int j _ => decide (i = j)
  | .str x, .str y _ => decide (x = y)
  | .tup ds, .ref a => (match K.lookup a with
    | some ⟨.type t, _, .seq its _, _⟩ => decide (t = "tuple") && (decide (its.size ≤ 1000) && isVs K ds its.toList)
    | _ => false)
  | _, _ => false
def isVs (K : Fr) : List D → List Value → Bool
  | [], [] => true
  | d :: ds, v :: vs => isV K d v && isVs K ds vs
  | _, _ => false
end
def tCon (x : Str) (d : D) (K : Fr) : Bool := match PySem.W.nsIn K mainGlobals x with
  | some (some u) => isV K d u
  | _ => false
/-- where a def stands, its names, its text; whether it has the cell of its class -/
structure Df where
  at_ : Str × Option Str
  name : Str
  qual : Str
  st : Stmt
  cell : Bool := false
  prop : Bool := false
/-- the getter of a property -/
def prA (K : Fr) (p : Addr) : Addr := match PySem.W.recIn K p "property" with
  | some (.ref g :: _) => g
  | _ => 0
def adP (K : Fr) : Bool → Str × Option Str → Addr
  | false, p => He.fAd K p
  | true, p => prA K (He.fAd K p)
def Df.ad (K : Fr) (d : Df) : Addr := adP K d.prop d.at_
abbrev FnO : Type := Option (Str × Str × Arguments × FuncBody × Scope × Addr × List Str × Addr)
def fnO (K : Fr) (p : Addr) : FnO := match K.lookup p with
  | some ⟨_, _, .func fd, _⟩ => some (fd.name, fd.qualname, fd.params, fd.body, fd.scope, fd.globals, fd.closure.map (·.1), fd.builtins)
  | _ => none
def cellN : Bool → List Str
  | true => ["__class__"]
  | false => []
def Df.val (d : Df) : FnO := some (d.name, d.qual, defArgs d.st, .stmts (defBody d.st), defScope d.st, mainGlobals, cellN d.cell, builtinsNs)
def codeT (K : Fr) (p : Addr) (q : Str) (dfl : Value → Bool) : Bool := PySem.W.keepIn K (.ref p) && (match K.lookup p with
  | some ⟨_, _, .func fd, _⟩ => PySem.W.codeIn K fd.code q && dfl fd.defaults
  | _ => false)
def noDfl : Value → Bool
  | .none => true
  | _ => false
def dflV (K : Fr) (dvs : List V) : Value → Bool
  | .ref T => (match K.lookup T with
    | some ⟨_, _, .seq its _, _⟩ => He.relAll dvs its.toList
    | _ => false)
  | _ => false
def dflD (K : Fr) (ds : List D) : Value → Bool
  | .ref T => (match K.lookup T with
    | some ⟨_, _, .seq its _, _⟩ => isVs K ds its.toList
    | _ => false)
  | _ => false
def tFn (d : Df) (K : Fr) : Bool := codeT K (d.ad K) d.qual noDfl
def tFnV (d : Df) (dvs : List V) (K : Fr) : Bool := codeT K (d.ad K) d.qual (dflV K dvs)
def tFnD (d : Df) (ds : List D) (K : Fr) : Bool := codeT K (d.ad K) d.qual (dflD K ds)
/-- the class of an error: its object -/
def tXo (x : Str) (K : Fr) : Bool := match K.lookup (gA K x) with
  | some ⟨.type t, _, .cls cd, sl⟩ => (match cd.mro, sl.toList with
    | .ref C' :: bm, [_, _, _, _, some (.builtin n), _] => decide (t = "type") && (decide (C' = gA K x) && (decide (n = "ValueError.__new__") && (!cd.hasDel && (cd.hasDict && PySem.HandSPX.refsVE bm))))
    | _, _ => false)
  | _ => false
def isCell (K : Fr) (cc C : Addr) : Bool := match K.lookup cc with
  | some ⟨_, _, .cell (some (.ref C')), _⟩ => decide (C' = C)
  | _ => false
def isCode (K : Fr) (cda : Addr) (file : Str) : Bool := match K.lookup cda with
  | some ⟨_, _, .fields cvs, _⟩ => (match (cvs[2]? : Option Value) with
    | some (Value.str f _) => decide (f = file)
    | _ => false)
  | _ => false
/-- its __init__ -/
def tXi (x : Str) (q file : Str) (K : Fr) : Bool := PySem.W.keepIn K (.ref (He.fAd K (x, some "__init__"))) && (match K.lookup (He.fAd K (x, some "__init__")) with
  | some ⟨_, _, .func fd, _⟩ => (match fd.closure, fd.code with
    | [(_, cc)], .ref cda => noDfl fd.defaults && (PySem.W.codeIn K (.ref cda) q && (isCode K cda file && isCell K cc (gA K x)))
    | _, _ => false)
  | _ => false)
/-- all else of such a class -/
def tXr (x : Str) (K : Fr) : Bool := sameO (PySem.W.findIn K (.ref (gA K x)) "__init__") (some (some (.ref (mA K x "__init__")))) && (decide (PySem.W.typeIn K (.ref (mA K x "__init__")) = some (.type "function")) &&
  (sameO (PySem.W.findIn K (.ref (gA K x)) "__setattr__") (some (some (.builtin "object.__setattr__"))) && (decide (PySem.W.subIn K (.ref (gA K x)) (.type "BaseException") = some true) && (decide (PySem.W.typeIn K (.ref (gA K x)) = some (.type "type")) &&
  (PySem.W.keepIn K (.ref (gA K x)) && ((PySem.W.clsIn K (gA K x)).isSome && (decide (PySem.W.mroIn K (gA K x) (.ref (gA K x)) = some true) && (sameO (PySem.W.ks_superIn K (gA K x) (gA K x) "__init__") (some (some (.builtin "ValueError.__init__"))) &&
  decide (PySem.W.subIn K (.ref (gA K x)) (.type "ValueError") = some true)))))))))
def tXh (x : Str) (K : Fr) : Bool := sameO (PySem.W.findIn K (.ref (gA K x)) "__getattribute__") (some (some (.builtin "BaseException.__getattribute__"))) && (sameO (PySem.W.findIn K (.ref (gA K x)) "__getattr__") (some none) && (decide (PySem.W.subIn K (.ref (gA K x)) (.type "BaseException") = some true) && PySem.W.hasDictIn K (gA K x)))
def tExI (x : Str) (K : Fr) : Bool := tXh x K && (sameO (PySem.W.findIn K (.ref (gA K x)) "__class__") (some (some (.builtin "object.__class__"))) && (sameO (PySem.W.specialIn K (.builtin "object.__class__") "__get__") (some (some (.builtin "getset_descriptor.__get__"))) &&
  (decide (PySem.W.takesIn K (.builtin "object.__class__") = some true) && decide (PySem.W.mroIn K (gA K x) (.type "object") = some true))))
def tKiT (x : Str) (t : String) (b : Bool) (K : Fr) : Bool := decide (PySem.W.kitOne K (.ref (gA K x)) (.type t) = some b)
def tSt (y : Str) (K : Fr) : Bool := sameO (PySem.W.nsIn K cStatics y) (some none)
abbrev AlH : Type := Bool × List FnO
def obsK (fs : List (Fr → Bool)) (fn : List Df) (K : Fr) : AlH := (fs.all fun f => f K, fn.map fun d => fnO K (d.ad K))
def valK (fn : List Df) : AlH := (true, fn.map Df.val)
def obsH (as : List Addr) (fs : List (Fr → Bool)) (fn : List Df) (g : Addr → Option Obj) : AlH := obsK fs fn (He.frG g as)
def hookH (as : List Addr) (fs : List (Fr → Bool)) (fn : List Df) : PySem.W.Hook where
  α := AlH
  obs := fun s => obsH as fs fn s.heap.get?
  val := fun _ => valK fn
  says := fun _ h => ∃ K : Fr, K.In h ∧ obsK fs fn K = valK fn
  of := fun _ _ e => ⟨_, He.frG_in, e⟩
  keeps := fun _ _ _ ⟨K, hK, c⟩ k => ⟨K, PySem.W.Frag.In.keeps hK k, c⟩
def tExs : List Str → Str → Nat → Nat → Fr → Bool
  | [], _, _, _, _ => true
  | y :: r, x, c, i, K => decide (PySem.W.exmOne K (.ref (gA K y)) (.ref (gA K x)) = some (i == c)) && tExs r x c (i + 1) K
theorem obsH_eq {as : List Addr} {fs : List (Fr → Bool)} {fn : List Df} {g : Addr → Option Obj} {s : Shared} (h : ∀ a, g a = s.heap.get? a) : obsH as fs fn g = (hookH as fs fn).obs s := by
  have e : g = s.heap.get? := funext h
  rw [e] <;> rfl
/-- two runs with parts of the tests are one run with all -/
theorem run_join {r : PySem.W.OpenRow} {q : Program} {as : List Addr} {fs1 fs2 : List (Fr → Bool)} {fn1 fn2 : List Df} {M : Nat} {loose : List Str} {w : World}
    (e1 : HandSHeadRun.RunEqI r q (hookH as fs1 fn1) (fun s => obsH as fs1 fn1 (HandSHeadRun.getT s)) M loose w) (e2 : HandSHeadRun.RunEqI r q (hookH as fs2 fn2) (fun s => obsH as fs2 fn2 (HandSHeadRun.getT s)) M loose w) :
    HandSHeadRun.RunEqI r q (hookH as (fs1 ++ fs2) (fn1 ++ fn2)) (fun s => obsH as (fs1 ++ fs2) (fn1 ++ fn2) (HandSHeadRun.getT s)) M loose w := by
  unfold HandSHeadRun.RunEqI at *
  generalize HandSHeadRun.wholeF _ _ _ _ = o at *
  cases o with
  | none => cases e1
  | some x =>
    have a := Option.some.inj e1
    have b := Option.some.inj e2
    have a1 := congrArg (fun z => z.2.2) a
    have b1 := congrArg (fun z => z.2.2) b
    have a2 := congrArg (fun z => z.1) a
    have a3 := congrArg (fun z => z.2.1) a
    have c : obsH as (fs1 ++ fs2) (fn1 ++ fn2) (HandSHeadRun.getT x.2) = valK (fn1 ++ fn2) := by
      have a4 : obsH as fs1 fn1 (HandSHeadRun.getT x.2) = valK fn1 := a1
      have b4 : obsH as fs2 fn2 (HandSHeadRun.getT x.2) = valK fn2 := b1
      unfold obsH obsK valK at *
      obtain ⟨a5, a6⟩ := Prod.mk.inj a4
      obtain ⟨b5, b6⟩ := Prod.mk.inj b4
      rw [List.all_append, List.map_append, List.map_append, a5, a6, b5, b6]
      rfl
    refine congrArg some (Prod.ext a2 (Prod.ext a3 c))
end Fd
set_option Elab.async false
set_option linter.all false
set_option maxRecDepth 100000
set_option maxHeartbeats 8000000
namespace Law
open PySem PySem.Spec PyProof.Rows L2 Fd
def top (i : Nat) : Stmt := PySem.Challenge.pw_stillarms_k09_spots_and_directions_let_a.main.body.getD i (.Pass ⟨0, 0, 0, 0⟩)
abbrev s_is_whole : Stmt := top 11
abbrev s_is_ratio : Stmt := top 12
abbrev s_lowest_terms : Stmt := top 13
abbrev s_plus : Stmt := top 14
abbrev s_minus : Stmt := top 15
abbrev s_times : Stmt := top 16
abbrev s_over : Stmt := top 17
abbrev s_negative : Stmt := top 18
abbrev s_is_spot : Stmt := top 24
abbrev s_check_spot : Stmt := top 25
abbrev s_square_sum : Stmt := top 26
abbrev s_is_direction : Stmt := top 27
abbrev s_check_direction : Stmt := top 28
abbrev s_check_half : Stmt := top 29
abbrev s_direction_by : Stmt := top 30
abbrev s_half_of : Stmt := top 31
abbrev s_add_halves : Stmt := top 32
abbrev s_turn_along : Stmt := top 33
abbrev s_turned_by : Stmt := top 34
abbrev s_quarter_direction : Stmt := top 35
abbrev s_turned_quarters : Stmt := top 36
abbrev s_opposite_of : Stmt := top 37
abbrev s_mirrored_direction : Stmt := top 38
abbrev s_cosine_between : Stmt := top 39
abbrev s_sine_between : Stmt := top 40
abbrev s_law_hand : Stmt := top 42
abbrev s_law_take : Stmt := top 43
abbrev s_law_gcd : Stmt := top 44
abbrev s_law_ratio : Stmt := top 45
abbrev s_law_plus : Stmt := top 46
abbrev s_law_less : Stmt := top 47
abbrev s_law_times : Stmt := top 48
abbrev s_law_over : Stmt := top 49
abbrev s_law_is_ratio : Stmt := top 50
abbrev s_law_mark : Stmt := top 51
abbrev s_law_direction : Stmt := top 52
abbrev s_law_half : Stmt := top 53
abbrev s_law_wide : Stmt := top 54
abbrev s_law_any_half : Stmt := top 55
abbrev s_law_square : Stmt := top 56
abbrev s_law_same : Stmt := top 57
abbrev s_law_same_row : Stmt := top 58
abbrev s_law_truth : Stmt := top 59
abbrev s_law_form : Stmt := top 60
abbrev s_law_is_spot : Stmt := top 61
abbrev s_law_is_direction : Stmt := top 62
abbrev s_law_odd : Stmt := top 63
abbrev s_law_spoilt_direction : Stmt := top 64
abbrev s_law_spoilt_half : Stmt := top 65
abbrev s_law_is_half : Stmt := top 66
abbrev s_law_called : Stmt := top 67
abbrev s_law_told : Stmt := top 68
abbrev s_law_due : Stmt := top 69
abbrev s_law_quarters : Stmt := top 70
abbrev s_law : Stmt := top 71
abbrev i_BadRatio : Stmt := inClass (top 3) 0
abbrev i_BadSpot : Stmt := inClass (top 4) 0
abbrev i_BadDirection : Stmt := inClass (top 5) 0
abbrev i_BadHalf : Stmt := inClass (top 6) 0
abbrev i_BadQuarters : Stmt := inClass (top 7) 0
def fileS : Str := PySem.Challenge.pw_stillarms_k09_spots_and_directions_let_a.main.file
def errN : List Str := ["BadRatio", "BadSpot", "BadDirection", "BadHalf", "BadQuarters"]
def d_is_whole : Df := ⟨("is_whole", none), "is_whole", "is_whole", s_is_whole, false, false⟩
def d_is_ratio : Df := ⟨("is_ratio", none), "is_ratio", "is_ratio", s_is_ratio, false, false⟩
def d_lowest_terms : Df := ⟨("lowest_terms", none), "lowest_terms", "lowest_terms", s_lowest_terms, false, false⟩
def d_plus : Df := ⟨("plus", none), "plus", "plus", s_plus, false, false⟩
def d_minus : Df := ⟨("minus", none), "minus", "minus", s_minus, false, false⟩
def d_times : Df := ⟨("times", none), "times", "times", s_times, false, false⟩
def d_over : Df := ⟨("over", none), "over", "over", s_over, false, false⟩
def d_negative : Df := ⟨("negative", none), "negative", "negative", s_negative, false, false⟩
def d_is_spot : Df := ⟨("is_spot", none), "is_spot", "is_spot", s_is_spot, false, false⟩
def d_check_spot : Df := ⟨("check_spot", none), "check_spot", "check_spot", s_check_spot, false, false⟩
def d_square_sum : Df := ⟨("square_sum", none), "square_sum", "square_sum", s_square_sum, false, false⟩
def d_is_direction : Df := ⟨("is_direction", none), "is_direction", "is_direction", s_is_direction, false, false⟩
def d_check_direction : Df := ⟨("check_direction", none), "check_direction", "check_direction", s_check_direction, false, false⟩
def d_check_half : Df := ⟨("check_half", none), "check_half", "check_half", s_check_half, false, false⟩
def d_direction_by : Df := ⟨("direction_by", none), "direction_by", "direction_by", s_direction_by, false, false⟩
def d_half_of : Df := ⟨("half_of", none), "half_of", "half_of", s_half_of, false, false⟩
def d_add_halves : Df := ⟨("add_halves", none), "add_halves", "add_halves", s_add_halves, false, false⟩
def d_turn_along : Df := ⟨("turn_along", none), "turn_along", "turn_along", s_turn_along, false, false⟩
def d_turned_by : Df := ⟨("turned_by", none), "turned_by", "turned_by", s_turned_by, false, false⟩
def d_quarter_direction : Df := ⟨("quarter_direction", none), "quarter_direction", "quarter_direction", s_quarter_direction, false, false⟩
def d_turned_quarters : Df := ⟨("turned_quarters", none), "turned_quarters", "turned_quarters", s_turned_quarters, false, false⟩
def d_opposite_of : Df := ⟨("opposite_of", none), "opposite_of", "opposite_of", s_opposite_of, false, false⟩
def d_mirrored_direction : Df := ⟨("mirrored_direction", none), "mirrored_direction", "mirrored_direction", s_mirrored_direction, false, false⟩
def d_cosine_between : Df := ⟨("cosine_between", none), "cosine_between", "cosine_between", s_cosine_between, false, false⟩
def d_sine_between : Df := ⟨("sine_between", none), "sine_between", "sine_between", s_sine_between, false, false⟩
def d_law_hand : Df := ⟨("_law_hand", none), "_law_hand", "_law_hand", s_law_hand, false, false⟩
def d_law_take : Df := ⟨("_law_take", none), "_law_take", "_law_take", s_law_take, false, false⟩
def d_law_gcd : Df := ⟨("_law_gcd", none), "_law_gcd", "_law_gcd", s_law_gcd, false, false⟩
def d_law_ratio : Df := ⟨("_law_ratio", none), "_law_ratio", "_law_ratio", s_law_ratio, false, false⟩
def d_law_plus : Df := ⟨("_law_plus", none), "_law_plus", "_law_plus", s_law_plus, false, false⟩
def d_law_less : Df := ⟨("_law_less", none), "_law_less", "_law_less", s_law_less, false, false⟩
def d_law_times : Df := ⟨("_law_times", none), "_law_times", "_law_times", s_law_times, false, false⟩
def d_law_over : Df := ⟨("_law_over", none), "_law_over", "_law_over", s_law_over, false, false⟩
def d_law_is_ratio : Df := ⟨("_law_is_ratio", none), "_law_is_ratio", "_law_is_ratio", s_law_is_ratio, false, false⟩
def d_law_mark : Df := ⟨("_law_mark", none), "_law_mark", "_law_mark", s_law_mark, false, false⟩
def d_law_direction : Df := ⟨("_law_direction", none), "_law_direction", "_law_direction", s_law_direction, false, false⟩
def d_law_half : Df := ⟨("_law_half", none), "_law_half", "_law_half", s_law_half, false, false⟩
def d_law_wide : Df := ⟨("_law_wide", none), "_law_wide", "_law_wide", s_law_wide, false, false⟩
def d_law_any_half : Df := ⟨("_law_any_half", none), "_law_any_half", "_law_any_half", s_law_any_half, false, false⟩
def d_law_square : Df := ⟨("_law_square", none), "_law_square", "_law_square", s_law_square, false, false⟩
def d_law_same : Df := ⟨("_law_same", none), "_law_same", "_law_same", s_law_same, false, false⟩
def d_law_same_row : Df := ⟨("_law_same_row", none), "_law_same_row", "_law_same_row", s_law_same_row, false, false⟩
def d_law_truth : Df := ⟨("_law_truth", none), "_law_truth", "_law_truth", s_law_truth, false, false⟩
def d_law_form : Df := ⟨("_law_form", none), "_law_form", "_law_form", s_law_form, false, false⟩
def d_law_is_spot : Df := ⟨("_law_is_spot", none), "_law_is_spot", "_law_is_spot", s_law_is_spot, false, false⟩
def d_law_is_direction : Df := ⟨("_law_is_direction", none), "_law_is_direction", "_law_is_direction", s_law_is_direction, false, false⟩
def d_law_odd : Df := ⟨("_law_odd", none), "_law_odd", "_law_odd", s_law_odd, false, false⟩
def d_law_spoilt_direction : Df := ⟨("_law_spoilt_direction", none), "_law_spoilt_direction", "_law_spoilt_direction", s_law_spoilt_direction, false, false⟩
def d_law_spoilt_half : Df := ⟨("_law_spoilt_half", none), "_law_spoilt_half", "_law_spoilt_half", s_law_spoilt_half, false, false⟩
def d_law_is_half : Df := ⟨("_law_is_half", none), "_law_is_half", "_law_is_half", s_law_is_half, false, false⟩
def d_law_called : Df := ⟨("_law_called", none), "_law_called", "_law_called", s_law_called, false, false⟩
def d_law_told : Df := ⟨("_law_told", none), "_law_told", "_law_told", s_law_told, false, false⟩
def d_law_due : Df := ⟨("_law_due", none), "_law_due", "_law_due", s_law_due, false, false⟩
def d_law_quarters : Df := ⟨("_law_quarters", none), "_law_quarters", "_law_quarters", s_law_quarters, false, false⟩
def d_x_BadRatio : Df := ⟨("BadRatio", some "__init__"), "__init__", "BadRatio.__init__", i_BadRatio, true, false⟩
def d_x_BadSpot : Df := ⟨("BadSpot", some "__init__"), "__init__", "BadSpot.__init__", i_BadSpot, true, false⟩
def d_x_BadDirection : Df := ⟨("BadDirection", some "__init__"), "__init__", "BadDirection.__init__", i_BadDirection, true, false⟩
def d_x_BadHalf : Df := ⟨("BadHalf", some "__init__"), "__init__", "BadHalf.__init__", i_BadHalf, true, false⟩
def d_x_BadQuarters : Df := ⟨("BadQuarters", some "__init__"), "__init__", "BadQuarters.__init__", i_BadQuarters, true, false⟩
def d_law : Df := ⟨("law", none), "law", "law", s_law, false, false⟩
def hdq0 (K : Fr) : Bool := tFree "abs" K && (tFree "bool" K && (tFree "int" K && (tFree "isinstance" K && (tFree "len" K && (tFree "list" K && (tFree "range" K && (tFree "repr" K && (tFree "tuple" K && (tBlt "gcd" "math.gcd" K && (tCon "DOWN" (.tup [.tup [.int 0, .int 1], .tup [.int (-1), .int 1]]) K && (tCon "LEFT" (.tup [.tup [.int (-1), .int 1], .tup [.int 0, .int 1]]) K && (tCon "ONE" (.tup [.int 1, .int 1]) K && (tCon "RIGHT" (.tup [.tup [.int 1, .int 1], .tup [.int 0, .int 1]]) K && (tCon "UP" (.tup [.tup [.int 0, .int 1], .tup [.int 1, .int 1]]) K && (tCon "ZERO" (.tup [.int 0, .int 1]) K)))))))))))))))
def hdq1 (K : Fr) : Bool := tGlo "is_whole" K && (tFnV d_is_whole [.non, .non] K && (tGlo "is_ratio" K && (tFn d_is_ratio K && (tGlo "lowest_terms" K && (tFn d_lowest_terms K && (tGlo "plus" K && (tFn d_plus K && (tGlo "minus" K && (tFn d_minus K && (tGlo "times" K && (tFn d_times K && (tGlo "over" K && (tFn d_over K && (tGlo "negative" K && (tFn d_negative K)))))))))))))))
def hdq2 (K : Fr) : Bool := tGlo "is_spot" K && (tFn d_is_spot K && (tGlo "check_spot" K && (tFn d_check_spot K && (tGlo "square_sum" K && (tFn d_square_sum K && (tGlo "is_direction" K && (tFn d_is_direction K && (tGlo "check_direction" K && (tFn d_check_direction K && (tGlo "check_half" K && (tFn d_check_half K && (tGlo "direction_by" K && (tFn d_direction_by K && (tGlo "half_of" K && (tFn d_half_of K)))))))))))))))
def hdq3 (K : Fr) : Bool := tGlo "add_halves" K && (tFn d_add_halves K && (tGlo "turn_along" K && (tFn d_turn_along K && (tGlo "turned_by" K && (tFn d_turned_by K && (tGlo "quarter_direction" K && (tFn d_quarter_direction K && (tGlo "turned_quarters" K && (tFn d_turned_quarters K && (tGlo "opposite_of" K && (tFn d_opposite_of K && (tGlo "mirrored_direction" K && (tFn d_mirrored_direction K && (tGlo "cosine_between" K && (tFn d_cosine_between K)))))))))))))))
def hdq4 (K : Fr) : Bool := tGlo "sine_between" K && (tFn d_sine_between K && (tGlo "_law_hand" K && (tFn d_law_hand K && (tGlo "_law_take" K && (tFn d_law_take K && (tGlo "_law_gcd" K && (tFn d_law_gcd K && (tGlo "_law_ratio" K && (tFn d_law_ratio K && (tGlo "_law_plus" K && (tFn d_law_plus K && (tGlo "_law_less" K && (tFn d_law_less K && (tGlo "_law_times" K && (tFn d_law_times K)))))))))))))))
def hdq5 (K : Fr) : Bool := tGlo "_law_over" K && (tFn d_law_over K && (tGlo "_law_is_ratio" K && (tFn d_law_is_ratio K && (tGlo "_law_mark" K && (tFn d_law_mark K && (tGlo "_law_direction" K && (tFn d_law_direction K && (tGlo "_law_half" K && (tFn d_law_half K && (tGlo "_law_wide" K && (tFn d_law_wide K && (tGlo "_law_any_half" K && (tFn d_law_any_half K && (tGlo "_law_square" K && (tFn d_law_square K)))))))))))))))
def hdq6 (K : Fr) : Bool := tGlo "_law_same" K && (tFn d_law_same K && (tGlo "_law_same_row" K && (tFn d_law_same_row K && (tGlo "_law_truth" K && (tFn d_law_truth K && (tGlo "_law_form" K && (tFn d_law_form K && (tGlo "_law_is_spot" K && (tFn d_law_is_spot K && (tGlo "_law_is_direction" K && (tFn d_law_is_direction K && (tGlo "_law_odd" K && (tFn d_law_odd K && (tGlo "_law_spoilt_direction" K && (tFn d_law_spoilt_direction K)))))))))))))))
def hdq7 (K : Fr) : Bool := tGlo "_law_spoilt_half" K && (tFn d_law_spoilt_half K && (tGlo "_law_is_half" K && (tFn d_law_is_half K && (tGlo "_law_called" K && (tFn d_law_called K && (tGlo "_law_told" K && (tFn d_law_told K && (tGlo "_law_due" K && (tFn d_law_due K && (tGlo "_law_quarters" K && (tFn d_law_quarters K && (tGlo "BadRatio" K && (tXo "BadRatio" K && (tXi "BadRatio" "BadRatio.__init__" fileS K && (tXr "BadRatio" K)))))))))))))))
def hdq8 (K : Fr) : Bool := tFree "super" K && (tSt "thirdparty.any" K && (tNoAt "BadRatio" "what" K && (tGlo "BadSpot" K && (tXo "BadSpot" K && (tXi "BadSpot" "BadSpot.__init__" fileS K && (tXr "BadSpot" K && (tXh "BadSpot" K && (tExs errN "BadSpot" 1 0 K && (tExI "BadSpot" K && (tGlo "ArmError" K && (tKit "BadSpot" "ArmError" true K && (tFree "ValueError" K && (tKiT "BadSpot" "ValueError" true K && (tGlo "BadDirection" K && (tXo "BadDirection" K)))))))))))))))
def hdq9 (K : Fr) : Bool := tXi "BadDirection" "BadDirection.__init__" fileS K && (tXr "BadDirection" K && (tXh "BadDirection" K && (tExs errN "BadDirection" 2 0 K && (tExI "BadDirection" K && (tKit "BadDirection" "ArmError" true K && (tKiT "BadDirection" "ValueError" true K && (tGlo "BadHalf" K && (tXo "BadHalf" K && (tXi "BadHalf" "BadHalf.__init__" fileS K && (tXr "BadHalf" K && (tXh "BadHalf" K && (tExs errN "BadHalf" 3 0 K && (tExI "BadHalf" K && (tKit "BadHalf" "ArmError" true K && (tKiT "BadHalf" "ValueError" true K)))))))))))))))
def hdq10 (K : Fr) : Bool := tGlo "BadQuarters" K && (tXo "BadQuarters" K && (tXi "BadQuarters" "BadQuarters.__init__" fileS K && (tXr "BadQuarters" K && (tXh "BadQuarters" K && (tExs errN "BadQuarters" 4 0 K && (tExI "BadQuarters" K && (tKit "BadQuarters" "ArmError" true K && (tKiT "BadQuarters" "ValueError" true K && (tGlo "law" K && (tFn d_law K))))))))))
def hdFs1 : List (Fr → Bool) := [hdq0, hdq1, hdq2, hdq3, hdq4]
def hdFs2 : List (Fr → Bool) := [hdq5, hdq6, hdq7, hdq8, hdq9, hdq10]
def hdFs : List (Fr → Bool) := hdFs1 ++ hdFs2
def hdFn1 : List Df := [d_is_whole, d_is_ratio, d_lowest_terms, d_plus, d_minus, d_times, d_over, d_negative, d_is_spot, d_check_spot, d_square_sum, d_is_direction, d_check_direction, d_check_half, d_direction_by, d_half_of, d_add_halves, d_turn_along, d_turned_by, d_quarter_direction, d_turned_quarters, d_opposite_of, d_mirrored_direction, d_cosine_between, d_sine_between, d_law_hand, d_law_take, d_law_gcd, d_law_ratio, d_law_plus]
def hdFn2 : List Df := [d_law_less, d_law_times, d_law_over, d_law_is_ratio, d_law_mark, d_law_direction, d_law_half, d_law_wide, d_law_any_half, d_law_square, d_law_same, d_law_same_row, d_law_truth, d_law_form, d_law_is_spot, d_law_is_direction, d_law_odd, d_law_spoilt_direction, d_law_spoilt_half, d_law_is_half, d_law_called, d_law_told, d_law_due, d_law_quarters, d_x_BadRatio, d_x_BadSpot, d_x_BadDirection, d_x_BadHalf, d_x_BadQuarters, d_law]
def hdFn : List Df := hdFn1 ++ hdFn2
def hdN0 : List Str := ["ArmError", "BadRatio", "BadSpot", "BadDirection", "BadHalf", "BadQuarters", "ZERO", "ONE", "is_whole", "is_ratio", "lowest_terms", "plus", "minus", "times", "over", "negative", "UP", "LEFT", "DOWN", "RIGHT", "is_spot", "check_spot", "square_sum", "is_direction", "check_direction", "check_half", "direction_by", "half_of", "add_halves", "turn_along"]
def hdN1 : List Str := ["turned_by", "quarter_direction", "turned_quarters", "opposite_of", "mirrored_direction", "cosine_between", "sine_between", "_law_hand", "_law_take", "_law_gcd", "_law_ratio", "_law_plus", "_law_less", "_law_times", "_law_over", "_law_is_ratio", "_law_mark", "_law_direction", "_law_half", "_law_wide", "_law_any_half", "_law_square", "_law_same", "_law_same_row", "_law_truth", "_law_form", "_law_is_spot", "_law_is_direction", "_law_odd", "_law_spoilt_direction"]
def hdN2 : List Str := ["_law_spoilt_half", "_law_is_half", "_law_called", "_law_told", "_law_due", "_law_quarters"]
def hdN : List Str := hdN0 ++ hdN1 ++ hdN2
abbrev hdR : PySem.W.OpenRow := PySem.W.OpenLaw.row PySem.Challenge.rw_stillarms_k09_spots_and_directions_let_a
abbrev hdV : Program := PySem.W.view hdR.prog [0, 71]
def hdAds : List Addr := [2, 3, 51, 52, 59, 70, 71, 73, 74, 80, 91, 92, 94, 95, 101, 112, 113, 115, 116, 122, 133, 134, 136, 137, 143, 154, 155, 157, 158, 161, 162, 163, 169, 170, 176, 177, 183, 184, 190, 191, 197, 198, 204, 205, 211, 212, 218, 219, 220, 221, 222, 223, 224, 225, 226, 227, 228, 229, 230, 231, 237, 238, 244, 245, 251, 252, 258, 259, 265, 266, 272, 273, 279, 280, 286, 287, 293, 294, 300, 301, 307, 308, 314, 315, 321, 322, 328, 329, 335, 336, 342, 343, 349, 350, 356, 357, 363, 364, 370, 371, 377, 378, 384, 385, 391, 392, 398, 399, 405, 406, 412, 413, 419, 420, 426, 427, 433, 434, 440, 441, 447, 448, 454, 455, 461, 462, 466, 467, 473, 474, 480, 481, 487, 488, 494, 495, 501, 502, 508, 509, 515, 516, 522, 523, 529, 530, 536, 537, 543, 544, 550, 551, 557, 558]
abbrev hdK : PySem.W.Hook := hookH hdAds hdFs hdFn
def hdO (s : PySem.W.SharedT) : AlH := obsH hdAds hdFs hdFn (HandSHeadRun.getT s)
theorem hdO_eq (s : PySem.W.SharedT) : hdO s = hdK.obs s.abs := obsH_eq (HandSHeadRun.getT_eq s)
end Law
set_option Elab.async false
set_option linter.all false
set_option maxRecDepth 100000
set_option maxHeartbeats 8000000
namespace Law
open PySem PySem.Spec PyProof.Rows L2 Fd
theorem hdRun1 (w : World) : HandSHeadRun.RunEqI hdR hdV (hookH hdAds hdFs1 hdFn1) (fun s => obsH hdAds hdFs1 hdFn1 (HandSHeadRun.getT s)) 30000 hdN w := by
  unfold HandSHeadRun.RunEqI
  kernel_rfl
theorem hdRun2 (w : World) : HandSHeadRun.RunEqI hdR hdV (hookH hdAds hdFs2 hdFn2) (fun s => obsH hdAds hdFs2 hdFn2 (HandSHeadRun.getT s)) 30000 hdN w := by
  unfold HandSHeadRun.RunEqI
  kernel_rfl
theorem hdRun (w : World) : HandSHeadRun.RunEqI hdR hdV hdK hdO 30000 hdN w := run_join (hdRun1 w) (hdRun2 w)
end Law
set_option Elab.async false
set_option linter.all false
set_option maxRecDepth 100000
set_option maxHeartbeats 4000000
namespace Fd
open PySem PySem.Spec PyProof.Rows L2
/-! ## promises -/
inductive Rs where
  | dat (d : D) | new (ds : List D)
inductive Res where
  | ret (r : Rs) | exc (x : Exn) | bad
section
variable (K : PySem.W.Frag) (ct : Nat → Addr)
def RepRes (H H' : Hp) (v : V) : Rs → Prop
  | .dat d => RepD K ct H' v d
  | .new ds => ∃ a vs, v = .ref a ∧ H a = none ∧ H' a = some (.lst vs) ∧ RepDs K ct H' vs ds
def GoodP (H : Hp) (o : Res) (Q : VK) (E : XK) : Prop := match o with
  | .ret r => ∀ v H', Same H H' → RepRes K ct H H' v r → Q v H'
  | .exc x => ∀ cl d H', Same H H' → RepX K ct H' x cl d → E cl d H'
  | .bad => False
def spP (n : Nat) (F : List D → Res) : Sp := fun vs H Q E => vs.length = n ∧ ∃ ds, RepDs K ct H vs ds ∧ GoodP K ct H (F ds) Q E
def HandR (ah g : Addr) (H : Hp) (h : Hand) : Prop := H ah = some (.lst [.ref g, .int h.mixed, .int h.cnt]) ∧ H g = some (.lst (h.great.map V.int))
def RepA (ah : Addr) (H : Hp) (v : V) : SV → Prop
  | .dat d => RepD K ct H v d
  | .hand => v = .ref ah
  | .fn c => v = .ref (ct c)
  | .ref _ => False
def GoodH (ah g : Addr) (H : Hp) (o : Res × Hand) (Q : VK) : Prop := match o with
  | (.ret r, h') => ∀ v H' g', (∀ a o, H a = some o → a ≠ ah → a ≠ g → H' a = some o) → (∀ a, H a ≠ none → H' a ≠ none) → HandR ah g' H' h' → (g' = g ∨ H g' = none) → RepRes K ct H H' v r → (∀ ds, r = .new ds → v ≠ .ref g') → Q v H'
  | _ => False
def spH (n : Nat) (F : List SV → Hand → Res × Hand) : Sp := fun vs H Q _ => vs.length = n ∧ ∃ ah g h xs, HandR ah g H h ∧ Paired (RepA K ct ah H) vs xs ∧ GoodH K ct ah g H (F xs h) Q
end
/-! ## calls of own defs -/
def toRes (r : Res) : M RV := fun s => match r with
  | .ret (.dat d) => .ok (RD d) s
  | .ret (.new ds) => .ok (.new (ds.map SV.dat)) s
  | .exc x => .exc x s
  | .bad => .bad
def callM (n : Nat) (F : List D → Res) (dd : List D) (xs : List SV) : M RV := match datL xs with
  | some ds => if (ds ++ dd).length = n then toRes (F (ds ++ dd)) else stuck
  | none => stuck
def noRef : SV → Bool
  | .ref _ => false
  | _ => true
def callH (n : Nat) (F : List SV → Hand → Res × Hand) (dd : List D) (xs : List SV) : M RV := fun s => match s.hd with
  | some (.hand h) => if (xs ++ dd.map SV.dat).length = n then if xs.all noRef = true then match F (xs ++ dd.map SV.dat) h with
    | (.ret (.dat d), h') => .ok (RD d) { s with hd := some h' }
    | (.ret (.new ds), h') => .ok (.new (ds.map SV.dat)) { s with hd := some h' }
    | _ => .bad
    else .bad else .bad
  | _ => .bad
section
variable {K : PySem.W.Frag} {ct : Nat → Addr} {W : WX} {γ γ1 : G} {s s1 : S} {H H1 : Hp} {σ : L2.St}
theorem step_same (k : Same H H1) : Step γ γ s s H H1 := ⟨fun a o e _ => k a o e, fun _ z => .inl z, fun a o e _ => k a o e, fun a z q => z (by cases e : H a with | none => rfl | some o => rw [k a o e] at q; cases q), fun _ _ => rfl, Nat.le_refl _, rfl, fun _ h1 h2 => absurd h2 (Nat.not_lt.mpr h1)⟩
theorem good_res {r : Res} {Q : VK} (R : Rep K ct γ H σ s) (g : Good K ct W σ γ s H (toRes r s) Q) : GoodP K ct H r Q (WE W σ) := by
  cases r with
  | bad => exact g
  | exc x => exact fun cl d H' k q => g cl d γ H' (step_same k) (R.kept k) q
  | ret r =>
    cases r with
    | dat d => exact fun v H' k q => g v γ H' (step_same k) (R.kept k) q
    | new ds =>
      intro v H' k q
      obtain ⟨a, vs, rfl, e0, e, p⟩ := q
      exact g _ γ H' (step_same k) (R.kept k) ⟨a, vs, rfl, e0, e, R.notOwn_free e0, rep_map p⟩
theorem hand_step (R : Rep K ct γ H σ s) {h h' : Hand} (eh : s.hd = some (.hand h)) {g' : Addr} (k : ∀ a o, H a = some o → a ≠ γ.ah → a ≠ γ.g → H1 a = some o) (th : ∀ a, H a ≠ none → H1 a ≠ none) (hr : HandR γ.ah g' H1 h') (hg : g' = γ.g ∨ H g' = none) :
    Step γ { γ with g := g' } s { s with hd := some h' } H H1 ∧ Rep K ct { γ with g := g' } H1 σ { s with hd := some h' } := by
  have nn : s.hd ≠ none := by rw [eh]; exact fun z => by cases z
  have st : Step γ { γ with g := g' } s { s with hd := some h' } H H1 := by
    refine ⟨fun a o e n => k a o e (fun z => n (.inr ⟨nn, .inl z⟩)) (fun z => n (.inr ⟨nn, .inr z⟩)), fun a z => ?_, fun a o e i => ?_, th, fun _ _ => rfl, Nat.le_refl _, rfl, fun _ h1 h2 => absurd h2 (Nat.not_lt.mpr h1)⟩
    · rcases z with ⟨j, lj, rfl⟩ | ⟨_, z⟩
      · exact .inl (.inl ⟨j, lj, rfl⟩)
      · rcases z with z | z
        · exact .inl (.inr ⟨nn, .inl z⟩)
        · have z' : a = g' := z
          rcases hg with q | q
          · exact .inl (.inr ⟨nn, .inr (z'.trans q)⟩)
          · exact .inr (by rw [z']; exact q)
    · have n := R.imm_notOwn e i
      exact k a o e (fun z => n (.inr ⟨nn, .inl z⟩)) (fun z => n (.inr ⟨nn, .inr z⟩))
  refine ⟨st, R.len, fun i x ex => ?_, fun j ys ey => ?_, R.inj, fun h2 e2 => ?_, fun _ j lj => ?_⟩
  · obtain ⟨v, q, r⟩ := R.env i x ex
    exact ⟨v, q, r.mono st⟩
  · obtain ⟨vs, q, r⟩ := R.mem j ys ey
    have hk := R.hdk nn j ⟨ys, ey⟩
    exact ⟨vs, k _ _ q hk.1 hk.2, RepSs.mono st r⟩
  · have e2' : some (Hd.hand h') = some h2 := e2
    cases e2'
    exact hr
  · have hk := R.hdk nn j lj
    refine ⟨hk.1, ?_⟩
    rcases hg with q | q
    · show γ.kp j ≠ g'
      rw [q]; exact hk.2
    · obtain ⟨ys, ey⟩ := lj
      obtain ⟨vs, q2, _⟩ := R.mem j ys ey
      show γ.kp j ≠ g'
      intro z
      rw [z, q] at q2; cases q2
theorem repA_of {n : Nat} : ∀ {xs : List SV} {vs : List V}, xs.all noRef = true → Paired (RepS K ct γ n H) vs xs → Paired (RepA K ct γ.ah H) vs xs := by
  intro xs
  induction xs with
  | nil => intro vs _ h; cases h; exact .nil
  | cons x xs ih =>
    intro vs a h
    rw [List.all_cons, Bool.and_eq_true] at a
    cases h with
    | cons r t =>
      refine .cons ?_ (ih a.2 t)
      cases x with
      | dat d => exact r
      | hand => exact r
      | fn c => exact r
      | ref k => exact absurd a.1 (by simp [noRef])
theorem repA_append {ah : Addr} {vs us : List V} {xs ys : List SV} (r : Paired (RepA K ct ah H) vs xs) (q : Paired (RepA K ct ah H) us ys) : Paired (RepA K ct ah H) (vs ++ us) (xs ++ ys) := by
  induction r with
  | nil => exact q
  | cons h t ih => exact .cons h ih
theorem repA_map {ah : Addr} : ∀ {ds : List D} {vs : List V}, RepDs K ct H vs ds → Paired (RepA K ct ah H) vs (ds.map SV.dat) := by
  intro ds
  induction ds with
  | nil => intro vs h; cases h; exact .nil
  | cons d ds ih => intro vs h; cases h with | cons r t => exact .cons r (ih t)
end
section
variable {X : Cx} {ct : Nat → Addr} {W : WX} {pos p : Pos} {x : Str} {e : Expr} {es : List Expr} {m : M RV} {mA : M (List SV)} {k : Nat} {f : Addr} {fd : FuncData} {ps : List Str} {dvs : List V} {ds : List Value} {dd : List D}
theorem ed_call {F : List D → Res} (FK : FnOk X.prog X.w X.K X.mg X.base (L2.CX X.prog X.w) k f fd ps (spP X.K ct ps.length F)) (hr : Room k X.A) (hg : Gl X x) (hm : X.mg x = some (.ref f)) (hk : PySem.W.keepIn X.K (.ref f) = true) (hb : Binds X.K fd ps ds) (hd : Vals dvs ds) (hdd : ∀ H, RepDs X.K ct H dvs dd)
    (tk : Takes X W) (ha : AD X ct W (e :: es) mA) (hdb : (x == ("__debug__" : Str)) = false := by decide) (he : starEach (e :: es) X.env = (false, eval e X.env) :: starEach es X.env := by rfl) (hpl : (backTo pos (starEach es X.env)).any (·.1) = false := by rfl) :
    ED X ct W (.Call (.Name x p) (e :: es) [] pos) (bnd mA (callM ps.length F dd)) := by
  obtain ⟨t, pt, r⟩ := ha.ex
  refine ⟨_, pe_callSD FK hr hg hm hk hb hd (fun σ => passAt tk σ) pt hdb he hpl, fun σ H γ s Q R h => ?_⟩
  refine r σ H γ s _ R (use_a h (fun _ _ z => z) fun xs s1 vs γ1 H1 t1 R1 q1 g => ?_)
  unfold callM at g
  cases e1 : datL xs with
  | none => simp only [e1] at g; exact False.elim g
  | some es =>
    simp only [e1] at g
    have w := (datL_rep e1 q1).append (hdd H1)
    by_cases c : (es ++ dd).length = ps.length
    · rw [if_pos c] at g
      exact ⟨by rw [w.length]; exact c, _, w, good_res R1 (Good.step t1 g)⟩
    · rw [if_neg c] at g; exact False.elim g
theorem ed_callH {F : List SV → Hand → Res × Hand} (FK : FnOk X.prog X.w X.K X.mg X.base (L2.CX X.prog X.w) k f fd ps (spH X.K ct ps.length F)) (hr : Room k X.A) (hg : Gl X x) (hm : X.mg x = some (.ref f)) (hk : PySem.W.keepIn X.K (.ref f) = true) (hb : Binds X.K fd ps ds) (hd : Vals dvs ds) (hdd : ∀ H, RepDs X.K ct H dvs dd)
    (tk : Takes X W) (ha : AD X ct W (e :: es) mA) (hdb : (x == ("__debug__" : Str)) = false := by decide) (he : starEach (e :: es) X.env = (false, eval e X.env) :: starEach es X.env := by rfl) (hpl : (backTo pos (starEach es X.env)).any (·.1) = false := by rfl) :
    ED X ct W (.Call (.Name x p) (e :: es) [] pos) (bnd mA (callH ps.length F dd)) := by
  obtain ⟨t, pt, r⟩ := ha.ex
  refine ⟨_, pe_callSD FK hr hg hm hk hb hd (fun σ => passAt tk σ) pt hdb he hpl, fun σ H γ s Q R h => ?_⟩
  refine r σ H γ s _ R (use_a h (fun _ _ z => z) fun xs s1 vs γ1 H1 t1 R1 q1 g => ?_)
  unfold callH at g
  cases eh : s1.hd with
  | none => simp only [eh] at g; exact False.elim g
  | some hd0 =>
    cases hd0 with
    | me c0 ds0 => simp only [eh] at g; exact False.elim g
    | dic kds => simp only [eh] at g; exact False.elim g
    | hand hh =>
    simp only [eh] at g
    have hA : HandAt γ1 H1 hh := R1.hd _ eh
    by_cases c : (xs ++ dd.map SV.dat).length = ps.length
    · rw [if_pos c] at g
      by_cases c2 : xs.all noRef = true
      · rw [if_pos c2] at g
        have g1 : Good X.K ct W σ γ1 s1 H1 _ Q := Good.step t1 g
        have wl : (vs ++ dvs).length = ps.length := by
          rw [List.length_append] at c ⊢
          rw [Paired.length q1, (hdd H1).length]
          simpa using c
        refine ⟨wl, γ1.ah, γ1.g, hh, _, hA, repA_append (repA_of c2 q1) (repA_map (hdd H1)), ?_⟩
        cases e3 : F (xs ++ dd.map SV.dat) hh with
        | mk o h' =>
          rw [e3] at g1
          cases o with
          | bad => exact False.elim g1
          | exc x => exact False.elim g1
          | ret rr =>
            intro v H' g' k th hr' hg' q nv
            obtain ⟨st, R2⟩ := hand_step R1 eh k th hr' hg'
            cases rr with
            | dat d => exact g1 v _ H' st R2 q
            | new ds =>
              obtain ⟨a, vs, rfl, e0, ea, p⟩ := q
              refine g1 _ _ H' st R2 ⟨a, vs, rfl, e0, ea, fun z => ?_, rep_map p⟩
              rcases z with ⟨j, ⟨ys, ey⟩, rfl⟩ | ⟨_, z⟩
              · obtain ⟨us, q2, _⟩ := R1.mem j ys ey
                rw [q2] at e0; cases e0
              · rcases z with z | z
                · have z' : a = γ1.ah := z
                  rw [z', hA.1] at e0; cases e0
                · have z' : a = g' := z
                  exact nv _ rfl (by rw [z'])
      · rw [if_neg c2] at g; exact False.elim g
    · rw [if_neg c] at g; exact False.elim g

/-! ## statements -/
variable {st : Stmt} {rest sts sts2 : List Stmt} {mf mg : M Fl} {a b : Expr}
def seqF (mf mg : M Fl) : M Fl := bnd mf fun f => match f with
  | .nx => mg
  | f => pur f
theorem goodS_nx {K : PySem.W.Frag} {γ : G} {s : S} {H : Hp} {σ : L2.St} {N : Ends} (R : Rep K ct γ H σ s) (g : GoodS K ct W γ s H (.ok .nx s) N) : N.nx σ H := g σ γ H Step.refl R
theorem sds_nil : SDs X ct W [] (pur .nx) := ⟨_, pss_nil, fun N σ H γ s R h => goodS_nx R h⟩
theorem sds_one (h : SD X ct W st mf) : SDs X ct W [st] mf := by
  obtain ⟨t, p, r⟩ := h.ex
  exact ⟨t, pss_one p, r⟩
theorem use_s {K : PySem.W.Frag} {γ : G} {s : S} {H : Hp} {N : Ends} {u : TS} {mf mg : M Fl} (h : GoodS K ct W γ s H (seqF mf mg s) N)
    (k : ∀ s1 σ1 γ1 H1, Step γ γ1 s s1 H H1 → Rep K ct γ1 H1 σ1 s1 → GoodS K ct W γ1 s1 H1 (mg s1) N → u N σ1 H1) : GoodS K ct W γ s H (mf s) { N with nx := u N } :=
  Out.post.imp (post_bnd h) (fun f s1 q => by
    cases f with
    | nx => exact fun σ1 γ1 H1 t1 R1 => k s1 σ1 γ1 H1 t1 R1 (GoodS.step t1 q)
    | bk => exact q
    | ct => exact q
    | rt r => exact q) fun _ _ z => z
theorem sds_cons (h : SD X ct W st mf) (hr : SDs X ct W rest mg) : SDs X ct W (st :: rest) (seqF mf mg) := by
  obtain ⟨t, p, r⟩ := h.ex
  obtain ⟨t2, p2, r2⟩ := hr.ex
  exact ⟨_, pss_cons p p2, fun N σ H γ s R h => r _ σ H γ s R (use_s h fun s1 σ1 γ1 H1 t1 R1 g => r2 N σ1 H1 γ1 s1 R1 g)⟩
theorem sd_pass : SD X ct W (.Pass pos) (pur .nx) := ⟨_, ps_pass, fun N σ H γ s R h => goodS_nx R h⟩
theorem sd_break : SD X ct W (.Break pos) (pur .bk) := ⟨_, ps_break, fun N σ H γ s R h => h σ γ H Step.refl R⟩
theorem sd_continue : SD X ct W (.Continue pos) (pur .ct) := ⟨_, ps_continue, fun N σ H γ s R h => h σ γ H Step.refl R⟩
def retF (m : M RV) : M Fl := bnd m fun r => pur (.rt r)
theorem sd_ret (h : ED X ct W e m) : SD X ct W (.Return (some e) pos) (retF m) := by
  obtain ⟨t, p, r⟩ := h.ex
  refine ⟨_, ps_ret p, fun N σ H γ s R h => ?_⟩
  exact r σ H γ s _ R (use_e h (fun _ _ z => z.at) fun x s1 v γ1 H1 t1 R1 q1 g => g v σ γ1 H1 t1 R1 q1)
theorem sd_retN : SD X ct W (.Return none pos) (pur (.rt RN)) := ⟨_, ps_retN, fun N σ H γ s R h => h .non σ γ H Step.refl R RepD.non⟩
def dropF (m : M RV) : M Fl := bnd m fun _ => pur .nx
theorem sd_expr (h : ED X ct W e m) (hs : swapsWith e none pos.line X.env = pure false := by rfl) : SD X ct W (.Expr e pos) (dropF m) := by
  obtain ⟨t, p, r⟩ := h.ex
  refine ⟨_, ps_expr p hs, fun N σ H γ s R h => ?_⟩
  exact r σ H γ s _ R (use_e h (fun _ _ z => z.at) fun x s1 v γ1 H1 t1 R1 q1 g => g σ γ1 H1 t1 R1)
def ifF (tc : M Bool) (mf mg : M Fl) : M Fl := bnd tc fun b => if b = true then mf else mg
theorem sd_if {c : Expr} {tc : M Bool} (hc : TD X ct W c tc) (h1 : SDs X ct W sts mf) (h2 : SDs X ct W sts2 mg) : SD X ct W (.If c sts sts2 pos) (ifF tc mf mg) := by
  obtain ⟨t, p, r⟩ := hc.ex
  obtain ⟨t1, p1, r1⟩ := h1.ex
  obtain ⟨t2, p2, r2⟩ := h2.ex
  refine ⟨_, ps_if p p1 p2, fun N σ H γ s R h => ?_⟩
  refine r σ H γ s _ R (use_t h (fun _ _ z => z.at) fun b s1 γ1 H1 t1 R1 g => ?_)
  cases b with
  | true => exact r1 N σ H1 γ1 s1 R1 (GoodS.step t1 g)
  | false => exact r2 N σ H1 γ1 s1 R1 (GoodS.step t1 g)
/-! targets -/
/-- a target: the slots that it may change, what it does with a value -/
structure GD (X : Cx) (ct : Nat → Addr) (e : Expr) (is : List Nat) (f : SV → M Unit) : Prop where
  ex : ∃ t, PG X e t ∧ ∀ σ H γ s v x (Q : L2.St → Hp → Prop), Rep X.K ct γ H σ s → RepS X.K ct γ s.mem.length H v x →
    (f x s).post (fun _ s' => ∀ σ' γ' H', Step γ γ' s s' H H' → Rep X.K ct γ' H' σ' s' → (∀ j, j ∉ is → σ'[j]? = σ[j]?) → σ'.length = σ.length → Q σ' H') (fun _ _ => False) → t v σ H Q
structure GDs (X : Cx) (ct : Nat → Addr) (es : List Expr) (is : List Nat) (f : List SV → M Unit) : Prop where
  ex : ∃ t, PGs X es t ∧ ∀ σ H γ s vs xs (Q : L2.St → Hp → Prop), Rep X.K ct γ H σ s → Paired (RepS X.K ct γ s.mem.length H) vs xs →
    (f xs s).post (fun _ s' => ∀ σ' γ' H', Step γ γ' s s' H H' → Rep X.K ct γ' H' σ' s' → (∀ j, j ∉ is → σ'[j]? = σ[j]?) → σ'.length = σ.length → Q σ' H') (fun _ _ => False) → t vs σ H Q
def setV (i : Nat) (x : SV) : M Unit := fun s => .ok () { s with env := s.env.set i (some x) }
theorem rep_set {K : PySem.W.Frag} {γ : G} {s : S} {H : Hp} {σ : L2.St} (R : Rep K ct γ H σ s) {i : Nat} {v : V} {x : SV} (r : RepS K ct γ s.mem.length H v x) : Rep K ct γ H (σ.set i (some v)) { s with env := s.env.set i (some x) } := by
  refine ⟨by simpa using R.len, fun j y e => ?_, R.mem, R.inj, R.hd, R.hdk⟩
  have e' : (s.env.set i (some x))[j]? = some (some y) := e
  by_cases h : i = j
  · subst h
    have hl : i < s.env.length := by
      have := (List.getElem?_eq_some_iff.mp e').1
      simpa using this
    rw [List.getElem?_set_self hl] at e'
    cases e'
    exact ⟨v, List.getElem?_set_self (by rw [R.len]; exact hl), r⟩
  · rw [List.getElem?_set_ne h] at e'
    obtain ⟨u, q, r'⟩ := R.env j y e'
    exact ⟨u, by rw [List.getElem?_set_ne h]; exact q, r'⟩
theorem step_env {γ : G} {s : S} {H : Hp} {env : List (Option SV)} : Step γ γ s { s with env := env } H H := ⟨fun _ _ e _ => e, fun _ h => .inl h, KeepI.refl, fun _ z => z, fun _ _ => rfl, Nat.le_refl _, rfl, fun _ h1 h2 => absurd h2 (Nat.not_lt.mpr h1)⟩
theorem gd_name {i : Nat} {x : Str} (hp : PG X (.Name x pos) (gName i)) : GD X ct (.Name x pos) [i] (setV i) :=
  ⟨_, hp, fun σ H γ s v x Q R r h => h _ γ H step_env (rep_set R r) (fun j hj => List.getElem?_set_ne (by simpa [eq_comm] using hj)) (by simp)⟩
theorem gds_nil : GDs X ct [] [] (fun xs => match xs with | [] => pur () | _ => stuck) := by
  refine ⟨_, pgs_nil, fun σ H γ s vs xs Q R r h => ?_⟩
  cases xs with
  | nil => cases r; exact ⟨rfl, h σ γ H Step.refl R (fun _ _ => rfl) rfl⟩
  | cons x xs => exact False.elim h
def consG (f : SV → M Unit) (g : List SV → M Unit) (xs : List SV) : M Unit := match xs with
  | [] => stuck
  | x :: xs => bnd (f x) fun _ => g xs
theorem gds_cons {is js : List Nat} {f : SV → M Unit} {g : List SV → M Unit} (h : GD X ct e is f) (hr : GDs X ct es js g) (hs : (assignEach (e :: es) X.env).map (·.2) = assign e X.env :: (assignEach es X.env).map (·.2) := by rfl) : GDs X ct (e :: es) (is ++ js) (consG f g) := by
  obtain ⟨t, p, r⟩ := h.ex
  obtain ⟨t2, p2, r2⟩ := hr.ex
  refine ⟨_, pgs_cons p p2 hs, fun σ H γ s vs xs Q R q h => ?_⟩
  cases xs with
  | nil => exact False.elim h
  | cons x xs =>
    cases q with
    | cons q1 q2 =>
      refine ⟨_, _, rfl, r σ H γ s _ x _ R q1 (Out.post.imp (post_bnd h) (fun _ s1 g σ1 γ1 H1 t1 R1 a1 l1 => ?_) fun _ _ z => z)⟩
      exact r2 σ1 H1 γ1 s1 _ xs Q R1 (RepSs.mono t1 q2) (Out.post.imp g (fun _ s2 k σ2 γ2 H2 t2 R2 a2 l2 => k σ2 γ2 H2 (t1.trans t2) R2 (fun j hj => by
        rw [List.mem_append, not_or] at hj
        rw [a2 j hj.2, a1 j hj.1]) (l2.trans l1)) fun _ _ z => z)
def tupG (g : List SV → M Unit) (n : Nat) (x : SV) : M Unit := match x with
  | .dat (.tup ds) => if ds.length = n then g (ds.map SV.dat) else stuck
  | _ => stuck
theorem gd_tup {is : List Nat} {k n : Nat} {g : List SV → M Unit} (hc : X.calm = true) (h : GDs X ct es is g) (hn : (assignEach es X.env).length = n := by rfl) (hst : (assignEach es X.env).findIdx? (·.1) = none := by rfl) : GD X ct (.Tuple es k pos) is (tupG g n) := by
  obtain ⟨t, p, r⟩ := h.ex
  refine ⟨_, pg_tup hc p hn hst, fun σ H γ s v x Q R q h => ?_⟩
  unfold tupG at h
  split at h
  · rename_i ds
    obtain ⟨a, vs, e1, hq, w⟩ := tup_rep (s := s) (H0 := H) (γ := γ) (show RepR X.K ct γ s H H v (RT ds) from q)
    by_cases c : ds.length = n
    · rw [if_pos c] at h
      exact ⟨a, vs, e1, hq, by rw [w.length]; exact c, r σ H γ s vs _ Q R (rep_map w) h⟩
    · rw [if_neg c] at h; exact False.elim h
  · exact False.elim h
def nxU (u : M Unit) : M Fl := fun s => match u s with
  | .ok _ s' => .ok .nx s'
  | _ => .bad
def asgF (m : M RV) (f : SV → M Unit) : M Fl := bnd m fun r => match r with
  | .sv x => nxU (f x)
  | .new _ => stuck
theorem sd_asg {tg : Expr} {is : List Nat} {f : SV → M Unit} (h : ED X ct W e m) (hg : GD X ct tg is f) (hs : swapsWithSole [tg] e pos.line X.env = pure false := by rfl) (hw : swappedStores [tg] e X.env = pure none := by rfl)
    (h1 : (assignEach [tg] X.env).map (·.2) = [assign tg X.env] := by rfl) : SD X ct W (.Assign [tg] e pos) (asgF m f) := by
  obtain ⟨t, p, r⟩ := h.ex
  obtain ⟨t2, p2, r2⟩ := hg.ex
  refine ⟨_, ps_asg p p2 hs hw h1, fun N σ H γ s R h => ?_⟩
  refine r σ H γ s _ R (use_e h (fun _ _ z => z.at) fun x s1 v γ1 H1 t1 R1 q1 g => ?_)
  cases x with
  | new xs => exact False.elim g
  | sv x =>
    refine r2 σ H1 γ1 s1 v x _ R1 q1 ?_
    have g' : (nxU (f x) s1).post (GoodF X.K ct γ s H N) (GoodXS X.K ct W γ s H) := g
    unfold nxU at g'
    cases e2 : f x s1 with
    | bad => rw [e2] at g'; exact g'
    | exc y s2 => rw [e2] at g'; exact False.elim g'
    | ok u s2 =>
      rw [e2] at g'
      exact fun σ2 γ2 H2 t2 R2 _ _ => g' σ2 γ2 H2 (t1.trans t2) R2
end
end Fd
set_option Elab.async false
set_option linter.all false
set_option maxRecDepth 100000
set_option maxHeartbeats 4000000
namespace Fd
open PySem PySem.Spec PyProof.Rows L2
/-! ## what is walked -/
structure Src where
  items : List SV
  keep : Option (Nat × List SV)
def Src.Ok (src : Src) (s : S) : Prop := match src.keep with
  | none => True
  | some (k, xs) => s.mem[k]? = some (some xs)
structure WalkD (K : PySem.W.Frag) (ct : Nat → Addr) (J : It) (src : Src) (γ : G) (s : S) (H : Hp) : Prop where
  ex : ∃ (Gd : Hp → Prop) (Y : Nat → Hp → V → Hp → Prop), L2.Walk J src.items.length Gd Y ∧
    (∀ γ1 s1 H1 σ1, Step γ γ1 s s1 H H1 → Rep K ct γ1 H1 σ1 s1 → src.Ok s1 → Gd H1) ∧
    (∀ i γ1 s1 H1 σ1 x H2 y, Step γ γ1 s s1 H H1 → Rep K ct γ1 H1 σ1 s1 → src.Ok s1 → src.items[i]? = some y → Y i H1 x H2 → Same H1 H2 ∧ RepS K ct γ1 s1.mem.length H2 x y)
structure ID (X : Cx) (ct : Nat → Addr) (W : WX) (tg iter : Expr) (mi : M Src) : Prop where
  ex : ∃ wi, PI X tg iter wi ∧ ∀ σ H γ s (R : It → Hp → Prop), Rep X.K ct γ H σ s →
    (mi s).post (fun src s' => ∀ γ' H' J, Step γ γ' s s' H H' → Rep X.K ct γ' H' σ s' → WalkD X.K ct J src γ' s' H' → R J H') (GoodX X.K ct W σ γ s H) → wi σ H R
def iSeq (K : PySem.W.Frag) (tl : TE) : TI := fun σ H R => tl σ H fun x H1 => ∃ a, x = .ref a ∧ (((∃ xs, SqL K H1 a xs) ∧ R (Itl K a) H1) ∨ ((∃ xs, SqT K H1 a xs) ∧ R (Itt K a) H1))
theorem pi_seq {X : Cx} {tg l : Expr} {tl : TE} (hl : PE X l tl) : PI X tg l (iSeq X.K tl) := by
  refine ⟨fun pins s σ H R I h => ?_⟩
  refine thn (hl.run pins s σ H _ I h) fun v s1 ⟨x, H1, I1, r1, q1⟩ => ?_
  obtain ⟨a, e, ⟨⟨xs, hq⟩, q⟩ | ⟨⟨xs, hq⟩, q⟩⟩ := q1
  · subst e
    cases r1
    obtain ⟨its, rv, p, hz⟩ := I1.list hq
    refine wpAny_pyIter_list p.isList ?_
    refine ⟨s1.heap.objs.size, [s1.heap.objs.size], _, _, H1, rfl, I1.kept (t' := s1.toks) fun b o e => Heap.get?_push_of_some _ e, turn_list a _, ⟨_, Heap.get?_push_size _ rfl, rfl, rfl⟩, fun b hb => ?_, q⟩
    have e : b = s1.heap.objs.size := by simpa using hb
    subst e
    exact I1.fpOk (Nat.le_refl _) (I1.hok.fresh (Nat.le_refl _))
  · subst e
    cases r1
    obtain ⟨its, rv, p, hz⟩ := I1.tuple hq
    refine wpAny_pyIter_tuple (show s1.heap.IsTuple a its.toArray from p) ?_
    refine ⟨s1.heap.objs.size, [s1.heap.objs.size], _, _, H1, rfl, I1.kept (t' := s1.toks) fun b o e => Heap.get?_push_of_some _ e, turn_tuple a _, ⟨_, Heap.get?_push_size _ rfl, rfl, rfl⟩, fun b hb => ?_, q⟩
    have e : b = s1.heap.objs.size := by simpa using hb
    subst e
    exact I1.fpOk (Nat.le_refl _) (I1.hok.fresh (Nat.le_refl _))
section
variable {X : Cx} {ct : Nat → Addr} {W : WX} {pos : Pos} {a b e tg : Expr} {ma mb m : M RV} {es : List Expr}
/-- a list or a tuple -/
def seqSrc : RV → M Src
  | .sv (.dat (.tup ds)) => pur ⟨ds.map SV.dat, none⟩
  | .sv (.dat (.lst ds)) => pur ⟨ds.map SV.dat, none⟩
  | .new xs => pur ⟨xs, none⟩
  | .sv (.ref k) => fun s => match s.mem[k]? with
    | some (some xs) => .ok ⟨xs, some (k, xs)⟩ s
    | _ => .bad
  | _ => stuck
theorem walkD_list {K : PySem.W.Frag} {γ : G} {s : S} {H : Hp} {a : Addr} {xs : List SV} {kp : Option (Nat × List SV)} (hG : ∀ γ1 s1 H1 σ1, Step γ γ1 s s1 H H1 → Rep K ct γ1 H1 σ1 s1 → (Src.mk xs kp).Ok s1 → ∃ vs, SqL K H1 a vs ∧ Paired (RepS K ct γ1 s1.mem.length H1) vs xs) : WalkD K ct (Itl K a) ⟨xs, kp⟩ γ s H := by
  refine ⟨fun H => ∃ us, SqL K H a us ∧ us.length = xs.length, fun i H x H' => H' = H ∧ ∀ us, SqL K H a us → us[i]? = some x, ⟨?_, ?_, ?_⟩, ?_, ?_⟩
  · rintro i H1 hi ⟨us, hq, hl⟩
    have hi' : i < us.length := by rw [hl]; exact hi
    exact ⟨us, us[i], hq, by simp [hi']⟩
  · rintro H1 ⟨us, hq, hl⟩
    exact ⟨us, hq, Nat.le_of_eq hl⟩
  · intro i H1 x H2 hi _ y
    exact y
  · intro γ1 s1 H1 σ1 st R1 ok
    obtain ⟨vs, hq, p⟩ := hG γ1 s1 H1 σ1 st R1 ok
    exact ⟨vs, hq, Paired.length p⟩
  · rintro i γ1 s1 H1 σ1 x H2 y st R1 ok e ⟨rfl, ex⟩
    obtain ⟨vs, hq, p⟩ := hG γ1 s1 _ σ1 st R1 ok
    obtain ⟨v, ev, rv⟩ := paired_get p e
    rw [ex vs hq] at ev; cases ev
    exact ⟨Same.refl _, rv⟩
theorem walkD_tup {K : PySem.W.Frag} {γ : G} {s : S} {H : Hp} {a : Addr} {vs : List V} {ds : List D} (h : SqT K H a vs) (p : RepDs K ct H vs ds) : WalkD K ct (Itt K a) ⟨ds.map SV.dat, none⟩ γ s H := by
  have p' := rep_map (γ := γ) (n := s.mem.length) p
  refine ⟨_, _, by rw [show (Src.mk (ds.map SV.dat) none).items.length = vs.length from (Paired.length p').symm]; exact walk_tup (xs := vs), fun γ1 s1 H1 σ1 st R1 _ => sqT_mono st.imm h, ?_⟩
  rintro i γ1 s1 H1 σ1 x H2 y st R1 ok e ⟨rfl, ex⟩
  obtain ⟨v, ev, rv⟩ := paired_get p' e
  rw [ev] at ex; cases ex
  exact ⟨Same.refl _, rv.mono st⟩
theorem id_seq (h : ED X ct W e m) : ID X ct W tg e (bnd m seqSrc) := by
  obtain ⟨t, p, r⟩ := h.ex
  refine ⟨_, pi_seq p, fun σ H γ s R0 R h => ?_⟩
  refine r σ H γ s _ R (use_e h (fun _ _ z => z) fun x s1 v γ1 H1 t1 R1 q1 g => ?_)
  unfold seqSrc at g
  split at g
  · rename_i ds
    obtain ⟨p1, vs1, rfl, h1, w1⟩ := tup_rep q1
    exact ⟨p1, rfl, .inr ⟨⟨vs1, h1⟩, g γ1 H1 _ t1 R1 (walkD_tup h1 w1)⟩⟩
  · rename_i ds
    have q' : RepD X.K ct H1 v (.lst ds) := q1
    cases q' with
    | lst hq w1 => exact ⟨_, rfl, .inl ⟨⟨_, hq.sq⟩, g γ1 H1 _ t1 R1 (walkD_list fun γ2 s2 H2 σ2 st R2 _ => ⟨_, (hq.mono st.imm).sq, RepSs.mono st (rep_map w1)⟩)⟩⟩
  · rename_i xs
    obtain ⟨a, vs, rfl, e0, ea, na, rp⟩ := q1
    exact ⟨a, rfl, .inl ⟨⟨vs, SqL.of ea⟩, g γ1 H1 _ t1 R1 (walkD_list fun γ2 s2 H2 σ2 st R2 _ => ⟨vs, SqL.of (st.keep a _ ea na), RepSs.mono st rp⟩)⟩⟩
  · rename_i k
    cases e1 : s1.mem[k]? with
    | none => simp only [e1] at g; exact False.elim g
    | some o =>
      cases o with
      | none => simp only [e1] at g; exact False.elim g
      | some xs =>
        simp only [e1] at g
        have q' : k < s1.mem.length ∧ v = .ref (γ1.kp k) := q1
        obtain ⟨hk, rfl⟩ := q'
        obtain ⟨vs, ek, rp⟩ := R1.mem k xs e1
        refine ⟨_, rfl, .inl ⟨⟨vs, SqL.of ek⟩, g γ1 H1 _ t1 R1 (walkD_list fun γ2 s2 H2 σ2 st R2 ok => ?_)⟩⟩
        have ok' : s2.mem[k]? = some (some xs) := ok
        obtain ⟨us, eu, ru⟩ := R2.mem k xs ok'
        rw [st.kp k hk] at eu
        exact ⟨us, SqL.of eu, ru⟩
  · exact False.elim g
/-- range -/
def rangeL (lo : Int) (n : Nat) : List SV := (List.range n).map fun i => .dat (.int (lo + (i : Nat)))
/-- an `if` whose test no kernel ever runs -/
noncomputable def ifC {α : Type} (p : Prop) (a b : α) : α := @ite α p (Classical.propDecidable p) a b
theorem ifC_pos {α : Type} {p : Prop} {a b : α} (h : p) : ifC p a b = a := by
  unfold ifC
  rw [if_pos h]
theorem ifC_neg {α : Type} {p : Prop} {a b : α} (h : ¬ p) : ifC p a b = b := by
  unfold ifC
  rw [if_neg h]
noncomputable def rng1 : List RV → M Src
  | [.sv (.dat (.int j))] => fun s => ifC (-(2 ^ 62) ≤ j ∧ j < 2 ^ 62) (.ok ⟨rangeL 0 j.toNat, none⟩ s) .bad
  | _ => stuck
noncomputable def rng2 : List RV → M Src
  | [.sv (.dat (.int i)), .sv (.dat (.int j))] => fun s => ifC (-(2 ^ 62) ≤ i ∧ i < 2 ^ 62 ∧ -(2 ^ 62) ≤ j ∧ j < 2 ^ 62) (.ok ⟨rangeL i (j - i).toNat, none⟩ s) .bad
  | _ => stuck
theorem walkD_range {K : PySem.W.Frag} {γ : G} {s : S} {H : Hp} {lo : Int} {n : Nat} : WalkD K ct (Itr lo n) ⟨rangeL lo n, none⟩ γ s H := by
  refine ⟨_, _, by rw [show (Src.mk (rangeL lo n) none).items.length = n by simp [rangeL]]; exact walk_range, fun _ _ _ _ _ _ _ => trivial, ?_⟩
  rintro i γ1 s1 H1 σ1 x H2 y st R1 ok e ⟨rfl, rfl⟩
  have e' : ((List.range n).map fun i => (SV.dat (.int (lo + (i : Nat)))))[i]? = some y := e
  rw [List.getElem?_map] at e'
  by_cases hi : i < n
  · rw [List.getElem?_range hi] at e'
    cases e'
    exact ⟨Same.refl _, RepD.int _⟩
  · rw [List.getElem?_eq_none (by simpa using hi)] at e'
    cases e'
variable {mB : M (List RV)} {p : Pos}
theorem id_range1 (hg : Gl X "range") (hm : X.mg "range" = none) (ha : BD X ct W [a] mB) (hs : starEach [a] X.env = [(false, eval a X.env)] := by rfl) : ID X ct W tg (.Call (.Name "range" p) [a] [] pos) (bnd mB rng1) := by
  obtain ⟨t, pt, r⟩ := ha.ex
  refine ⟨_, pi_range1 hg hm pt hs, fun σ H γ s R0 R h => ?_⟩
  refine r σ H γ s _ R (Out.post.imp (post_bnd h) (fun xs s1 g vs γ1 H1 t1 R1 q1 => ?_) fun _ _ z => z)
  unfold rng1 at g
  split at g
  · rename_i j
    cases q1 with
    | cons q1 q2 =>
      cases q2
      by_cases c : -(2 ^ 62) ≤ j ∧ j < 2 ^ 62
      · rw [ifC_pos c] at g
        exact ⟨j, by rw [rep_int q1], c.1, c.2, g γ1 H1 _ t1 R1 walkD_range⟩
      · rw [ifC_neg c] at g; exact False.elim g
  · exact False.elim g
theorem id_range2 (hg : Gl X "range") (hm : X.mg "range" = none) (ha : BD X ct W [a, b] mB) (hs : starEach [a, b] X.env = [(false, eval a X.env), (false, eval b X.env)] := by rfl) (hs2 : starEach [b] X.env = [(false, eval b X.env)] := by rfl) : ID X ct W tg (.Call (.Name "range" p) [a, b] [] pos) (bnd mB rng2) := by
  obtain ⟨t, pt, r⟩ := ha.ex
  refine ⟨_, pi_range2 hg hm pt hs hs2, fun σ H γ s R0 R h => ?_⟩
  refine r σ H γ s _ R (Out.post.imp (post_bnd h) (fun xs s1 g vs γ1 H1 t1 R1 q1 => ?_) fun _ _ z => z)
  unfold rng2 at g
  split at g
  · rename_i i j
    cases q1 with
    | cons q1 q2 =>
      cases q2 with
      | cons q2 q3 =>
        cases q3
        by_cases c : -(2 ^ 62) ≤ i ∧ i < 2 ^ 62 ∧ -(2 ^ 62) ≤ j ∧ j < 2 ^ 62
        · rw [ifC_pos c] at g
          exact ⟨i, j, by rw [rep_int q1, rep_int q2], c, g γ1 H1 _ t1 R1 walkD_range⟩
        · rw [ifC_neg c] at g; exact False.elim g
  · exact False.elim g
/-! ## for -/
open Classical in
noncomputable def forL (ok : S → Prop) (f : SV → M Unit) (body : M Fl) : List SV → M Fl
  | [] => fun s => if ok s then .ok .nx s else .bad
  | x :: xs => fun s => if ok s then match f x s with
    | .ok _ s1 => match body s1 with
      | .ok .nx s2 => forL ok f body xs s2
      | .ok .ct s2 => forL ok f body xs s2
      | .ok .bk s2 => .ok .nx s2
      | .ok (.rt r) s2 => .ok (.rt r) s2
      | .exc x s2 => .exc x s2
      | .bad => .bad
    | _ => .bad
    else .bad
noncomputable def forF (mi : M Src) (f : SV → M Unit) (body : M Fl) : M Fl := bnd mi fun src => forL src.Ok f body src.items
theorem sd_for {it : Expr} {mi : M Src} {f : SV → M Unit} {body : List Stmt} {mb : M Fl} (hp : PassesOwn (model X.prog X.w) X.A X.env X.xe) (hc : X.calm = true) (hi : ID X ct W tg it mi) {is : List Nat} (hg : GD X ct tg is f) (hb : SDs X ct W body mb)
    (hs : ∀ x, foldedSetIterable it X.env x = pure x := by intro _; rfl) : SD X ct W (.For tg it body [] pos) (forF mi f mb) := by
  obtain ⟨wi, pi, ri⟩ := hi.ex
  obtain ⟨tg', pg, rg⟩ := hg.ex
  obtain ⟨tb, pb, rb⟩ := hb.ex
  refine ⟨_, ps_for hp hc pi pg pb hs, fun N σ H γ s R h => ?_⟩
  refine ri σ H γ s _ R (Out.post.imp (post_bnd h) (fun src s1 g γ1 H1 J t1 R1 wd => ?_) fun _ _ z => z.at)
  obtain ⟨Gd, Y, wk, hG, hY⟩ := wd.ex
  refine for_it wk (fun i σ2 H2 => ∃ γ2 s2, Step γ1 γ2 s1 s2 H1 H2 ∧ Rep X.K ct γ2 H2 σ2 s2 ∧ (forL src.Ok f mb (src.items.drop i) s2).post (GoodF X.K ct γ s H N) (GoodXS X.K ct W γ s H)) ⟨γ1, s1, Step.refl, R1, by rw [List.drop_zero]; exact g⟩ ?_ ?_ ?_
  · rintro i σ2 H2 hi ⟨γ2, s2, t2, R2, g2⟩
    refine hG γ2 s2 H2 σ2 t2 R2 ?_
    cases e : src.items.drop i with
    | nil =>
      rw [e] at g2
      by_cases c : src.Ok s2
      · exact c
      · unfold forL at g2; rw [if_neg c] at g2; exact False.elim g2
    | cons y ys =>
      rw [e] at g2
      by_cases c : src.Ok s2
      · exact c
      · unfold forL at g2; rw [if_neg c] at g2; exact False.elim g2
  · rintro i x σ2 H2 H3 hi ⟨γ2, s2, t2, R2, g2⟩ y
    rw [List.drop_eq_getElem_cons hi] at g2
    unfold forL at g2
    by_cases c : src.Ok s2
    · rw [if_pos c] at g2
      obtain ⟨sm, rx⟩ := hY i γ2 s2 H2 σ2 x H3 src.items[i] t2 R2 c (by simp [hi]) y
      have R3 := R2.kept sm
      have t3 : Step γ2 γ2 s2 s2 H2 H3 := step_same sm
      refine rg σ2 H3 γ2 s2 x _ _ R3 rx ?_
      cases e1 : f src.items[i] s2 with
      | bad => rw [e1] at g2; exact False.elim g2
      | exc z s3 => rw [e1] at g2; exact False.elim g2
      | ok u s3 =>
        rw [e1] at g2
        intro σ4 γ4 H4 t4 R4 _ _
        refine rb _ σ4 H4 γ4 s3 R4 ?_
        have tt : Step γ1 γ4 s1 s3 H1 H4 := (t2.trans t3).trans t4
        have tt0 : Step γ γ4 s s3 H H4 := t1.trans tt
        unfold GoodS
        dsimp only at g2
        cases e2 : mb s3 with
        | bad => rw [e2] at g2; exact g2
        | exc z s5 => rw [e2] at g2; exact GoodXS.step tt0 g2
        | ok fl s5 =>
          rw [e2] at g2
          cases fl with
          | nx => exact fun σ5 γ5 H5 t5 R5 => ⟨γ5, s5, tt.trans t5, R5, g2⟩
          | ct => exact fun σ5 γ5 H5 t5 R5 => ⟨γ5, s5, tt.trans t5, R5, g2⟩
          | bk => exact fun σ5 γ5 H5 t5 R5 => g2 σ5 γ5 H5 (tt0.trans t5) R5
          | rt r => exact fun v σ5 γ5 H5 t5 R5 q5 => g2 v σ5 γ5 H5 (tt0.trans t5) R5 (q5.base tt0.there)
    · rw [if_neg c] at g2; exact False.elim g2
  · rintro σ2 H2 ⟨γ2, s2, t2, R2, g2⟩
    rw [List.drop_length] at g2
    unfold forL at g2
    by_cases c : src.Ok s2
    · rw [if_pos c] at g2
      exact g2 σ2 γ2 H2 (t1.trans t2) R2
    · rw [if_neg c] at g2; exact False.elim g2
/-! ## a, b = e1, e2 -/
def parF (i j : Nat) (mA : M (List SV)) : M Fl := bnd mA fun xs s => match xs with
  | [x, y] => .ok .nx { s with env := (s.env.set i (some x)).set j (some y) }
  | _ => .bad
theorem sd_par {i j : Nat} {x y : Str} {px py pt : Pos} {kt k2 pt2} {mA : M (List SV)} (hc : X.calm = true) (hN : X.N.Nodup) (hi : X.N[i]? = some x) (hj : X.N[j]? = some y) (hij : i ≠ j)
    (hx : X.env.scope.names.lookup x = some .local) (hy : X.env.scope.names.lookup y = some .local) (ha : AD X ct W [a, b] mA)
    (hw : swappedStores [.Tuple [.Name x px, .Name y py] kt pt] (.Tuple [a, b] k2 pt2) X.env = pure (some [x, y]))
    (hs : swapsWithSole [.Tuple [.Name x px, .Name y py] kt pt] (.Tuple [a, b] k2 pt2) pos.line X.env = pure false := by rfl) :
    SD X ct W (.Assign [.Tuple [.Name x px, .Name y py] kt pt] (.Tuple [a, b] k2 pt2) pos) (parF i j mA) := by
  obtain ⟨t, pt', r⟩ := ha.ex
  refine ⟨_, ps_par hc hN hi hj hij hx hy pt' hw hs, fun N σ H γ s R h => ?_⟩
  refine r σ H γ s _ R (use_a h (fun _ _ z => z.at) fun xs s1 vs γ1 H1 t1 R1 q1 g => ?_)
  cases q1 with
  | nil => exact False.elim g
  | cons q1 q2 =>
    cases q2 with
    | nil => exact False.elim g
    | cons q2 q3 =>
      cases q3 with
      | cons _ _ => exact False.elim g
      | nil => exact ⟨_, _, rfl, g _ γ1 H1 (t1.trans step_env) (rep_set (rep_set R1 q1) q2)⟩
/-! ## while -/
def whileL (tc : M Bool) (body : M Fl) : Nat → M Fl
  | 0 => stuck
  | n + 1 => fun s => match tc s with
    | .ok true s1 => match body s1 with
      | .ok .nx s2 => whileL tc body n s2
      | .ok .ct s2 => whileL tc body n s2
      | .ok .bk s2 => .ok .nx s2
      | .ok (.rt r) s2 => .ok (.rt r) s2
      | .exc x s2 => .exc x s2
      | .bad => .bad
    | .ok false s1 => .ok .nx s1
    | .exc x s1 => .exc x s1
    | .bad => .bad
end
end Fd
set_option Elab.async false
set_option linter.all false
set_option maxRecDepth 100000
set_option maxHeartbeats 4000000
namespace Fd
open PySem PySem.Spec PyProof.Rows L2
section
variable {X : Cx} {ct : Nat → Addr} {W : WX} {pos : Pos} {a b e tg : Expr} {ma mb m : M RV} {es : List Expr}
/-! ## while -/
theorem sd_while {c : Expr} {body : List Stmt} {tc : M Bool} {mb : M Fl} (n : Nat) (hp : PassesOwn (model X.prog X.w) X.A X.env X.xe) (hc : TD X ct W c tc) (hb : SDs X ct W body mb) : SD X ct W (.While c body [] pos) (whileL tc mb n) := by
  obtain ⟨t, pt, r⟩ := hc.ex
  obtain ⟨tb, pb, rb⟩ := hb.ex
  refine ⟨_, ps_while hp pt pb, fun N σ H γ s R h => ?_⟩
  refine ⟨fun k σ1 H1 => ∃ γ1 s1, Step γ γ1 s s1 H H1 ∧ Rep X.K ct γ1 H1 σ1 s1 ∧ GoodS X.K ct W γ s H (whileL tc mb k s1) N, ⟨n, γ, s, Step.refl, R, h⟩, ?_⟩
  rintro k σ1 H1 ⟨γ1, s1, t1, R1, g⟩
  cases k with
  | zero => exact False.elim g
  | succ k =>
    unfold whileL at g
    refine r σ1 H1 γ1 s1 _ R1 ?_
    unfold GoodT
    cases e1 : tc s1 with
    | bad => simp only [e1] at g; exact g
    | exc z s2 => simp only [e1] at g; exact (GoodXS.step t1 g).at
    | ok bb s2 =>
      simp only [e1] at g
      intro γ2 H2 t2 R2
      have tt := t1.trans t2
      cases bb with
      | false => exact g σ1 γ2 H2 tt R2
      | true =>
        rw [if_pos rfl]
        refine ⟨fun σ' H' => ∃ γ3 s3, Step γ γ3 s s3 H H' ∧ Rep X.K ct γ3 H' σ' s3 ∧ GoodS X.K ct W γ s H (whileL tc mb k s3) N, fun σ' H' q => ⟨k, Nat.lt_succ_self k, q⟩, ?_⟩
        refine rb _ σ1 H2 γ2 s2 R2 ?_
        unfold GoodS
        dsimp only at g
        cases e2 : mb s2 with
        | bad => rw [e2] at g; exact g
        | exc z s5 => rw [e2] at g; exact GoodXS.step tt g
        | ok fl s5 =>
          rw [e2] at g
          cases fl with
          | nx => exact fun σ5 γ5 H5 t5 R5 => ⟨γ5, s5, tt.trans t5, R5, g⟩
          | ct => exact fun σ5 γ5 H5 t5 R5 => ⟨γ5, s5, tt.trans t5, R5, g⟩
          | bk => exact fun σ5 γ5 H5 t5 R5 => g σ5 γ5 H5 (tt.trans t5) R5
          | rt r => exact fun v σ5 γ5 H5 t5 R5 q5 => g v σ5 γ5 H5 (tt.trans t5) R5 (q5.base tt.there)
/-! ## canonical readings -/
end
def tmE (K : PySem.W.Frag) (ct : Nat → Addr) (W : WX) (m : M RV) : TE := fun σ H Q => ∃ γ s, Rep K ct γ H σ s ∧ Good K ct W σ γ s H (m s) Q
def tmT (K : PySem.W.Frag) (ct : Nat → Addr) (W : WX) (m : M Bool) : TT := fun σ H Q => ∃ γ s, Rep K ct γ H σ s ∧ GoodT K ct W σ γ s H (m s) Q
def tmG (K : PySem.W.Frag) (ct : Nat → Addr) (is : List Nat) (f : SV → M Unit) : TG := fun v σ H Q => ∃ γ s x, Rep K ct γ H σ s ∧ RepS K ct γ s.mem.length H v x ∧
  (f x s).post (fun _ s' => ∀ σ' γ' H', Step γ γ' s s' H H' → Rep K ct γ' H' σ' s' → (∀ j, j ∉ is → σ'[j]? = σ[j]?) → σ'.length = σ.length → Q σ' H') (fun _ _ => False)
section
variable {X : Cx} {ct : Nat → Addr} {W : WX} {pos : Pos} {a b e tg : Expr} {ma mb m : M RV} {es : List Expr}
theorem ED.pe (h : ED X ct W e m) : PE X e (tmE X.K ct W m) := by
  obtain ⟨t, p, r⟩ := h.ex
  exact ⟨fun pins s σ H Q I ⟨γ, s', R, g⟩ => p.run pins s σ H Q I (r σ H γ s' Q R g)⟩
theorem TD.pt {m : M Bool} (h : TD X ct W e m) : PT X e (tmT X.K ct W m) := by
  obtain ⟨t, p, r⟩ := h.ex
  exact ⟨fun pins s σ H Q I ⟨γ, s', R, g⟩ => p.run pins s σ H Q I (r σ H γ s' Q R g)⟩
theorem GD.pg {is : List Nat} {f : SV → M Unit} (h : GD X ct e is f) : PG X e (tmG X.K ct is f) := by
  obtain ⟨t, p, r⟩ := h.ex
  exact ⟨fun pins s σ H v u Q I rv ⟨γ, s', x, R, q, g⟩ => p.run pins s σ H v u Q I rv (r σ H γ s' v x Q R q g)⟩
/-! ## [elt for x in it if ..] -/
abbrev WF : WX := fun _ _ _ _ => False
/-- the ifs -/
structure IfsD (X : Cx) (ct : Nat → Addr) (es : List Expr) (m : M Bool) : Prop where
  pts : PTs X es (tmT X.K ct WF m)
theorem ifs_nil : IfsD X ct [] (pur true) := by
  constructor
  have h := pts_nil (X := X)
  exact ⟨fun pins s σ H Q I ⟨γ, s', R, g⟩ => h.run pins s σ H Q I (g γ H Step.refl R)⟩
theorem ifs_one {m : M Bool} (h : TD X ct WF e m) : IfsD X ct [e] m := ⟨pts_one h.pt⟩
def wipeE (env : List (Option SV)) : List Nat → List (Option SV)
  | [] => env
  | v :: vs => (wipeE env vs).set v none
def wipeS (vs : List Nat) (s : S) : S := { s with env := wipeE s.env vs }
theorem wipeE_length (env : List (Option SV)) : ∀ vs, (wipeE env vs).length = env.length
  | [] => rfl
  | v :: vs => by unfold wipeE; rw [List.length_set, wipeE_length env vs]
theorem wipeE_some {env : List (Option SV)} {i : Nat} {x : SV} : ∀ {vs : List Nat}, (wipeE env vs)[i]? = some (some x) → env[i]? = some (some x) ∧ i ∉ vs
  | [], h => ⟨h, by simp⟩
  | v :: vs, h => by
    unfold wipeE at h
    by_cases hi : v = i
    · subst hi
      by_cases hv : v < (wipeE env vs).length
      · rw [List.getElem?_set_self hv] at h; cases h
      · rw [List.getElem?_eq_none (by simpa using hv)] at h; cases h
    · rw [List.getElem?_set_ne hi] at h
      obtain ⟨h1, h2⟩ := wipeE_some h
      exact ⟨h1, by simp only [List.mem_cons, not_or]; exact ⟨fun e => hi e.symm, h2⟩⟩
theorem wipe_out {σ : L2.St} {i : Nat} : ∀ {vs : List Nat}, i ∉ vs → (wipe σ vs)[i]? = σ[i]?
  | [], _ => rfl
  | v :: vs, h => by
    simp only [List.mem_cons, not_or] at h
    unfold wipe
    rw [List.getElem?_set_ne (fun z => h.1 z.symm)]
    exact wipe_out h.2
theorem wipe_in {σ : L2.St} {i : Nat} : ∀ {vs : List Nat}, i ∈ vs → i < σ.length → (wipe σ vs)[i]? = some none
  | [], h, _ => by simp at h
  | v :: vs, h, hl => by
    unfold wipe
    by_cases e : v = i
    · subst e
      exact List.getElem?_set_self (by rw [wipe_length]; exact hl)
    · rw [List.getElem?_set_ne e]
      rcases List.mem_cons.mp h with z | z
      · exact absurd z.symm e
      · exact wipe_in z hl
theorem wipe_eq {σ σ' : L2.St} {vs : List Nat} (hl : σ'.length = σ.length) (h : ∀ j, j ∉ vs → σ'[j]? = σ[j]?) : wipe σ' vs = wipe σ vs := by
  apply List.ext_getElem?
  intro i
  by_cases hi : i ∈ vs
  · by_cases hb : i < σ.length
    · rw [wipe_in hi hb, wipe_in hi (by rw [hl]; exact hb)]
    · rw [List.getElem?_eq_none (by rw [wipe_length]; omega), List.getElem?_eq_none (by rw [wipe_length]; omega)]
  · rw [wipe_out hi, wipe_out hi, h i hi]
theorem rep_wipe {K : PySem.W.Frag} {γ : G} {s : S} {H : Hp} {σ : L2.St} {vs : List Nat} (R : Rep K ct γ H σ s) : Rep K ct γ H (wipe σ vs) (wipeS vs s) := by
  refine ⟨by rw [wipe_length]; show σ.length = (wipeE s.env vs).length; rw [wipeE_length]; exact R.len, fun i x e => ?_, R.mem, R.inj, R.hd, R.hdk⟩
  obtain ⟨h1, h2⟩ := wipeE_some (show (wipeE s.env vs)[i]? = some (some x) from e)
  obtain ⟨v, q, r⟩ := R.env i x h1
  exact ⟨v, by rw [wipe_out h2]; exact q, r⟩
theorem rep_unwipe {K : PySem.W.Frag} {γ : G} {s : S} {H : Hp} {σ : L2.St} {vs : List Nat} (R : Rep K ct γ H (wipe σ vs) s) : Rep K ct γ H σ s := by
  refine ⟨by rw [← R.len, wipe_length], fun i x e => ?_, R.mem, R.inj, R.hd, R.hdk⟩
  obtain ⟨v, q, r⟩ := R.env i x e
  exact ⟨v, (wipe_some q).1, r⟩
theorem step_wipe {γ : G} {s : S} {H : Hp} {vs : List Nat} : Step γ γ s (wipeS vs s) H H := step_env
open Classical in
noncomputable def lcL (ok : S → Prop) (vs : List Nat) (f : SV → M Unit) (tt : M Bool) (me : M RV) : List SV → List SV → M RV
  | [], acc => fun s => if ok s then .ok (.new acc) s else .bad
  | x :: xs, acc => fun s => if ok s then match f x s with
    | .ok _ s1 => match tt s1 with
      | .ok true s2 => match me s2 with
        | .ok (.sv y) s3 => if acc.length < 100000 then lcL ok vs f tt me xs (acc ++ [y]) (wipeS vs s3) else .bad
        | _ => .bad
      | .ok false s2 => lcL ok vs f tt me xs acc (wipeS vs s2)
      | _ => .bad
    | _ => .bad
    else .bad
noncomputable def lcM (mi : M Src) (vs : List Nat) (f : SV → M Unit) (tt : M Bool) (me : M RV) : M RV := bnd mi fun src s => lcL src.Ok vs f tt me src.items [] (wipeS vs s)
theorem lc_sem {K : PySem.W.Frag} {wi : TI} {mi : M Src} {is vs : List Nat} {f : SV → M Unit} {mt : M Bool} {me : M RV}
    (ri : ∀ σ H γ s (R : It → Hp → Prop), Rep K ct γ H σ s → (mi s).post (fun src s' => ∀ γ' H' J, Step γ γ' s s' H H' → Rep K ct γ' H' σ s' → WalkD K ct J src γ' s' H' → R J H') (GoodX K ct W σ γ s H) → wi σ H R)
    (hv : ∀ j ∈ is, j ∈ vs) {σ : L2.St} {H : Hp} {γ : G} {s : S} {Q : VK} (R : Rep K ct γ H σ s) (h : Good K ct W σ γ s H (lcM mi vs f mt me s) Q) :
    tLc wi (tmG K ct is f) (tmT K ct WF mt) (tmE K ct WF me) vs σ H Q := by
  refine ri σ H γ s _ R (Out.post.imp (post_bnd h) (fun src s1 g γ1 H1 J t1 R1 wd => ?_) fun _ _ z => z)
  intro Dl hD
  obtain ⟨Gd, Y, wk, hG, hY⟩ := wd.ex
  have nfree : H Dl = none := free_of t1.there hD
  refine lc_it wk (fun i H2 => ∃ γ2 s2 acc avs, Step γ1 γ2 s1 s2 H1 H2 ∧ Rep K ct γ2 H2 (wipe σ vs) s2 ∧ H2 Dl = some (.lst avs) ∧ ¬ Own γ2 s2 Dl ∧ Paired (RepS K ct γ2 s2.mem.length H2) avs acc ∧ Good K ct W σ γ s H (lcL src.Ok vs f mt me (src.items.drop i) acc s2) Q) ?_ ?_ ?_ ?_
  · refine ⟨γ1, wipeS vs s1, [], [], step_wipe.trans (Step.laid hD), rep_wipe (R1.laid hD), upd_same, R1.notOwn_free hD, .nil, ?_⟩
    rw [List.drop_zero]
    exact g
  · rintro i H2 hi ⟨γ2, s2, acc, avs, t2, R2, _, _, _, g2⟩
    refine hG γ2 s2 H2 _ t2 R2 ?_
    cases e : src.items.drop i with
    | nil =>
      rw [e] at g2
      by_cases c : src.Ok s2
      · exact c
      · unfold lcL at g2; rw [if_neg c] at g2; exact False.elim g2
    | cons y ys =>
      rw [e] at g2
      by_cases c : src.Ok s2
      · exact c
      · unfold lcL at g2; rw [if_neg c] at g2; exact False.elim g2
  · rintro i x H2 H3 hi ⟨γ2, s2, acc, avs, t2, R2, eD, nD, pa, g2⟩ y
    rw [List.drop_eq_getElem_cons hi] at g2
    unfold lcL at g2
    by_cases c : src.Ok s2
    · rw [if_pos c] at g2
      obtain ⟨sm, rx⟩ := hY i γ2 s2 H2 _ x H3 src.items[i] t2 R2 c (by simp [hi]) y
      have R3 := R2.kept sm
      have t3 : Step γ2 γ2 s2 s2 H2 H3 := step_same sm
      refine ⟨γ2, s2, _, R3, rx, ?_⟩
      cases e1 : f src.items[i] s2 with
      | bad => rw [e1] at g2; exact False.elim g2
      | exc z s3 => rw [e1] at g2; exact False.elim g2
      | ok u s3 =>
        rw [e1] at g2
        try dsimp only at g2
        intro σ4 γ4 H4 t4 R4 a4 l4
        have wq : wipe σ4 vs = wipe σ vs := by
          have e1 : wipe σ4 vs = wipe (wipe σ vs) vs := wipe_eq l4 fun j hj => a4 j fun z => hj (hv j z)
          rw [e1]
          exact wipe_eq (by rw [wipe_length]) fun j hj => wipe_out hj
        refine ⟨wq, ?_⟩
        refine ⟨γ4, s3, R4, ?_⟩
        have tt : Step γ1 γ4 s1 s3 H1 H4 := (t2.trans t3).trans t4
        have stay : ∀ {γa γb sa sb Ha Hb}, Step γa γb sa sb Ha Hb → (∃ av, Ha Dl = some (.lst av) ∧ ¬ Own γa sa Dl) → ∀ av, Ha Dl = some (.lst av) → Hb Dl = some (.lst av) ∧ ¬ Own γb sb Dl := fun {γa γb sa sb Ha Hb} st ⟨_, _, n⟩ av e => by
          refine ⟨st.keep _ _ e n, fun z => ?_⟩
          rcases st.own _ z with q | q
          · exact n q
          · rw [e] at q; cases q
        obtain ⟨e4, n4⟩ := stay (t3.trans t4) ⟨avs, eD, nD⟩ avs eD
        have pa4 := RepSs.mono (t3.trans t4) pa
        unfold GoodT
        cases e2 : mt s3 with
        | bad => rw [e2] at g2; exact False.elim g2
        | exc z s5 => rw [e2] at g2; exact False.elim g2
        | ok bb s5 =>
          rw [e2] at g2
          try dsimp only at g2
          intro γ5 H5 t5 R5
          obtain ⟨e5, n5⟩ := stay t5 ⟨avs, e4, n4⟩ avs e4
          cases bb with
          | false =>
            rw [if_neg (by decide)]
            refine ⟨γ5, wipeS vs s5, acc, avs, (tt.trans t5).trans step_wipe, ?_, e5, n5, RepSs.mono t5 pa4, g2⟩
            rw [← wq]
            exact rep_wipe R5
          | true =>
            rw [if_pos rfl]
            dsimp only at g2
            refine ⟨γ5, s5, R5, ?_⟩
            unfold Good
            cases e3 : me s5 with
            | bad => rw [e3] at g2; exact False.elim g2
            | exc z s6 => rw [e3] at g2; exact False.elim g2
            | ok r s6 =>
              rw [e3] at g2
              try dsimp only at g2
              cases r with
              | new _ => exact False.elim g2
              | sv yv =>
                try dsimp only at g2
                by_cases cl : acc.length < 100000
                · rw [if_pos cl] at g2
                  intro v γ6 H6 t6 R6 q6
                  obtain ⟨e6, n6⟩ := stay t6 ⟨avs, e5, n5⟩ avs e5
                  have pa6 := RepSs.mono t6 (RepSs.mono t5 pa4)
                  refine ⟨avs, e6, by rw [Paired.length pa6]; exact Nat.lt_of_lt_of_le cl (by decide), ?_⟩
                  have ki : KeepI H6 (upd H6 Dl (.lst (avs ++ [v]))) := fun z u ez iz => by
                    rw [upd_ne]
                    · exact ez
                    · rintro rfl; rw [e6] at ez; cases ez; exact iz
                  have ts : Step γ1 γ6 s1 s6 H1 (upd H6 Dl (.lst (avs ++ [v]))) := by
                    have t16 := (tt.trans t5).trans t6
                    refine ⟨fun z u ez nz => ?_, t16.own, fun z u ez iz => ?_, fun z hz => there_upd z (t16.there z hz), t16.kp, t16.len, t16.ah, t16.fresh⟩
                    · rw [upd_ne (ne_of_none ez hD)]; exact t16.keep z u ez nz
                    · rw [upd_ne (ne_of_none ez hD)]; exact t16.imm z u ez iz
                  have m1 : ∀ {v x}, RepS K ct γ6 s6.mem.length H6 v x → RepS K ct γ6 s6.mem.length (upd H6 Dl (.lst (avs ++ [v]))) v x := fun {v x} r => by
                    cases x with
                    | dat d => exact RepD.mono (fun z u ez iz => by
                        rw [upd_ne]
                        · exact ez
                        · rintro rfl; rw [e6] at ez; cases ez; exact iz) r
                    | ref k => exact r
                    | hand => exact r
                    | fn c => exact r
                  have m2 : ∀ (nl : List V) {v x}, RepS K ct γ6 s6.mem.length H6 v x → RepS K ct γ6 s6.mem.length (upd H6 Dl (.lst nl)) v x := fun nl {v x} r => by
                    cases x with
                    | dat d => exact RepD.mono (fun z u ez iz => by
                        rw [upd_ne]
                        · exact ez
                        · rintro rfl; rw [e6] at ez; cases ez; exact iz) r
                    | ref k => exact r
                    | hand => exact r
                    | fn c => exact r
                  have R7 : Rep K ct γ6 (upd H6 Dl (.lst (avs ++ [v]))) σ4 s6 := by
                    refine ⟨R6.len, fun i x ex => ?_, fun k xs ex => ?_, R6.inj, fun h ex => ?_, R6.hdk⟩
                    · obtain ⟨v, q, r⟩ := R6.env i x ex
                      exact ⟨v, q, m2 _ r⟩
                    · obtain ⟨us, q, r⟩ := R6.mem k xs ex
                      refine ⟨us, ?_, Paired.mapP r fun _ _ z => m2 _ z⟩
                      rw [upd_ne]
                      · exact q
                      · rintro rfl; exact n6 (.inl ⟨k, ⟨xs, ex⟩, rfl⟩)
                    · refine RepHd.mono (fun b u q hb => ?_) (fun z u ez iz => by
                        rw [upd_ne]
                        · exact ez
                        · rintro rfl; rw [e6] at ez; cases ez; exact iz) (R6.hd h ex)
                      rw [upd_ne]
                      · exact q
                      · rintro rfl; exact n6 (.inr ⟨by rw [ex]; exact (fun z => by cases z), hb⟩)
                  refine ⟨γ6, wipeS vs s6, acc ++ [yv], avs ++ [v], ts.trans step_wipe, ?_, upd_same, n6, ?_, g2⟩
                  · rw [← wq]
                    exact rep_wipe R7
                  · exact RepDs.appendS (Paired.mapP pa6 fun _ _ z => m2 _ z) (.cons (m2 _ q6) .nil)
                · rw [if_neg cl] at g2; exact False.elim g2
    · rw [if_neg c] at g2; exact False.elim g2
  · rintro H2 ⟨γ2, s2, acc, avs, t2, R2, eD, nD, pa, g2⟩
    rw [List.drop_length] at g2
    unfold lcL at g2
    by_cases c : src.Ok s2
    · rw [if_pos c] at g2
      exact g2 _ γ2 H2 (t1.trans t2) (rep_unwipe R2) ⟨Dl, avs, rfl, nfree, eD, nD, pa⟩
    · rw [if_neg c] at g2; exact False.elim g2
theorem ed_lc {elt it : Expr} {ifs : List Expr} {scope : Scope} {own : List (Str × Nat)} {mi : M Src} {is : List Nat} {f : SV → M Unit} {mt : M Bool} {me : M RV} (hc : X.calm = true) (hN : X.N.Nodup) (hi : ID X ct W tg it mi) (ok : BlkOk X.N X.env.scope scope own) (hv : ∀ j ∈ is, j ∈ own.map (·.2))
    (hg : ∀ (s : Shared) (H : Hp) (C : Addr) (cl : List (Str × Addr)) (fp : List Addr), GD (X.blk s H scope (compEnvC scope cl C X.env) fp) ct tg is f) (ht : ∀ (s : Shared) (H : Hp) (C : Addr) (cl : List (Str × Addr)) (fp : List Addr), IfsD (X.blk s H scope (compEnvC scope cl C X.env) fp) ct ifs mt)
    (he : ∀ (s : Shared) (H : Hp) (C : Addr) (cl : List (Str × Addr)) (fp : List Addr), ED (X.blk s H scope (compEnvC scope cl C X.env) fp) ct WF elt me) (hs : ∀ x, foldedSetIterable it X.env x = pure x := by intro _; rfl) :
    ED X ct W (.ListComp elt [⟨tg, it, ifs, 0⟩] scope pos) (lcM mi (own.map (·.2)) f mt me) := by
  obtain ⟨wi, pi, ri⟩ := hi.ex
  refine ⟨_, pe_lc hc hN pi ok (fun s H C cl fp => (hg s H C cl fp).pg) (fun s H C cl fp => (ht s H C cl fp).pts) (fun s H C cl fp => (he s H C cl fp).pe) hs, fun σ H γ s Q R h => lc_sem ri hv R h⟩
end
end Fd
set_option Elab.async false
set_option linter.all false
set_option maxRecDepth 100000
set_option maxHeartbeats 4000000
namespace Fd
open PySem PySem.Spec PyProof.Rows L2
/-! ## defs -/
def datsR (xs : List SV) : Option Rs := match datL xs with
  | some ds => some (.new ds)
  | none => none
def resV (s : S) : RV → Option Rs
  | .sv (.dat d) => some (.dat d)
  | .sv (.ref k) => match s.mem[k]? with
    | some (some xs) => datsR xs
    | _ => none
  | .sv .hand => none
  | .sv (.fn _) => none
  | .new xs => datsR xs
def resP : Out Fl → Res
  | .ok .nx _ => .ret (.dat .non)
  | .ok (.rt r) s => match resV s r with
    | some x => .ret x
    | none => .bad
  | .ok _ _ => .bad
  | .exc x _ => .exc x
  | .bad => .bad
def startP (n : Nat) (ds : List D) : S := ⟨ds.map (fun d => some (.dat d)) ++ List.replicate (n - ds.length) none, [], none⟩
def runP (n : Nat) (m : M Fl) (ds : List D) : Res := resP (m (startP n ds))
def startH (n : Nat) (xs : List SV) (h : Hand) : S := ⟨xs.map some ++ List.replicate (n - xs.length) none, [], some h⟩
def runH (n : Nat) (m : M Fl) (xs : List SV) (h : Hand) : Res × Hand := match m (startH n xs h) with
  | .ok f s => match s.hd with
    | some (.hand h') => (resP (.ok f s), h')
    | _ => (.bad, h)
  | _ => (.bad, h)
section
variable {K : PySem.W.Frag} {ct : Nat → Addr}
theorem start_rep {N : List Str} {H : Hp} {vs : List V} {xs : List SV} {γ : G} {hd : Option Hd} (h : Paired (RepS K ct γ 0 H) vs xs) (hh : ∀ h, hd = some h → RepHd K ct γ H h) : Rep K ct γ H (L2.start N vs) ⟨xs.map some ++ List.replicate (N.length - xs.length) none, [], hd⟩ := by
  have hl := Paired.length h
  refine ⟨by simp [L2.start, hl], fun i x e => ?_, fun k ys e => by simp at e, fun j k lj => by obtain ⟨ys, e⟩ := lj; simp at e, hh, fun _ k lk => by obtain ⟨ys, e⟩ := lk; simp at e⟩
  have e' : (xs.map some ++ List.replicate (N.length - xs.length) none)[i]? = some (some x) := e
  by_cases hi : i < xs.length
  · rw [List.getElem?_append_left (by simpa using hi), List.getElem?_map] at e'
    cases h2 : xs[i]? with
    | none => rw [h2] at e'; cases e'
    | some y =>
      rw [h2] at e'
      cases e'
      obtain ⟨v, q, r⟩ := paired_get h h2
      refine ⟨v, ?_, r⟩
      unfold L2.start
      rw [List.getElem?_append_left (by rw [List.length_map, hl]; exact hi), List.getElem?_map, q]
      rfl
  · rw [List.getElem?_append_right (by simpa using hi), List.getElem?_replicate] at e'
    split at e' <;> cases e'
theorem datsR_rep {γ : G} {n : Nat} {H0 H : Hp} {a : Addr} {vs : List V} {xs : List SV} {r : Rs} (e : datsR xs = some r) (e0 : H0 a = none) (ea : H a = some (.lst vs)) (p : Paired (RepS K ct γ n H) vs xs) : RepRes K ct H0 H (.ref a) r := by
  unfold datsR at e
  cases h : datL xs with
  | none => rw [h] at e; cases e
  | some ds => rw [h] at e; cases e; exact ⟨a, vs, rfl, e0, ea, datL_rep h p⟩
theorem resV_rep {γ γ0 : G} {s s0 : S} {H0 H : Hp} {σ : L2.St} {v : V} {r : RV} {x : Rs} (e : resV s r = some x) (t : Step γ0 γ s0 s H0 H) (h0 : s0.mem = []) (R : Rep K ct γ H σ s) (q : RepR K ct γ s H0 H v r) : RepRes K ct H0 H v x := by
  cases r with
  | new xs =>
    obtain ⟨a, vs, rfl, e0, ea, _, p⟩ := q
    exact datsR_rep e e0 ea p
  | sv y =>
    cases y with
    | hand => cases e
    | fn c => cases e
    | dat d => cases e; exact q
    | ref k =>
      unfold resV at e
      cases h : s.mem[k]? with
      | none => simp only [h] at e; cases e
      | some o =>
        cases o with
        | none => simp only [h] at e; cases e
        | some xs =>
          simp only [h] at e
          have q' : k < s.mem.length ∧ v = .ref (γ.kp k) := q
          obtain ⟨hk, rfl⟩ := q'
          obtain ⟨vs, ek, p⟩ := R.mem k xs h
          exact datsR_rep e (t.fresh k (by rw [h0]; exact Nat.zero_le _) hk) ek p
end
section
variable {P : Program} {w : World} {K : PySem.W.Frag} {mg : Str → Option Value} {base : Heap} {x qual : Str} {params : Arguments} {body : List Stmt} {scope : Scope} {dvs : List V} {kws : List (Str × V)} {f : Addr} {fd : FuncData} {N ps : List Str} {k : Nat} {ct : Nat → Addr} {m : M Fl}
/-- THE RULE for a def without the hand -/
theorem fnP (F : FunD K x qual params body scope dvs kws f fd) (S : FnScope N ps scope)
    (hb : ∀ (cdv : Value) (A : Around) (outer : List Env) (s : Shared) (H : Hp) (E : XK), Room k (A.deeper (envOfC qual scope s.heap.objs.size f cdv)) →
      SDs (cxOf (L2.CX P w) P w K mg base N qual scope f cdv A outer s H E) ct (fun cls d _ H => E cls d H) body m) : FnOk P w K mg base (L2.CX P w) (k + 1) f fd ps (spP K ct ps.length (runP N.length m)) := by
  refine F.ok S (fun vs H Q E h => h.1) fun cdv A outer s H vs Q E hr h => ?_
  obtain ⟨hl, ds, rp, g⟩ := h
  obtain ⟨t, p, r⟩ := (hb cdv A outer s H E hr).ex
  refine ⟨t, p, ?_⟩
  let γ0 : G := ⟨fun _ => 0, 0, 0⟩
  have R0 : Rep K ct γ0 H (L2.start N vs) (startP N.length ds) := by
    have := start_rep (N := N) (K := K) (ct := ct) (γ := γ0) (hd := none) (rep_map (γ := γ0) (n := 0) rp) (fun h e => by cases e)
    simpa [startP, List.map_map, Function.comp_def] using this
  refine r _ _ _ γ0 _ R0 ?_
  have noOwn : ∀ a, ¬ Own γ0 (startP N.length ds) a := fun a z => by
    rcases z with ⟨j, ⟨ys, e⟩, _⟩ | ⟨z, _⟩
    · simp [startP] at e
    · exact z rfl
  have same : ∀ {γ' s' H'}, Step γ0 γ' (startP N.length ds) s' H H' → Same H H' := fun st a o e => st.keep a o e (noOwn a)
  unfold runP at g
  unfold GoodS
  cases e1 : m (startP N.length ds) with
  | bad => rw [e1] at g; exact g
  | exc y s1 =>
    rw [e1] at g
    exact fun cl d σ' γ' H' st R' q => g cl d H' (same st) q
  | ok fl s1 =>
    rw [e1] at g
    cases fl with
    | nx => exact fun σ' γ' H' st R' => g .non H' (same st) RepD.non
    | bk => exact False.elim g
    | ct => exact False.elim g
    | rt rr =>
      intro v σ' γ' H' st R' q
      unfold resP at g
      cases e2 : resV s1 rr with
      | none => simp only [e2] at g; exact False.elim g
      | some z => simp only [e2] at g; exact g v H' (same st) (resV_rep e2 st rfl R' q)
/-- .. with the hand -/
theorem fnH (F : FunD K x qual params body scope dvs kws f fd) (S : FnScope N ps scope)
    (hb : ∀ (cdv : Value) (A : Around) (outer : List Env) (s : Shared) (H : Hp) (E : XK), Room k (A.deeper (envOfC qual scope s.heap.objs.size f cdv)) →
      SDs (cxOf (L2.CX P w) P w K mg base N qual scope f cdv A outer s H E) ct (fun cls d _ H => E cls d H) body m) : FnOk P w K mg base (L2.CX P w) (k + 1) f fd ps (spH K ct ps.length (runH N.length m)) := by
  refine F.ok S (fun vs H Q E h => h.1) fun cdv A outer s H vs Q E hr h => ?_
  obtain ⟨hl, ah, g0, h0, xs, hh, rp, gd⟩ := h
  obtain ⟨t, p, r⟩ := (hb cdv A outer s H E hr).ex
  refine ⟨t, p, ?_⟩
  let γ0 : G := ⟨fun _ => 0, ah, g0⟩
  have rp' : Paired (RepS K ct γ0 0 H) vs xs := Paired.mapP rp fun v y q => by
    cases y with
    | dat d => exact q
    | hand => exact q
    | fn c => exact q
    | ref k => exact False.elim q
  have R0 : Rep K ct γ0 H (L2.start N vs) (startH N.length xs h0) := start_rep rp' fun h e => by cases e; exact hh
  refine r _ _ _ γ0 _ R0 ?_
  have own0 : ∀ a, Own γ0 (startH N.length xs h0) a → a = ah ∨ a = g0 := fun a z => by
    rcases z with ⟨j, ⟨ys, e⟩, _⟩ | ⟨_, z⟩
    · simp [startH] at e
    · exact z
  unfold runH at gd
  unfold GoodS
  have fin : ∀ {γ' : G} {s1 : Fd.S} {H' : Hp} {σ' : L2.St} {v : V} {rr : Rs} {h' : Hand}, s1.hd = some (.hand h') → GoodH K ct ah g0 H (.ret rr, h') Q → Step γ0 γ' (startH N.length xs h0) s1 H H' → Rep K ct γ' H' σ' s1 → RepRes K ct H H' v rr → (∀ ds, rr = .new ds → ∃ a, v = .ref a ∧ (a ≠ γ'.g)) → Q v H' := by
    intro γ' s1 H' σ' v rr h' eh g st R' q nv
    have hA : HandAt γ' H' h' := R'.hd _ eh
    have nn : s1.hd ≠ none := by rw [eh]; exact fun z => by cases z
    refine g v H' γ'.g (fun a o e n1 n2 => st.keep a o e fun z => (own0 a z).elim n1 n2) st.there (by have := st.ah; exact ⟨by have h1 := hA.1; rw [st.ah] at h1; exact h1, hA.2⟩) ?_ q ?_
    · rcases st.own γ'.g (.inr ⟨nn, .inr rfl⟩) with z | z
      · rcases own0 _ z with z | z
        · exfalso
          have h1 := hA.1
          rw [st.ah] at h1
          have h2 := hA.2
          rw [z] at h2
          have h1' : H' ah = some (.lst [.ref γ'.g, .int h'.mixed, .int h'.cnt]) := h1
          rw [h1'] at h2
          have := HO.lst.inj (Option.some.inj h2)
          cases hg : h'.great with
          | nil => rw [hg] at this; cases this
          | cons i l => rw [hg] at this; cases this
        · exact .inl z
      · exact .inr z
    · intro ds e z
      obtain ⟨a, e1, e2⟩ := nv ds e
      rw [e1] at z
      exact e2 (V.ref.inj z)
  cases e1 : m (startH N.length xs h0) with
  | bad => rw [e1] at gd; exact False.elim gd
  | exc y s1 => rw [e1] at gd; exact False.elim gd
  | ok fl s1 =>
    rw [e1] at gd
    dsimp only at gd
    cases eh : s1.hd with
    | none => rw [eh] at gd; exact False.elim gd
    | some hd0 =>
      cases hd0 with
      | me c0 ds0 => rw [eh] at gd; exact False.elim gd
      | dic kds => rw [eh] at gd; exact False.elim gd
      | hand h' =>
      rw [eh] at gd
      dsimp only at gd
      cases fl with
      | nx => exact fun σ' γ' H' st R' => fin eh gd st R' RepD.non fun ds e => by cases e
      | bk => exact False.elim gd
      | ct => exact False.elim gd
      | rt rr =>
        intro v σ' γ' H' st R' q
        unfold resP at gd
        cases e2 : resV s1 rr with
        | none => simp only [e2] at gd; exact False.elim gd
        | some z =>
          simp only [e2] at gd
          refine fin eh gd st R' (resV_rep e2 st rfl R' q) fun ds e => ?_
          subst e
          have nn : s1.hd ≠ none := by rw [eh]; exact fun z => by cases z
          cases rr with
          | new ys =>
            obtain ⟨a, vs, rfl, e0, ea, na, _⟩ := q
            exact ⟨a, rfl, fun z => na (.inr ⟨nn, .inr z⟩)⟩
          | sv y =>
            cases y with
            | hand => cases e2
            | fn c => cases e2
            | dat d => cases e2
            | ref k =>
              have q' : k < s1.mem.length ∧ v = .ref (γ'.kp k) := q
              refine ⟨_, q'.2, ?_⟩
              unfold resV at e2
              cases h : s1.mem[k]? with
              | none => simp only [h] at e2; cases e2
              | some o =>
                cases o with
                | none => simp only [h] at e2; cases e2
                | some ys => exact (R'.hdk nn k ⟨ys, h⟩).2
end
end Fd
set_option Elab.async false
set_option linter.all false
set_option maxRecDepth 100000
set_option maxHeartbeats 4000000
namespace Fd
open PySem PySem.Spec PyProof.Rows L2
/-! ## x = [..] on one line, kept as data -/
/-- behind a statement a list may be locked -/
def tFzS (t : TS) : TS := fun N σ H => t { N with nx := fun σ' H' => ∃ a vs, H' a = some (.lst vs) ∧ ∀ o, N.nx σ' (upd H' a (.frz o (.lst vs))) } σ H
theorem ps_fz {X : Cx} {st : Stmt} {t : TS} (h : PS X st t) : PS X st (tFzS t) := ⟨fun pins s σ H N I hw =>
  thn (h.run pins s σ H _ I hw) fun f s1 q => by
    cases f with
    | next =>
      obtain ⟨σ', H', I', a, vs, e, q⟩ := q
      obtain ⟨o, I2⟩ := I'.lock e trivial
      exact ⟨σ', _, I2, q o⟩
    | ret v => exact q
    | brk => exact q
    | cont => exact q⟩
section
variable {X : Cx} {ct : Nat → Addr} {W : WX} {pos : Pos} {a b e tg : Expr} {ma mb m : M RV} {es : List Expr}
noncomputable def setLcZ (i : Nat) (mi : M Src) (vs : List Nat) (f : SV → M Unit) (tt : M Bool) (me : M RV) : M Fl := bnd (lcM mi vs f tt me) fun r s => match r with
  | .new xs => match datL xs with
    | some ds => .ok .nx { s with env := s.env.set i (some (.dat (.lst ds))) }
    | none => .bad
  | _ => .bad
theorem sd_setLcZ {i : Nat} {y : Str} {py spos : Pos} {elt it : Expr} {ifs : List Expr} {scope : Scope} {own : List (Str × Nat)} {mi : M Src} {is : List Nat} {f : SV → M Unit} {mt : M Bool} {me : M RV} (hc : X.calm = true) (hN : X.N.Nodup) (hy : X.N[i]? = some y) (hyl : X.env.scope.names.lookup y = some .local)
    (hsw : swapsWith (.ListComp elt [⟨tg, it, ifs, 0⟩] scope pos) (some (.Name y py)) spos.line X.env = pure true) (hi : ID X ct W tg it mi) (ok : BlkOk X.N X.env.scope scope own) (hv : ∀ j ∈ is, j ∈ own.map (·.2))
    (hg : ∀ (s : Shared) (H : Hp) (C : Addr) (cl : List (Str × Addr)) (fp : List Addr), GD (X.blk s H scope (compEnvC scope cl C X.env) fp) ct tg is f) (ht : ∀ (s : Shared) (H : Hp) (C : Addr) (cl : List (Str × Addr)) (fp : List Addr), IfsD (X.blk s H scope (compEnvC scope cl C X.env) fp) ct ifs mt)
    (he : ∀ (s : Shared) (H : Hp) (C : Addr) (cl : List (Str × Addr)) (fp : List Addr), ED (X.blk s H scope (compEnvC scope cl C X.env) fp) ct WF elt me) (hs : ∀ x, foldedSetIterable it X.env x = pure x := by intro _; rfl) :
    SD X ct W (.Assign [.Name y py] (.ListComp elt [⟨tg, it, ifs, 0⟩] scope pos) spos) (setLcZ i mi (own.map (·.2)) f mt me) := by
  obtain ⟨wi, pi, ri⟩ := hi.ex
  refine ⟨_, ps_fz (ps_setLc (g := tmG X.K ct is f) (tt := tmT X.K ct WF mt) (te := tmE X.K ct WF me) hc hN hy hyl hsw pi ok (fun s H C cl fp => (hg s H C cl fp).pg) (fun s H C cl fp => (ht s H C cl fp).pts) (fun s H C cl fp => (he s H C cl fp).pe) hs), fun N σ H γ s R h => ?_⟩
  show tLc wi (tmG X.K ct is f) (tmT X.K ct WF mt) (tmE X.K ct WF me) (own.map (·.2)) σ H (fun x H1 => gName i x σ H1 (fun σ' H' => ∃ a vs, H' a = some (.lst vs) ∧ ∀ o, N.nx σ' (upd H' a (.frz o (.lst vs)))))
  refine lc_sem ri hv R (use_e h (fun _ _ z => z.at) fun r s1 v γ1 H1 t1 R1 q1 g => ?_)
  cases r with
  | sv x => exact False.elim g
  | new xs =>
    dsimp only at g
    cases e2 : datL xs with
    | none => simp only [e2] at g; exact False.elim g
    | some ds =>
      simp only [e2] at g
      obtain ⟨a, vs, rfl, e0, ea, na, rp⟩ := q1
      refine ⟨a, vs, ea, fun o => ?_⟩
      have ki : KeepI H1 (upd H1 a (.frz o (.lst vs))) := fun x u ex i => by
        rw [upd_ne]
        · exact ex
        · rintro rfl; rw [ea] at ex; cases ex; exact i
      exact g _ γ1 _ ((step_lockN ea s γ H t1 e0).trans step_env) (rep_set (rep_lockN R1 ea na) (x := .dat (.lst ds)) (RepD.lst ⟨o, upd_same⟩ (RepDs.mono ki (datL_rep e2 rp))))
/-! ## raise of an own error whose __init__ says super().__init__ -/
/-- the promise of such an __init__ (one field or more) -/
def spX (K : PySem.W.Frag) (C : Addr) (fs : List Str) : Sp := fun vs H Q _ => ∃ a ws, vs = .ref a :: ws ∧ ws.length = fs.length ∧ OexC K C ∧ H a = some (exo a C none) ∧
  ∀ dx H', H dx = none → dx ≠ a → (∀ b, b ≠ a → b ≠ dx → H' b = H b) → H' a = some (exo a C (some dx)) → H' dx = some (exd dx (fs.zip ws).reverse) → Q .non H'
def raiseF (c : Nat) (fs : List Str) (mA : M (List SV)) : M Fl := bnd mA fun xs s => match datL xs with
  | some ds => if ds.length = fs.length then .exc ⟨c, (fs.zip ds).reverse⟩ s else .bad
  | none => .bad
theorem zip_map_fst {α β : Type} : ∀ (fs : List α) (ws : List β), ws.length = fs.length → (fs.zip ws).map (·.1) = fs
  | [], ws, h => by simp at h ⊢
  | f :: fs, [], h => by simp at h
  | f :: fs, w :: ws, h => by simp at h ⊢; exact zip_map_fst fs ws h
theorem zip_map_snd {α β : Type} : ∀ (fs : List α) (ws : List β), ws.length = fs.length → (fs.zip ws).map (·.2) = ws
  | [], ws, h => by simp at h; simp [h]
  | f :: fs, [], h => by simp at h
  | f :: fs, w :: ws, h => by simp at h ⊢; exact zip_map_snd fs ws h
theorem RepDs.reverse {K : PySem.W.Frag} {H : Hp} : ∀ {ds : List D} {vs : List V}, RepDs K ct H vs ds → RepDs K ct H vs.reverse ds.reverse := by
  intro ds
  induction ds with
  | nil => intro vs h; cases h; exact .nil
  | cons d ds ih => intro vs h; cases h with | cons r t => rw [List.reverse_cons, List.reverse_cons]; exact (ih t).append (.cons r .nil)
theorem sd_raise {x : Str} {p : Pos} {C fI : Addr} {k : Nat} {fd : FuncData} {ps fs : List Str} {mA : M (List SV)} {c : Nat} (hc : X.calm = true) (tk : Takes X W) (T : OexC X.K C) (hct : ct c = C) (iC : PySem.W.findIn X.K (.ref C) "__init__" = some (some (.ref fI))) (tI : PySem.W.typeIn X.K (.ref fI) = some (.type "function"))
    (F1 : FnOk X.prog X.w X.K X.mg X.base (L2.CX X.prog X.w) k fI fd ps (spX X.K C fs)) (hfs : fs.length ≤ 1000) (hr : Room (k + 1) X.A) (hb : Binds X.K fd ps []) (hg : Gl X x) (hm : X.mg x = some (.ref C)) (ha : AD X ct W (e :: es) mA)
    (hdb : (x == ("__debug__" : Str)) = false := by decide) (he : starEach (e :: es) X.env = (false, eval e X.env) :: starEach es X.env := by rfl) (hpl : ∀ pos : Pos, (backTo pos (starEach es X.env)).any (·.1) = false := by intro _; rfl) {pos2 : Pos} :
    SD X ct W (.Raise (some (.Call (.Name x p) (e :: es) [] pos)) none pos2) (raiseF c fs mA) := by
  obtain ⟨t, pt, r⟩ := ha.ex
  refine ⟨_, ps_raise hc tk (pmk_oex T iC tI F1 hr hb .nil passL hg hm pt hdb he (hpl _)), fun N σ H γ s R h => ?_⟩
  refine r σ H γ s _ R (use_a h (fun _ _ z => z.at) fun xs s1 vs γ1 H1 t1 R1 q1 g => ?_)
  cases e2 : datL xs with
  | none => simp only [e2] at g; exact False.elim g
  | some ds =>
    simp only [e2] at g
    by_cases c2 : ds.length = fs.length
    · rw [if_pos c2] at g
      have w := datL_rep e2 q1
      have hl : vs.length = fs.length := by rw [w.length]; exact c2
      refine ⟨by omega, fun a na => ?_⟩
      refine ⟨a, vs, by rw [List.append_nil], hl, T, upd_same, fun dx H' n1 n2 hk h1 h2 => ⟨rfl, dx, _, h1, h2, ?_, ?_⟩⟩
      · rw [upd_ne n2] at n1; exact n1
      · have n1' : H1 dx = none := by rw [upd_ne n2] at n1; exact n1
        have same : ∀ b, b ≠ dx → upd (del H' a) dx (.xd (fs.zip vs).reverse) b = H1 b := fun b hb => by
          rw [upd_ne hb]
          by_cases ba : b = a
          · rw [ba, del_same, na]
          · rw [del_ne ba, hk b ba hb, upd_ne ba]
        have sm : Same H1 (upd (del H' a) dx (.xd (fs.zip vs).reverse)) := fun b u eb => by
          rw [same b (ne_of_none eb n1')]; exact eb
        refine g _ _ σ γ1 _ (t1.trans (step_same sm)) (R1.kept sm) ⟨by rw [hct], .inr ⟨dx, _, rfl, upd_same, ?_, ?_⟩⟩
        · rw [List.map_reverse, List.map_reverse, zip_map_fst _ _ hl, zip_map_fst _ _ c2]
        · rw [List.map_reverse, List.map_reverse, zip_map_snd _ _ hl, zip_map_snd _ _ c2]
          exact RepDs.reverse (RepDs.mono (fun b u eb _ => sm b u eb) w)
    · rw [if_neg c2] at g; exact False.elim g
/-! ## try .. except X as n: .. -/
/-- a clause's suite: what it does with an exception; i: the name's slot -/
structure HD (X : Cx) (ct : Nat → Addr) (c : Nat) (i : Nat) (sts : List Stmt) (hf : Exn → M Fl) : Prop where
  ex : ∀ (a : Addr) (oe : Obj) (cls : Value) (d : Option Addr) (pn : List (Addr × Obj)), Zc cls d oe → (∃ vs, oe.data = .fields vs) →
    ∃ t, PSs (X.suite a ((a, oe) :: pn)) sts t ∧ ∀ N σ H γ s x, Rep X.K ct γ H σ s → σ[i]? = some (some (.ref a)) → RepX X.K ct H x cls d → x.c = c → GoodS X.K ct WF γ s H (hf x s) N → t N σ H
def fieldH (f : Str) (x : Exn) : M Fl := match x.fs.lookup f with
  | some d => pur (.rt (RD d))
  | none => stuck
theorem lookup_rep {K : PySem.W.Frag} {H : Hp} {f : Str} {d : D} : ∀ {fs : List (Str × V)} {ds : List (Str × D)}, fs.map (·.1) = ds.map (·.1) → RepDs K ct H (fs.map (·.2)) (ds.map (·.2)) → ds.lookup f = some d → ∃ v, fs.lookup f = some v ∧ RepD K ct H v d := by
  intro fs
  induction fs with
  | nil => intro ds h1 _ h3; cases ds with
    | nil => cases h3
    | cons _ _ => simp at h1
  | cons p fs ih =>
    intro ds h1 h2 h3
    cases ds with
    | nil => cases h3
    | cons q ds =>
      obtain ⟨n1, v1⟩ := p
      obtain ⟨n2, d1⟩ := q
      simp only [List.map_cons, List.cons.injEq] at h1
      obtain ⟨rfl, h1⟩ := h1
      cases h2 with
      | cons r t =>
        rw [List.lookup_cons] at h3 ⊢
        split at h3
        · cases h3; exact ⟨v1, rfl, r⟩
        · exact ih h1 t h3
/-- return n.f -/
theorem hd_field {c i : Nat} {n f : Str} {np p2 p3 : Pos} {C : Addr} (hct : ct c = C) (T : XfC X.K C) (hno : PySem.W.findIn X.K (.ref C) f = some none) (hp : ∀ a oe pn, PE (X.suite a ((a, oe) :: pn)) (.Name n np) (tVar i)) (hb : attributeBase (.Name n np) f X.env (eval (.Name n np) X.env) = eval (.Name n np) X.env := by rfl) :
    HD X ct c i [.Return (some (.Attribute (.Name n np) f p2)) p3] (fieldH f) := by
  refine ⟨fun a oe cls d pn hz hf => ⟨_, pss_one (ps_ret (pe_xf T hno hz hf (hp a oe pn) hb)), fun N σ H γ s x R hσ hx hxc g => ?_⟩⟩
  unfold fieldH at g
  cases e : x.fs.lookup f with
  | none => simp only [e] at g; exact False.elim g
  | some dd =>
    simp only [e] at g
    obtain ⟨e1, e2⟩ := hx
    rcases e2 with ⟨e3, _⟩ | ⟨dx, fs, e3, e4, e5, e6⟩
    · rw [e3] at e; cases e
    · obtain ⟨v, lv, rv⟩ := lookup_rep e5 e6 e
      exact ⟨_, hσ, rfl, by rw [e1, hxc, hct], dx, fs, v, e3, e4, lv, g v σ γ H Step.refl R rv⟩
/-- any statements without calls -/
theorem hd_any {c i : Nat} {sts : List Stmt} {m : M Fl} (h : ∀ a oe pn, SDs (X.suite a ((a, oe) :: pn)) ct WF sts m) : HD X ct c i sts (fun _ => m) :=
  ⟨fun a oe cls d pn _ _ => by
    obtain ⟨t, p, r⟩ := (h a oe pn).ex
    exact ⟨t, p, fun N σ H γ s x R _ _ _ g => r N σ H γ s R g⟩⟩
def clrS (i : Nat) (s : S) : S := { s with env := s.env.set i none }
/-- which classes a clause takes: es c1 c says whether an error of the class c1 is one of the clause's class -/
def tryF (mb : M Fl) (es : Nat → Option Bool) (i : Nat) (hf : Exn → M Fl) : M Fl := fun s => match mb s with
  | .exc x s1 => match es x.c with
    | some true => if i < s1.env.length then match hf x (clrS i s1) with
      | .ok f s2 => .ok f (clrS i s2)
      | _ => .bad
      else .bad
    | some false => .exc x s1
    | none => .bad
  | o => o
theorem rep_clr {K : PySem.W.Frag} {γ : G} {s : S} {H : Hp} {σ : L2.St} {i : Nat} {o : Option V} (R : Rep K ct γ H σ s) : Rep K ct γ H (σ.set i o) (clrS i s) := by
  refine ⟨by show (σ.set i o).length = (s.env.set i none).length; simpa using R.len, fun j y e => ?_, R.mem, R.inj, R.hd, R.hdk⟩
  have e' : (s.env.set i none)[j]? = some (some y) := e
  by_cases h : i = j
  · subst h
    by_cases hl : i < s.env.length
    · rw [List.getElem?_set_self hl] at e'; cases e'
    · rw [List.getElem?_eq_none (by simpa using hl)] at e'; cases e'
  · rw [List.getElem?_set_ne h] at e'
    obtain ⟨u, q, r'⟩ := R.env j y e'
    exact ⟨u, by rw [List.getElem?_set_ne h]; exact q, r'⟩
theorem sd_try_as {x n : Str} {c : Nat} {C : Value} {i : Nat} {body suite : List Stmt} {b₀ : Stmt} {np pos' : Pos} {mb : M Fl} {exs : Nat → Option Bool} {hf : Exn → M Fl} (hs : X.stack = X.env :: X.outer) (hfr : X.env.frame = some X.env.locals) (hN : X.N.Nodup) (hi : X.N[i]? = some n) (hln : X.env.kindOf n = some .local) (hc : Names X x C) (tk : Takes X W)
    (hex : ∀ c1 b, exs c1 = some b → PySem.W.exmOne X.K (.ref (ct c1)) C = some b) (hone : ∀ c1, exs c1 = some true → c1 = c)
    (hb : ∀ (W' : WX) (pn : List (Addr × Obj)) (xe : Value → Shared → Prop), Takes (X.tr pn xe) W' → PassesOwn (model X.prog X.w) X.A X.env xe → SDs (X.tr pn xe) ct W' body mb)
    (hh : HD X ct c i (b₀ :: suite) hf) : SD X ct W (.Try body [.ExceptHandler (some (.Name x np)) (some n) (b₀ :: suite) pos'] [] [] pos) (tryF mb exs i hf) := by
  -- the body's canonical reading
  let tb : WX → TS := fun W' N σ H => ∃ γ s, Rep X.K ct γ H σ s ∧ GoodS X.K ct W' γ s H (mb s) N
  let th : Addr → Value → Option Addr → TS := fun a cls d N σ H => ∃ γ s x, Rep X.K ct γ H σ s ∧ σ[i]? = some (some (.ref a)) ∧ RepX X.K ct H x cls d ∧ x.c = c ∧ GoodS X.K ct WF γ s H (hf x s) N
  have pb : ∀ (W' : WX) (pn : List (Addr × Obj)) (xe : Value → Shared → Prop), Takes (X.tr pn xe) W' → PassesOwn (model X.prog X.w) X.A X.env xe → PSs (X.tr pn xe) body (tb W') := fun W' pn xe t1 t2 => by
    obtain ⟨t, p, r⟩ := (hb W' pn xe t1 t2).ex
    exact ⟨fun pins s σ H N I ⟨γ, s', R, g⟩ => p.run pins s σ H N I (r N σ H γ s' R g)⟩
  have ph : ∀ (a : Addr) (oe : Obj) (cls : Value) (d : Option Addr) (pn : List (Addr × Obj)), Zc cls d oe → (∃ vs, oe.data = .fields vs) → PSs (X.suite a ((a, oe) :: pn)) (b₀ :: suite) (th a cls d) := fun a oe cls d pn hz hfd => by
    obtain ⟨t, p, r⟩ := hh.ex a oe cls d pn hz hfd
    exact ⟨fun pins s σ H N I ⟨γ, s', x, R, h1, h2, h3, g⟩ => p.run pins s σ H N I (r N σ H γ s' x R h1 h2 h3 g)⟩
  refine ⟨_, ps_try_as hs hfr hN hi hln hc tk pb ph, fun N σ H γ s R h => ?_⟩
  refine ⟨γ, s, R, ?_⟩
  unfold GoodS tryF at h
  unfold GoodS
  cases e1 : mb s with
  | bad => simp only [e1] at h; exact h
  | ok f s1 => simp only [e1] at h; exact h
  | exc y s1 =>
    simp only [e1] at h
    intro cl d σ' γ' H' st R' hx
    cases e2 : exs y.c with
    | none => simp only [e2] at h; exact False.elim h
    | some bb =>
      simp only [e2] at h
      have hm := hex _ _ e2
      refine ⟨bb, by rw [hx.1]; exact hm, fun e3 a na => ?_, fun e3 => ?_⟩
      · subst e3
        dsimp only at h
        have hl0 : i < s1.env.length := by
          by_cases c0 : i < s1.env.length
          · exact c0
          · rw [if_neg c0] at h; exact False.elim h
        rw [if_pos hl0] at h
        have hl : i < σ'.length := by
          rw [R'.len]
          exact hl0
        refine ⟨γ', clrS i s1, y, rep_clr R', List.getElem?_set_self hl, hx, hone _ e2, ?_⟩
        cases e4 : hf y (clrS i s1) with
        | bad => simp only [e4] at h; exact h
        | exc z s2 => simp only [e4] at h; exact False.elim h
        | ok f s2 =>
          simp only [e4] at h
          have t0 : Step γ γ' s (clrS i s1) H H' := st.trans step_env
          cases f with
          | nx => exact fun σ2 γ2 H2 t2 R2 => h _ γ2 H2 ((t0.trans t2).trans step_env) (rep_clr (o := none) R2)
          | bk => exact fun σ2 γ2 H2 t2 R2 => h _ γ2 H2 ((t0.trans t2).trans step_env) (rep_clr (o := none) R2)
          | ct => exact fun σ2 γ2 H2 t2 R2 => h _ γ2 H2 ((t0.trans t2).trans step_env) (rep_clr (o := none) R2)
          | rt r => exact fun v σ2 γ2 H2 t2 R2 q2 => h v _ γ2 H2 ((t0.trans t2).trans step_env) (rep_clr (o := none) R2) (by
              cases r with
              | sv x => exact q2
              | new xs => obtain ⟨a, vs, e5, e6, e7, e8, e9⟩ := q2; exact ⟨a, vs, e5, free_of t0.there e6, e7, e8, e9⟩)
      · subst e3
        exact h cl d σ' γ' H' st R' hx
end
end Fd
set_option Elab.async false
set_option linter.all false
set_option maxRecDepth 100000
set_option maxHeartbeats 4000000
namespace Fd
open PySem PySem.Spec PyProof.Rows L2
/-! ## a def of the text as it stands, by its name -/
/-- the name x holds a def that keeps the promise R; dd: the defaults that a call leaves to it -/
structure OkP (P : Program) (w : World) (K : PySem.W.Frag) (mg : Str → Option Value) (base : Heap) (ct : Nat → Addr) (x : Str) (n : Nat) (k : Nat) (F : List D → Res) (dd : List D) : Prop where
  ex : ∃ (f : Addr) (fd : FuncData) (ps : List Str) (ds : List Value) (dvs : List V), ps.length = n ∧ mg x = some (.ref f) ∧ PySem.W.keepIn K (.ref f) = true ∧ FnOk P w K mg base (L2.CX P w) k f fd ps (spP K ct n F) ∧ Binds K fd ps ds ∧ Vals dvs ds ∧ ∀ H, RepDs K ct H dvs dd
structure OkH (P : Program) (w : World) (K : PySem.W.Frag) (mg : Str → Option Value) (base : Heap) (ct : Nat → Addr) (x : Str) (n : Nat) (k : Nat) (F : List SV → Hand → Res × Hand) : Prop where
  ex : ∃ (f : Addr) (fd : FuncData) (ps : List Str), ps.length = n ∧ mg x = some (.ref f) ∧ PySem.W.keepIn K (.ref f) = true ∧ FnOk P w K mg base (L2.CX P w) k f fd ps (spH K ct n F) ∧ Binds K fd ps []
/-- .. called with keywords: the data of all parameters from the positional ones and the keywords' -/
structure OkK (P : Program) (w : World) (K : PySem.W.Frag) (mg : Str → Option Value) (base : Heap) (ct : Nat → Addr) (x : Str) (n : Nat) (k : Nat) (F : List D → Res) (np : Nat) (ks : List Str) (g : List D → List D → List D) : Prop where
  ex : ∃ (f : Addr) (fd : FuncData) (ps : List Str) (gv : List Value → List Value → List Value) (gV : List V → List V → List V), ps.length = n ∧ mg x = some (.ref f) ∧ PySem.W.keepIn K (.ref f) = true ∧ FnOk P w K mg base (L2.CX P w) k f fd ps (spP K ct n F) ∧ KBn K fd ps np ks gv gV ∧
    ∀ H vs zs ds es, RepDs K ct H vs ds → RepDs K ct H zs es → vs.length = np → zs.length = ks.length → RepDs K ct H (gV vs zs) (g ds es)
section
variable {X : Cx} {ct : Nat → Addr} {W : WX} {pos p : Pos} {x : Str} {e : Expr} {es : List Expr} {m : M RV} {mA mK : M (List SV)} {k n : Nat} {dd : List D} {F : List D → Res} {FH : List SV → Hand → Res × Hand}
theorem ed_callP (O : OkP X.prog X.w X.K X.mg X.base ct x n k F dd) (hr : Room k X.A) (tk : Takes X W) (ha : AD X ct W (e :: es) mA) (hg : Gl X x := by rfl) (hdb : (x == ("__debug__" : Str)) = false := by decide) (he : starEach (e :: es) X.env = (false, eval e X.env) :: starEach es X.env := by rfl) (hpl : (backTo pos (starEach es X.env)).any (·.1) = false := by rfl) :
    ED X ct W (.Call (.Name x p) (e :: es) [] pos) (bnd mA (callM n F dd)) := by
  obtain ⟨f, fd, ps, ds, dvs, rfl, hm, hk, FK, hb, hd, hdd⟩ := O.ex
  exact ed_call FK hr hg hm hk hb hd hdd tk ha hdb he hpl
theorem ed_callHP (O : OkH X.prog X.w X.K X.mg X.base ct x n k FH) (hr : Room k X.A) (tk : Takes X W) (ha : AD X ct W (e :: es) mA) (hg : Gl X x := by rfl) (hdb : (x == ("__debug__" : Str)) = false := by decide) (he : starEach (e :: es) X.env = (false, eval e X.env) :: starEach es X.env := by rfl) (hpl : (backTo pos (starEach es X.env)).any (·.1) = false := by rfl) :
    ED X ct W (.Call (.Name x p) (e :: es) [] pos) (bnd mA (callH n FH [])) := by
  obtain ⟨f, fd, ps, rfl, hm, hk, FK, hb⟩ := O.ex
  exact ed_callH FK hr hg hm hk hb .nil (fun _ => .nil) tk ha hdb he hpl
/-- keywords -/
structure KD (X : Cx) (ct : Nat → Addr) (W : WX) (kws : List Keyword) (m : M (List SV)) : Prop where
  ex : ∃ t, PK X kws t ∧ ∀ σ H γ s Q, Rep X.K ct γ H σ s → GoodA X.K ct W σ γ s H (m s) Q → t σ H Q
theorem kd_nil : KD X ct W [] (pur []) := ⟨_, pk_nil, fun σ H γ s Q R h => h [] γ H Step.refl R .nil⟩
theorem kd_cons {nm : Option Str} {kpos : Pos} {kws : List Keyword} (h : ED X ct W e m) (hr : KD X ct W kws mA) : KD X ct W (⟨nm, e, kpos⟩ :: kws) (consA m mA) := by
  obtain ⟨t, p, r⟩ := h.ex
  obtain ⟨t2, p2, r2⟩ := hr.ex
  refine ⟨_, pk_cons p p2, fun σ H γ s Q R h => ?_⟩
  refine r σ H γ s _ R (use_e h (fun _ _ z => z) fun x s1 v γ1 H1 t1 R1 q1 g => ?_)
  cases x with
  | new xs => exact False.elim g
  | sv x =>
    refine r2 σ H1 γ1 s1 _ R1 (use_a (GoodA.step t1 g) (fun _ _ z => z) fun xs s2 vs γ2 H2 t2 R2 q2 g2 => ?_)
    exact g2 (v :: vs) γ2 H2 t2 R2 (.cons (RepS.mono t2 q1) q2)
/-- nothing is raised -/
def noX (r : Res) : Res := match r with
  | .exc _ => .bad
  | r => r
def callK (n np nk : Nat) (F : List D → Res) (g : List D → List D → List D) (mA mK : M (List SV)) : M RV := bnd mA fun xs => bnd mK fun zs => match datL xs, datL zs with
  | some ds, some es => if ds.length = np ∧ es.length = nk ∧ (g ds es).length = n then toRes (noX (F (g ds es))) else stuck
  | _, _ => stuck
theorem ed_callK {np : Nat} {ks : List Str} {g : List D → List D → List D} {kws : List Keyword} (O : OkK X.prog X.w X.K X.mg X.base ct x n k F np ks g) (hr : Room k X.A) (ha : AD X ct W (e :: es) mA) (hkw : KD X ct W kws mK) (hg : Gl X x := by rfl) (hall : (backToKw pos (keywordEach kws X.env)).all (·.1.isSome) = true := by rfl) (hks : (backToKw pos (keywordEach kws X.env)).filterMap (·.1) = ks := by rfl)
    (hdb : (x == ("__debug__" : Str)) = false := by decide) (he : starEach (e :: es) X.env = (false, eval e X.env) :: starEach es X.env := by rfl)
    (hpl : ((backTo pos (starEach (e :: es) X.env)).any (·.1) || (backToKw pos (keywordEach kws X.env)).any (·.1.isNone)) = false := by rfl) :
    ED X ct W (.Call (.Name x p) (e :: es) kws pos) (callK n np ks.length F g mA mK) := by
  obtain ⟨f, fd, ps, gv, gV, rfl, hm, hk, FK, hb, hrep⟩ := O.ex
  obtain ⟨t, pt, r⟩ := ha.ex
  obtain ⟨t2, pt2, r2⟩ := hkw.ex
  refine ⟨_, pe_callN FK hr hg hm hk hb passL pt pt2 hall hks hdb he hpl, fun σ H γ s Q R h => ?_⟩
  refine r σ H γ s _ R (use_a h (fun _ _ z => z) fun xs s1 vs γ1 H1 t1 R1 q1 g1 => ?_)
  refine r2 σ H1 γ1 s1 _ R1 (use_a (Good.step t1 g1) (fun _ _ z => z) fun zs s2 us γ2 H2 t2 R2 q2 g2 => ?_)
  cases e1 : datL xs with
  | none => simp only [e1] at g2; exact False.elim g2
  | some ds =>
    cases e2 : datL zs with
    | none => simp only [e1, e2] at g2; exact False.elim g2
    | some es2 =>
      simp only [e1, e2] at g2
      have w1 := RepDs.mono t2.imm (datL_rep e1 q1)
      have w2 := datL_rep e2 q2
      by_cases c : ds.length = np ∧ es2.length = ks.length ∧ (g ds es2).length = ps.length
      · rw [if_pos c] at g2
        have l1 : vs.length = np := by rw [w1.length]; exact c.1
        have l2 : us.length = ks.length := by rw [w2.length]; exact c.2.1
        have wr := hrep H2 vs us ds es2 w1 w2 l1 l2
        refine ⟨l1, l2, by rw [wr.length]; exact c.2.2, _, wr, ?_⟩
        have gg := good_res R2 (Good.step t2 g2)
        cases e3 : F (g ds es2) with
        | bad => rw [e3] at gg; exact gg
        | exc z => rw [e3] at gg; exact False.elim gg
        | ret z => rw [e3] at gg; exact gg
      · rw [if_neg c] at g2; exact False.elim g2
end
section
variable {P : Program} {w : World} {K : PySem.W.Frag} {mg : Str → Option Value} {base : Heap} {x qual : Str} {params : Arguments} {body : List Stmt} {scope : Scope} {dvs : List V} {kws : List (Str × V)} {f : Addr} {fd : FuncData} {ps : List Str}
theorem kbinds1 (F : FunD K x qual params body scope dvs kws f fd) (n : Nat) (ks : List Str) (g : {α : Type} → List α → List α → List α → List α) (hd : dvs ≠ [])
    (hrel : ∀ {vs ds zs : List V} {us its ws : List Value}, Vals vs us → Vals ds its → Vals zs ws → Vals (g vs ds zs) (g us its ws))
    (h : ∀ (T : Addr) (kV doc pm : Value) (an : Option Addr) (cdv ct : Value) (us its ws : List Value), us.length = n → its.length = dvs.length → ws.length = ks.length →
      ∃ k, bindArgs (PySem.W.fnOf x qual params body scope (.ref T) kV doc pm an cdv ct) ⟨us, ks.zip ws⟩ = seqItems? (.ref T) >>= k ∧ k (some its.toArray) = pure (ps.zip (g us its ws))) :
    ∃ its : List Value, KBn K fd ps n ks (fun us ws => g us its ws) (fun vs zs => g vs dvs zs) := by
  obtain ⟨oc, od, dV, kV, doc, pm, an, cdv, ct, osl, rfl, lk, hcd, hD, hK⟩ := F.ex
  rcases hD with ⟨e, _⟩ | ⟨_, T, o, its, m, rfl, lT, oT, rT⟩
  · exact absurd e hd
  · refine ⟨its, ⟨fun s us ws X l1 l2 => ?_, fun r1 r2 => hrel r1 rT r2⟩⟩
    obtain ⟨k, e1, e2⟩ := h T kV doc pm an cdv ct us its ws l1 rT.length.symm l2
    refine BindsTo.of_looks fun M => ?_
    rw [e1]
    exact looks_items X lT oT (.of_pure e2)
/-- a def of the text with its facts -/
structure FnT (K : PySem.W.Frag) (mg : Str → Option Value) (x : Str) (st : Stmt) (dvs : List V) : Prop where
  ex : ∃ (f : Addr) (fd : FuncData), mg x = some (.ref f) ∧ FunD K x x (defArgs st) (defBody st) (defScope st) dvs [] f fd
/-- the rule by names: no defaults -/
theorem okP {st : Stmt} {N ps : List Str} {k : Nat} {ct : Nat → Addr} {m : M Fl} (T : FnT K mg x st []) (S : FnScope N ps (defScope st))
    (hbd : ∀ (kV doc pm : Value) (an : Option Addr) (cdv ct : Value) (us : List Value), us.length = ps.length → bindArgs (PySem.W.fnOf x x (defArgs st) (defBody st) (defScope st) .none kV doc pm an cdv ct) ⟨us, []⟩ = pure (ps.zip us))
    (hb : ∀ (f : Addr) (cdv : Value) (A : Around) (outer : List Env) (s : Shared) (H : Hp) (E : XK), Room k (A.deeper (envOfC x (defScope st) s.heap.objs.size f cdv)) →
      SDs (cxOf (L2.CX P w) P w K mg base N x (defScope st) f cdv A outer s H E) ct (fun cls d _ H => E cls d H) (defBody st) m) : OkP P w K mg base ct x ps.length (k + 1) (runP N.length m) [] := by
  obtain ⟨f, fd, hm, F⟩ := T.ex
  exact ⟨f, fd, ps, [], [], rfl, hm, F.kp, fnP F S (hb f), F.bindsN hbd, .nil, fun _ => .nil⟩
theorem okH {st : Stmt} {N ps : List Str} {k : Nat} {ct : Nat → Addr} {m : M Fl} (T : FnT K mg x st []) (S : FnScope N ps (defScope st))
    (hbd : ∀ (kV doc pm : Value) (an : Option Addr) (cdv ct : Value) (us : List Value), us.length = ps.length → bindArgs (PySem.W.fnOf x x (defArgs st) (defBody st) (defScope st) .none kV doc pm an cdv ct) ⟨us, []⟩ = pure (ps.zip us))
    (hb : ∀ (f : Addr) (cdv : Value) (A : Around) (outer : List Env) (s : Shared) (H : Hp) (E : XK), Room k (A.deeper (envOfC x (defScope st) s.heap.objs.size f cdv)) →
      SDs (cxOf (L2.CX P w) P w K mg base N x (defScope st) f cdv A outer s H E) ct (fun cls d _ H => E cls d H) (defBody st) m) : OkH P w K mg base ct x ps.length (k + 1) (runH N.length m) := by
  obtain ⟨f, fd, hm, F⟩ := T.ex
  exact ⟨f, fd, ps, rfl, hm, F.kp, fnH F S (hb f), F.bindsN hbd⟩
/-- with defaults: a call that leaves out those behind the first j of them -/
theorem okDf {st : Stmt} {N ps : List Str} {k : Nat} {ct : Nat → Addr} {m : M Fl} {dd : List D} (T : FnT K mg x st dvs) (S : FnScope N ps (defScope st)) (n j : Nat) (hd : dvs ≠ []) (hn : n + (dvs.length - j) = ps.length) (hdd : ∀ H, RepDs K ct H dvs dd)
    (hbd : ∀ (T : Addr) (kV doc pm : Value) (an : Option Addr) (cdv ct : Value) (us its : List Value), us.length = n → its.length = dvs.length →
      ∃ k, bindArgs (PySem.W.fnOf x x (defArgs st) (defBody st) (defScope st) (.ref T) kV doc pm an cdv ct) ⟨us, []⟩ = seqItems? (.ref T) >>= k ∧ k (some its.toArray) = pure (ps.zip (us ++ its.drop j)))
    (hb : ∀ (f : Addr) (cdv : Value) (A : Around) (outer : List Env) (s : Shared) (H : Hp) (E : XK), Room k (A.deeper (envOfC x (defScope st) s.heap.objs.size f cdv)) →
      SDs (cxOf (L2.CX P w) P w K mg base N x (defScope st) f cdv A outer s H E) ct (fun cls d _ H => E cls d H) (defBody st) m) : OkP P w K mg base ct x ps.length (k + 1) (runP N.length m) (dd.drop j) := by
  obtain ⟨f, fd, hm, F⟩ := T.ex
  obtain ⟨ds, rv, bb⟩ := F.binds1 n j hd hn hbd
  exact ⟨f, fd, ps, ds, _, rfl, hm, F.kp, fnP F S (hb f), bb, rv, fun H => RepDs.drop j (hdd H)⟩
theorem okKw {st : Stmt} {N ps : List Str} {k : Nat} {ct : Nat → Addr} {m : M Fl} {dd : List D} (T : FnT K mg x st dvs) (S : FnScope N ps (defScope st)) (n : Nat) (ks : List Str) (g : {α : Type} → List α → List α → List α → List α) (hd : dvs ≠ []) (hdd : ∀ H, RepDs K ct H dvs dd)
    (hrel : ∀ {vs ds zs : List V} {us its ws : List Value}, Vals vs us → Vals ds its → Vals zs ws → Vals (g vs ds zs) (g us its ws))
    (hrep : ∀ H (vs ds zs : List V) (us its ws : List D), RepDs K ct H vs us → RepDs K ct H ds its → RepDs K ct H zs ws → RepDs K ct H (g vs ds zs) (g us its ws))
    (hbd : ∀ (T : Addr) (kV doc pm : Value) (an : Option Addr) (cdv ct : Value) (us its ws : List Value), us.length = n → its.length = dvs.length → ws.length = ks.length →
      ∃ k, bindArgs (PySem.W.fnOf x x (defArgs st) (defBody st) (defScope st) (.ref T) kV doc pm an cdv ct) ⟨us, ks.zip ws⟩ = seqItems? (.ref T) >>= k ∧ k (some its.toArray) = pure (ps.zip (g us its ws)))
    (hb : ∀ (f : Addr) (cdv : Value) (A : Around) (outer : List Env) (s : Shared) (H : Hp) (E : XK), Room k (A.deeper (envOfC x (defScope st) s.heap.objs.size f cdv)) →
      SDs (cxOf (L2.CX P w) P w K mg base N x (defScope st) f cdv A outer s H E) ct (fun cls d _ H => E cls d H) (defBody st) m) : OkK P w K mg base ct x ps.length (k + 1) (runP N.length m) n ks (fun ds es => g ds dd es) := by
  obtain ⟨f, fd, hm, F⟩ := T.ex
  obtain ⟨its, kb⟩ := kbinds1 F n ks g hd hrel hbd
  exact ⟨f, fd, ps, _, _, rfl, hm, F.kp, fnP F S (hb f), kb, fun H vs zs ds es r1 r2 _ _ => hrep H _ _ _ _ _ _ r1 (hdd H) r2⟩
end
/-! ## short words -/
section
variable {X : Cx} {ct : Nat → Addr} {W : WX} {pos : Pos}
theorem nv (i : Nat) {x : Str} (hN : X.N[i]? = some x := by rfl) (hv : Vis X.env.scope x := by first | exact Or.inl rfl | exact Or.inr (Or.inl rfl) | exact Or.inr (Or.inr rfl)) (hd : (x == ("__debug__" : Str)) = false := by decide)
    (hcd : (x == ("__classdict__" : Str)) = false := by decide) : ED X ct W (.Name x pos) (getV i) := ed_name i (pe_var hN hv hd hcd)
theorem gn (i : Nat) {x : Str} (nd : X.N.Nodup) (hi : X.N[i]? = some x := by rfl) (hx : Loc X.env.scope x := by first | exact Or.inl rfl | exact Or.inr rfl) (hf : X.fn x = true ∨ X.env.scope.names.lookup x = some .local := by first | exact Or.inl rfl | exact Or.inr rfl) : GD X ct (.Name x pos) [i] (setV i) := gd_name (pg_name nd hi hx hf)
end
theorem hu64 {A : Around} {k : Nat} (hr : Room k A) : A.units + 64 < cLine := hr.units
theorem hu65 {A : Around} {k : Nat} (hr : Room k A) : A.units + 65 < cLine := by have := hr.un; omega
end Fd
set_option Elab.async false
set_option linter.all false
set_option maxRecDepth 100000
set_option maxHeartbeats 4000000
namespace Fd
open PySem PySem.Spec PyProof.Rows L2
/-! ## an own error class: __init__ says super().__init__(..) and stores its parameters in their order -/
inductive PaK (X : Cx) (n : Nat) : List Expr → Prop
  | nil : PaK X n []
  | cons {e : Expr} {es : List Expr} (te : TE) (hp : PE X e te) (hq : ∀ (vs : List V) H Q, vs.length = n → (∀ v, Q v H) → te (vs.map some) H Q) (hs : starEach (e :: es) X.env = (false, eval e X.env) :: starEach es X.env) : PaK X n es → PaK X n (e :: es)
theorem pak_str {X : Cx} {n : Nat} {x : Str} {j : Nat} {pos : Pos} {es : List Expr} (h : PaK X n es) (hs : starEach (.Constant (.str x) j pos :: es) X.env = (false, eval (.Constant (.str x) j pos) X.env) :: starEach es X.env := by rfl) : PaK X n (.Constant (.str x) j pos :: es) :=
  .cons _ pe_str (fun _ _ _ _ q => q _) hs h
theorem pak_var {X : Cx} {n : Nat} (i : Nat) {x : Str} {pos : Pos} {es : List Expr} (h : PaK X n es) (hp : PE X (.Name x pos) (tVar i)) (hi : i < n) (hs : starEach (.Name x pos :: es) X.env = (false, eval (.Name x pos) X.env) :: starEach es X.env := by rfl) : PaK X n (.Name x pos :: es) :=
  .cons _ hp (fun vs H Q hl q => ⟨vs[i], by simp [hl, hi], q _⟩) hs h
theorem pak_run {X : Cx} {n : Nat} {es : List Expr} (h : PaK X n es) : ∃ t, PA X es t ∧ ∀ (vs : List V) H Q, vs.length = n → (∀ ws, ws.length = es.length → Q ws H) → t (vs.map some) H Q := by
  induction h with
  | nil => exact ⟨_, pa_nil, fun vs H Q _ q => q [] rfl⟩
  | cons te hp hq hs hr ih =>
    obtain ⟨t, pt, r⟩ := ih
    exact ⟨_, pa_cons hp pt hs, fun vs H Q hl q => hq vs H _ hl fun v => r vs H _ hl fun ws hw => q (v :: ws) (by simp [hw])⟩
/-- stores: the slots i, i + 1, .. into the fields -/
inductive Sto (X : Cx) : Nat → List Str → List Stmt → Prop
  | nil {i : Nat} : Sto X i [] []
  | cons {i : Nat} {f : Str} {fs : List Str} {o e : Expr} {p' pos : Pos} {sts : List Stmt} (ho : PE X o (tVar 0)) (he : PE X e (tVar i)) (hs : swapsWith e (some (.Attribute o f p')) pos.line X.env = pure false) : Sto X (i + 1) fs sts → Sto X i (f :: fs) (.Assign [.Attribute o f p'] e pos :: sts)
theorem sto_old {X : Cx} {i : Nat} {fs : List Str} {sts : List Stmt} (h : Sto X i fs sts) : ∃ t, PSs X sts t ∧ ∀ (N : Ends) (σ : L2.St) (H : Hp) (a dx C : Addr) (gs : List (Str × V)) (ws : List V), (∀ k w, ws[k]? = some w → σ[i + k]? = some (some w)) → ws.length = fs.length →
    σ[0]? = some (some (.ref a)) → OexC X.K C → (∀ f ∈ fs, PySem.W.findIn X.K (.ref C) f = some none) → H a = some (exo a C (some dx)) → H dx = some (exd dx gs) → a ≠ dx → gs.length + fs.length ≤ 900 →
    (∀ H', (∀ b, b ≠ dx → H' b = H b) → H' dx = some (exd dx ((fs.zip ws).reverse ++ gs)) → N.nx σ H') → t N σ H := by
  induction h with
  | nil =>
    exact ⟨_, pss_nil, fun N σ H a dx C gs ws _ hl _ _ _ _ hd _ _ k => k H (fun _ _ => rfl) (by simpa using hd)⟩
  | @cons i f fs o e p' pos sts ho he hs hr ih =>
    obtain ⟨t, pt, r⟩ := ih
    refine ⟨_, pss_cons (ps_ost ho he hs) pt, fun N σ H a dx C gs ws hw hl h0 T hno ha hd ne hz k => ?_⟩
    cases ws with
    | nil => simp at hl
    | cons w ws =>
      refine ⟨w, by simpa using hw 0 w rfl, _, h0, a, C, rfl, T, hno f (by simp), .inr ⟨dx, gs, ha, hd, by simp at hz; omega, ?_⟩⟩
      refine r N σ _ a dx C ((f, w) :: gs) ws (fun k x e => ?_) (by simpa using hl) h0 T (fun g hg => hno g (by simp [hg])) (by rw [upd_ne ne]; exact ha) upd_same ne (by simp at hz ⊢; omega) fun H' k1 k2 => ?_
      · have := hw (k + 1) x (by simpa using e)
        rw [← this]; congr 1; omega
      · refine k H' (fun b hb => by rw [k1 b hb, upd_ne hb]) ?_
        rw [k2]; simp
theorem sto_new {X : Cx} {i : Nat} {fs : List Str} {sts : List Stmt} (h : Sto X i fs sts) (hf : fs ≠ []) : ∃ t, PSs X sts t ∧ ∀ (N : Ends) (σ : L2.St) (H : Hp) (a C : Addr) (ws : List V), (∀ k w, ws[k]? = some w → σ[i + k]? = some (some w)) → ws.length = fs.length →
    σ[0]? = some (some (.ref a)) → OexC X.K C → (∀ f ∈ fs, PySem.W.findIn X.K (.ref C) f = some none) → H a = some (exo a C none) → fs.length ≤ 900 →
    (∀ dx H', H dx = none → dx ≠ a → (∀ b, b ≠ a → b ≠ dx → H' b = H b) → H' a = some (exo a C (some dx)) → H' dx = some (exd dx (fs.zip ws).reverse) → N.nx σ H') → t N σ H := by
  cases h with
  | nil => exact absurd rfl hf
  | @cons _ f fs o e p' pos sts ho he hs hr =>
    obtain ⟨t, pt, r⟩ := sto_old hr
    refine ⟨_, pss_cons (ps_ost ho he hs) pt, fun N σ H a C ws hw hl h0 T hno ha hz k => ?_⟩
    cases ws with
    | nil => simp at hl
    | cons w ws =>
      refine ⟨w, by simpa using hw 0 w rfl, _, h0, a, C, rfl, T, hno f (by simp), .inl ⟨ha, fun dx n ne => ?_⟩⟩
      refine r N σ _ a dx C [(f, w)] ws (fun k x e => ?_) (by simpa using hl) h0 T (fun g hg => hno g (by simp [hg])) upd_same (by rw [upd_ne ne, upd_same]) (Ne.symm ne) (by simp at hz ⊢; omega) fun H' k1 k2 => ?_
      · have := hw (k + 1) x (by simpa using e)
        rw [← this]; congr 1; omega
      · refine k dx H' n ne (fun b h1 h2 => by rw [k1 b h2, upd_ne h1, upd_ne h2]) (by rw [k1 a (Ne.symm ne), upd_same]) ?_
        rw [k2]; simp
section
open PySem.W
variable {P : Program} {w : World} {K : PySem.W.Frag} {mg : Str → Option Value} {base : Heap} {ps : List Str} {name qual : Str} {params : Arguments} {rest : List Stmt} {scope : Scope} {dV kV doc pm ct oc ccl cl : Value} {an od cdd cld : Option Addr} {cc cda f C : Addr} {osl ccs csl : Array (Option Value)}
  {p0 p1 p2 p3 p4 : Pos} {e : Expr} {es : List Expr} {cvs : Array Value} {file : Str} {tf : Tok} {cdD : ClassData} {ar : Arg}
open FdX in
theorem fn_err {fs : List Str} (lk : K.lookup f = some ⟨oc, od, .func (fnS name qual params (bodyS p0 p1 p2 p3 p4 e es rest) scope dV kV doc pm an (.ref cda) ct cc), osl⟩) (hcd : codeIn K (.ref cda) qual = true) (S : ScopeS ps scope)
    (har : (params.posonlyargs ++ params.args).head? = some ar) (hps : ps[0]? = some ar.arg) (T : OexC K C)
    (hcode : K.lookup cda = some ⟨ccl, cdd, .fields cvs, ccs⟩) (hvs : cvs[2]? = some (.str file tf)) (hfile : ((P.main.file : Str) == file) = true)
    (hcell : K.lookup cc = some ⟨cl, cld, .cell (some (.ref C)), csl⟩) (hD : clsIn K C = some cdD) (hsub : mroIn K C (.ref C) = some true) (hsuper : mg "super" = none)
    (htop : (P.main.scope.names.lookup ("super" : Str)).isSome = false) (hboot : bootBuiltins "super" = some (.type "super")) (hop : nsIn K cStatics "thirdparty.any" = some none)
    (hsu : ks_superIn K C C "__init__" = some (some (.builtin "ValueError.__init__"))) (hB : subIn K (.ref C) (.type "ValueError") = some true)
    (hpl : ps.length = fs.length + 1) (hf : fs ≠ []) (hn : fs.length ≤ 900) (hes : (e :: es).length ≤ 1000) (hno : ∀ f ∈ fs, findIn K (.ref C) f = some none)
    (ha : ∀ (A : Around) (outer : List Env) (s : Shared) (H : Hp) (E : XK), PaK (cxS (L2.CX P w) P w K mg base ps (fnS name qual params (bodyS p0 p1 p2 p3 p4 e es rest) scope dV kV doc pm an (.ref cda) ct cc) f A outer s H E) ps.length (e :: es))
    (hb : ∀ (A : Around) (outer : List Env) (s : Shared) (H : Hp) (E : XK), Sto (cxS (L2.CX P w) P w K mg base ps (fnS name qual params (bodyS p0 p1 p2 p3 p4 e es rest) scope dV kV doc pm an (.ref cda) ct cc) f A outer s H E) 1 fs rest)
    (hm1 : eval (.Call (.Attribute (.Call (.Name "super" p0) [] [] p1) "__init__" p2) (e :: es) [] p3) = fun env => (do
      let ov ← attributeBase (.Call (.Name "super" p0) [] [] p1) "__init__" env (eval (.Call (.Name "super" p0) [] [] p1) env)
      standAt p2.atName
      let (f, first) ← holding [ov] (getMethod ov "__init__" (pure false))
      callWith p3 f first (backTo p3 (starEach (e :: es) env)) []) := by rfl)
    (he : ∀ env, starEach (e :: es) env = (false, eval e env) :: starEach es env := by intro _; rfl) (hp3 : ∀ env, (backTo p3 (starEach es env)).any (·.1) = false := by intro _; rfl) :
    FnOk P w K mg base (L2.CX P w) 1 f (fnS name qual params (bodyS p0 p1 p2 p3 p4 e es rest) scope dV kV doc pm an (.ref cda) ct cc) ps (spX K C fs) := by
  refine FdX.fn_sup (k := 0) lk hcd S har hps T hcode hvs hfile hcell hD hsub hsuper htop hboot hop hsu hB (fun vs H Q E h => ?_) (fun A outer s H vs Q E hr h => ?_) hm1 he hp3
  · obtain ⟨a, ws, rfl, h1, _⟩ := h
    simp [h1, hpl]
  · obtain ⟨a, ws, rfl, h1, T', h2, k⟩ := h
    obtain ⟨ta, pa, ra⟩ := pak_run (ha A outer s H E)
    obtain ⟨t, pt, rt⟩ := sto_new (hb A outer s H E) hf
    refine ⟨a, ws, ta, t, rfl, h2, pa, ra _ H _ (by simp [h1, hpl]) fun zs hz => ⟨rfl, by omega⟩, pt, rt _ _ H a C ws (fun k x e => ?_) h1 rfl T' hno h2 hn fun dx H' n ne k1 k2 k3 => k dx H' n ne k1 k2 k3⟩
    rw [Nat.add_comm]
    simpa using e
end
/-! ## errors by name -/
structure ErrX (P : Program) (w : World) (K : PySem.W.Frag) (mg : Str → Option Value) (base : Heap) (ct : Nat → Addr) (x : Str) (c : Nat) (fs : List Str) : Prop where
  ex : ∃ (fI : Addr) (fd : FuncData) (ps : List Str), OexC K (ct c) ∧ PySem.W.findIn K (.ref (ct c)) "__init__" = some (some (.ref fI)) ∧ PySem.W.typeIn K (.ref fI) = some (.type "function") ∧ FnOk P w K mg base (L2.CX P w) 1 fI fd ps (spX K (ct c) fs) ∧ Binds K fd ps [] ∧ mg x = some (.ref (ct c))
structure ErrH (K : PySem.W.Frag) (mg : Str → Option Value) (ct : Nat → Addr) (x : Str) (c : Nat) (exs : Nat → Option Bool) : Prop where
  xf : XfC K (ct c)
  mg : mg x = some (.ref (ct c))
  exm : ∀ c1 b, exs c1 = some b → PySem.W.exmOne K (.ref (ct c1)) (.ref (ct c)) = some b
section
variable {X : Cx} {ct : Nat → Addr} {W : WX} {pos p : Pos} {e : Expr} {es : List Expr} {mA : M (List SV)}
theorem sd_raiseE {x : Str} {c : Nat} {fs : List Str} (O : ErrX X.prog X.w X.K X.mg X.base ct x c fs) (hfs : fs.length ≤ 1000) (hc : X.calm = true) (tk : Takes X W) (hr : Room 2 X.A) (ha : AD X ct W (e :: es) mA) (hg : Gl X x := by rfl)
    (hdb : (x == ("__debug__" : Str)) = false := by decide) (he : starEach (e :: es) X.env = (false, eval e X.env) :: starEach es X.env := by rfl) (hpl : ∀ pos : Pos, (backTo pos (starEach es X.env)).any (·.1) = false := by intro _; rfl) {pos2 : Pos} :
    SD X ct W (.Raise (some (.Call (.Name x p) (e :: es) [] pos)) none pos2) (raiseF c fs mA) := by
  obtain ⟨fI, fd, ps, T, iC, tI, F1, hb, hm⟩ := O.ex
  exact sd_raise hc tk T rfl iC tI F1 hfs hr hb hg hm ha hdb he hpl
theorem sd_tryE {x n : Str} {c : Nat} {i : Nat} {body suite : List Stmt} {b₀ : Stmt} {np pos' : Pos} {mb : M Fl} {exs : Nat → Option Bool} {hf : Exn → M Fl} (O : ErrH X.K X.mg ct x c exs) (hs : X.stack = X.env :: X.outer) (hfr : X.env.frame = some X.env.locals) (hN : X.N.Nodup) (hi : X.N[i]? = some n) (hln : X.env.kindOf n = some .local) (tk : Takes X W)
    (hone : ∀ c1, exs c1 = some true → c1 = c)
    (hb : ∀ (W' : WX) (pn : List (Addr × Obj)) (xe : Value → Shared → Prop), Takes (X.tr pn xe) W' → PassesOwn (model X.prog X.w) X.A X.env xe → SDs (X.tr pn xe) ct W' body mb)
    (hh : HD X ct c i (b₀ :: suite) hf) (hg : Gl X x := by rfl) (hdb : (x == ("__debug__" : Str)) = false := by decide) : SD X ct W (.Try body [.ExceptHandler (some (.Name x np)) (some n) (b₀ :: suite) pos'] [] [] pos) (tryF mb exs i hf) :=
  sd_try_as hs hfr hN hi hln ⟨hg, hdb, .inl O.mg⟩ tk O.exm hone hb hh
end
end Fd
set_option Elab.async false
set_option linter.all false
set_option maxRecDepth 100000
set_option maxHeartbeats 4000000
namespace Fd
open PySem PySem.Spec PyProof.Rows L2
/-! ## facts of the top by names -/
/-- a name of the module that holds data -/
structure CsT (K : PySem.W.Frag) (mg : Str → Option Value) (ct : Nat → Addr) (x : Str) (d : D) : Prop where
  ex : ∃ v u, mg x = some u ∧ RelV v u ∧ ∀ H, RepD K ct H v d
theorem ed_glob {X : Cx} {ct : Nat → Addr} {W : WX} {x : Str} {pos : Pos} {d : D} (T : CsT X.K X.mg ct x d) (hg : Gl X x := by rfl) (hd : (x == ("__debug__" : Str)) = false := by decide) : ED X ct W (.Name x pos) (pur (RD d)) := by
  obtain ⟨v, u, h1, h2, h3⟩ := T.ex
  exact ed_c (pe_glob hg h1 h2 hd) h3
/-- a tuple that the top has written -/
inductive KD2 (K : PySem.W.Frag) (ct : Nat → Addr) : V → D → Prop
  | non : KD2 K ct .non .non
  | bl (b : Bool) : KD2 K ct (.bl b) (.bl b)
  | int (i : Int) : KD2 K ct (.int i) (.int i)
  | str (x : Str) : KD2 K ct (.str x) (.str x)
theorem sqT_K {K : PySem.W.Frag} {H : Hp} {a : Addr} {o : Obj} {its : Array Value} {n : Nat} {vs : List V} (l : K.lookup a = some o) (hc : o.cls = .type "tuple") (hd : o.data = .seq its n) (hl : its.size ≤ 1000) (hv : Vals vs its.toList) : SqT K H a vs :=
  .inr ⟨o, its, n, l, hc, hd, Nat.le_trans hl (by rw [sizeLine_eq]; decide), hv⟩
section
variable {K : PySem.W.Frag} {ct : Nat → Addr} {mg : Str → Option Value} {h : Heap}
theorem csT_tup {x : Str} {a : Addr} {c2 : Option Addr} {its : Array Value} {n : Nat} {sl : Array (Option Value)} {vs : List V} {ds : List D} (KX : K.In h) (G : h.Ns mainGlobals mg) (e : PySem.W.nsIn K mainGlobals x = some (some (.ref a))) (l : K.lookup a = some ⟨.type "tuple", c2, .seq its n, sl⟩) (hl : its.size ≤ 1000) (hv : Vals vs its.toList) (hr : ∀ H, RepDs K ct H vs ds) : CsT K mg ct x (.tup ds) :=
  ⟨.ref a, _, PySem.W.mg_of KX G e, rfl, fun H => .tup (sqT_K l rfl rfl hl hv) (hr H)⟩
theorem csT_int {x : Str} {i : Int} {t : Tok} (KX : K.In h) (G : h.Ns mainGlobals mg) (e : PySem.W.nsIn K mainGlobals x = some (some (.int i t))) : CsT K mg ct x (.int i) :=
  ⟨.int i, _, PySem.W.mg_of KX G e, ⟨_, rfl⟩, fun H => .int i⟩
theorem csT_str {x : Str} {z : Str} {t : Tok} (KX : K.In h) (G : h.Ns mainGlobals mg) (e : PySem.W.nsIn K mainGlobals x = some (some (.str z t))) : CsT K mg ct x (.str z) :=
  ⟨.str z, _, PySem.W.mg_of KX G e, ⟨_, rfl⟩, fun H => .str z⟩
/-- a def with no defaults -/
theorem fnT0 {x : Str} {st : Stmt} {f : Addr} {oc : Value} {od an : Option Addr} {osl : Array (Option Value)} {kV doc pm cdv ct : Value} (KX : K.In h) (G : h.Ns mainGlobals mg) (e : PySem.W.nsIn K mainGlobals x = some (some (.ref f)))
    (l : K.lookup f = some ⟨oc, od, .func (PySem.W.fnOf x x (defArgs st) (defBody st) (defScope st) .none kV doc pm an cdv ct), osl⟩) (c : PySem.W.codeIn K cdv x = true) (k : PySem.W.keepIn K (.ref f) = true) : FnT K mg x st [] :=
  ⟨f, _, PySem.W.mg_of KX G e, ⟨⟨oc, od, _, kV, doc, pm, an, cdv, ct, osl, rfl, l, c, .inl ⟨rfl, rfl⟩, .inl rfl⟩, k⟩⟩
theorem fnT1 {x : Str} {st : Stmt} {f T : Addr} {oc : Value} {od an : Option Addr} {osl : Array (Option Value)} {kV doc pm cdv ct : Value} {o2 : Value} {c2 : Option Addr} {its : Array Value} {n : Nat} {sl : Array (Option Value)} {dvs : List V} (KX : K.In h) (G : h.Ns mainGlobals mg) (e : PySem.W.nsIn K mainGlobals x = some (some (.ref f)))
    (l : K.lookup f = some ⟨oc, od, .func (PySem.W.fnOf x x (defArgs st) (defBody st) (defScope st) (.ref T) kV doc pm an cdv ct), osl⟩) (c : PySem.W.codeIn K cdv x = true) (k : PySem.W.keepIn K (.ref f) = true) (lT : K.lookup T = some ⟨o2, c2, .seq its n, sl⟩) (hd : dvs ≠ []) (hv : Vals dvs its.toList) : FnT K mg x st dvs :=
  ⟨f, _, PySem.W.mg_of KX G e, ⟨⟨oc, od, _, kV, doc, pm, an, cdv, ct, osl, rfl, l, c, .inr ⟨hd, T, _, its.toList, n, rfl, lT, by simp, hv⟩, .inl rfl⟩, k⟩⟩
end
def exsOf (n c : Nat) (c1 : Nat) : Option Bool := if c1 < n then some (c1 == c) else none
theorem exsOf_one {n c : Nat} : ∀ c1, exsOf n c c1 = some true → c1 = c := fun c1 h => by
  unfold exsOf at h
  split at h
  · simpa using h
  · cases h
def ctOf (l : List Addr) (n : Nat) : Addr := l.getD n 0
theorem errH_mk {K : PySem.W.Frag} {mg : Str → Option Value} {h : Heap} {l : List Addr} {x : Str} {c : Nat} {C : Addr} (KX : K.In h) (G : h.Ns mainGlobals mg) (hc : l.getD c 0 = C) (e : PySem.W.nsIn K mainGlobals x = some (some (.ref C))) (hx : xfB K C = true)
    (hm : (List.range l.length).all (fun c1 => PySem.W.exmOne K (.ref (l.getD c1 0)) (.ref C) == some (c1 == c)) = true) : ErrH K mg (ctOf l) x c (exsOf l.length c) := by
  subst hc
  refine ⟨xfB_ok hx, PySem.W.mg_of KX G e, fun c1 b h => ?_⟩
  unfold exsOf at h
  split at h
  · rename_i lt
    cases h
    have := List.all_eq_true.mp hm c1 (List.mem_range.mpr lt)
    exact eq_of_beq this
  · cases h
end Fd
namespace Fd
open PySem PySem.Spec PyProof.Rows L2
/-! ## which argument goes where: (0, i) the i-th positional one, (1, i) the i-th default, (2, i) the i-th keyword -/
def pick {α : Type} (us its ws : List α) (p : Nat × Nat) : Option α := match p.1 with
  | 0 => us[p.2]?
  | 1 => its[p.2]?
  | _ => ws[p.2]?
def gsel (sel : List (Nat × Nat)) {α : Type} (us its ws : List α) : List α := sel.filterMap (pick us its ws)
theorem paired_at {α β : Type} {R : α → β → Prop} {as : List α} {bs : List β} (h : Paired R as bs) : ∀ i : Nat, (∃ a b, as[i]? = some a ∧ bs[i]? = some b ∧ R a b) ∨ (as[i]? = none ∧ bs[i]? = none) := by
  induction bs generalizing as with
  | nil => cases h; intro i; exact .inr ⟨by simp, by simp⟩
  | cons b bs ih =>
    cases h with
    | cons r t =>
      intro i
      cases i with
      | zero => exact .inl ⟨_, _, rfl, rfl, r⟩
      | succ i => simpa using ih t i
theorem repDs_paired {K : PySem.W.Frag} {ct : Nat → Addr} {H : Hp} {vs : List V} {ds : List D} (h : RepDs K ct H vs ds) : Paired (RepD K ct H) vs ds := by
  induction ds generalizing vs with
  | nil => cases h; exact .nil
  | cons d ds ih => cases h with | cons r t => exact .cons r (ih t)
theorem paired_repDs {K : PySem.W.Frag} {ct : Nat → Addr} {H : Hp} {vs : List V} {ds : List D} (h : Paired (RepD K ct H) vs ds) : RepDs K ct H vs ds := by
  induction ds generalizing vs with
  | nil => cases h; exact .nil
  | cons d ds ih => cases h with | cons r t => exact .cons r (ih t)
theorem gsel_rel {α β : Type} {R : α → β → Prop} (sel : List (Nat × Nat)) {us its ws : List α} {us' its' ws' : List β} (h1 : Paired R us us') (h2 : Paired R its its') (h3 : Paired R ws ws') : Paired R (gsel sel us its ws) (gsel sel us' its' ws') := by
  unfold gsel
  induction sel with
  | nil => exact .nil
  | cons p sel ih =>
    have key : (∃ a b, pick us its ws p = some a ∧ pick us' its' ws' p = some b ∧ R a b) ∨ (pick us its ws p = none ∧ pick us' its' ws' p = none) := by
      unfold pick
      split
      · exact paired_at h1 _
      · exact paired_at h2 _
      · exact paired_at h3 _
    rcases key with ⟨a, b, e1, e2, r⟩ | ⟨e1, e2⟩
    · rw [List.filterMap_cons_some e1, List.filterMap_cons_some e2]
      exact .cons r ih
    · rw [List.filterMap_cons_none e1, List.filterMap_cons_none e2]
      exact ih
section
variable {P : Program} {w : World} {K : PySem.W.Frag} {mg : Str → Option Value} {base : Heap} {x : Str} {dvs : List V}
theorem okKs {st : Stmt} {N ps : List Str} {k : Nat} {ct : Nat → Addr} {m : M Fl} {dd : List D} (T : FnT K mg x st dvs) (S : FnScope N ps (defScope st)) (n : Nat) (ks : List Str) (sel : List (Nat × Nat)) (hd : dvs ≠ []) (hdd : ∀ H, RepDs K ct H dvs dd)
    (hbd : ∀ (T : Addr) (kV doc pm : Value) (an : Option Addr) (cdv ct : Value) (us its ws : List Value), us.length = n → its.length = dvs.length → ws.length = ks.length →
      ∃ k, bindArgs (PySem.W.fnOf x x (defArgs st) (defBody st) (defScope st) (.ref T) kV doc pm an cdv ct) ⟨us, ks.zip ws⟩ = seqItems? (.ref T) >>= k ∧ k (some its.toArray) = pure (ps.zip (gsel sel us its ws)))
    (hb : ∀ (f : Addr) (cdv : Value) (A : Around) (outer : List Env) (s : Shared) (H : Hp) (E : XK), Room k (A.deeper (envOfC x (defScope st) s.heap.objs.size f cdv)) →
      SDs (cxOf (L2.CX P w) P w K mg base N x (defScope st) f cdv A outer s H E) ct (fun cls d _ H => E cls d H) (defBody st) m) : OkK P w K mg base ct x ps.length (k + 1) (runP N.length m) n ks (fun ds es => gsel sel ds dd es) :=
  okKw T S n ks (gsel sel) hd hdd (fun h1 h2 h3 => gsel_rel sel h1 h2 h3) (fun H vs ds zs us its ws h1 h2 h3 => paired_repDs (gsel_rel sel (repDs_paired h1) (repDs_paired h2) (repDs_paired h3))) hbd hb
end
end Fd
set_option Elab.async false
set_option linter.all false
set_option maxRecDepth 100000
set_option maxHeartbeats 4000000
namespace Fd
open PySem PySem.Spec PyProof.Rows L2
/-! ## the hand: what a take does -/
def skipZ (g : List Int) : List Int := g.dropWhile (· == 0)
def mixH (h : Hand) : Hand := ⟨[], (h.mixed * 69621 + 12345) % 2147483647, h.cnt + 1⟩
def onceH (h : Hand) : Int := (h.mixed * 48271 + h.cnt * 7919) % 2147483629
def twiceH (h : Hand) : Int := (onceH h * onceH h + h.cnt * 104729 + onceH h / 131) % 2147483587
def takeF (n : Int) (h : Hand) : Int × Hand := match skipZ h.great with
  | c :: r => (c % n, { h with great := c.fdiv n :: r })
  | [] => ((twiceH (mixH h) / 17) % n, mixH h)
def R_law_take (xs : List SV) (h : Hand) : Res × Hand := match xs with
  | [.hand, .dat (.int n)] => if 0 < n ∧ n.natAbs.log2 < 9000 then (.ret (.dat (.int (takeF n h).1)), (takeF n h).2) else (.bad, h)
  | _ => (.bad, h)
theorem once_lt (h : Hand) : 0 ≤ onceH h ∧ onceH h < 2147483629 := ⟨Int.emod_nonneg _ (by decide), Int.emod_lt_of_pos _ (by decide)⟩
theorem r_ix {K : PySem.W.Frag} {σ : L2.St} {H : Hp} {Q : VK} {j : Nat} {a : Addr} {xs : List V} {i : Int} {v : V} (h1 : σ[j]? = some (some (.ref a))) (h2 : H a = some (.lst xs)) (h3 : atI xs i = some v) (q : Q v H) : tOp (rIxL K) (tVar j) (tC (.int i)) σ H Q :=
  ⟨_, h1, a, xs, i, v, rfl, rfl, .inl (.inl h2), h3, q⟩
theorem r_ix2 {K : PySem.W.Frag} {σ : L2.St} {H : Hp} {Q : VK} {j : Nat} {a b : Addr} {xs ys : List V} {i k : Int} {v : V} (h1 : σ[j]? = some (some (.ref a))) (h2 : H a = some (.lst xs)) (h3 : atI xs i = some (.ref b)) (h4 : H b = some (.lst ys)) (h5 : atI ys k = some v) (q : Q v H) : tOp (rIxL K) (tOp (rIxL K) (tVar j) (tC (.int i))) (tC (.int k)) σ H Q :=
  r_ix h1 h2 h3 ⟨b, ys, k, v, rfl, rfl, .inl (.inl h4), h5, q⟩
theorem cutV_tail (x : V) (xs : List V) : cutV (x :: xs) (some 1) none = xs := by
  unfold cutV
  have : HT.sIx (x :: xs).length 0 (some 1) = 1 := by
    have := HT.sIx_nat (x :: xs).length 0 1
    rw [show ((1 : Nat) : Int) = 1 from rfl] at this
    rw [this]; simp
  rw [this, HT.sIx_none]; simp
theorem skipZ_cons0 (r : List Int) : skipZ (0 :: r) = skipZ r := rfl
theorem skipZ_ne {c : Int} (r : List Int) (h : ¬ c = 0) : skipZ (c :: r) = c :: r := by
  unfold skipZ
  rw [List.dropWhile_cons_of_neg (by simpa using h)]
end Fd
namespace Fd
open PySem PySem.Spec PyProof.Rows L2
/-! ## reading a take -/
def tI (i : Int) : TE := tC (.int i)
def hIx (K : PySem.W.Frag) (i : Int) : TE := tOp (rIxL K) (tVar 0) (tI i)
def tInt1 (t : TE) : TE := tCB (fun xs H Q => (∃ i, xs = [.int i] ∧ Q (.int i) H) ∨ ∃ k, xs = [.bl k] ∧ Q (.int (if k then 1 else 0)) H) (tCons t tNil)
def opA : R2 := rI0 fun i j => .int (i + j)
def opM : R2 := rI CMul fun i j => .int (i * j)
def opR : R2 := rI (fun _ j => 0 < j) fun i j => .int (i % j)
def takeT (K : PySem.W.Frag) : TS :=
  tSeq (tWhile (tAnd (fun σ H Q => hIx K 0 σ H fun x H' => ∃ k, TruV K x H' k ∧ Q k H') (tTest (tOp rEq (tOp (rIxL K) (hIx K 0) (tI 0)) (tI 0))))
      (tAsg (tSl (rSlL K) (hIx K 0) (tPart (tI 1)) tNoPart) (gSub (tVar 0) (tI 0) rSetL)))
    (tSeq (tIfS (fun σ H Q => hIx K 0 σ H fun x H' => ∃ k, TruV K x H' k ∧ Q k H')
      (tSeq (tAsg (tOp (rIxL K) (hIx K 0) (tI 0)) (gName 2))
      (tSeq (tAsg (tOp (rI (fun _ j => j ≠ 0 ∧ j.natAbs.log2 < 9000) fun i j => .int (i.fdiv j)) (tInt1 (tVar 2)) (tVar 1)) (gSub (hIx K 0) (tI 0) rSetL))
      (tRet (tOp opR (tInt1 (tVar 2)) (tVar 1))))) tNext)
    (tSeq (tAsg (tOp opA (hIx K 2) (tI 1)) (gSub (tVar 0) (tI 2) rSetL))
    (tSeq (tAsg (tOp opR (tInt1 (tOp opA (tOp opM (hIx K 1) (tI 69621)) (tI 12345))) (tI 2147483647)) (gSub (tVar 0) (tI 1) rSetL))
    (tSeq (tAsg (tOp opR (tInt1 (tOp opA (tOp opM (hIx K 1) (tI 48271)) (tOp opM (hIx K 2) (tI 7919)))) (tI 2147483629)) (gName 3))
    (tSeq (tAsg (tOp opR (tInt1 (tOp opA (tOp opA (tOp opM (tVar 3) (tVar 3)) (tOp opM (hIx K 2) (tI 104729))) (tOp (rI CDiv fun i j => .int (i / j)) (tVar 3) (tI 131)))) (tI 2147483587)) (gName 4))
    (tRet (tOp opR (tInt1 (tOp (rI CDiv fun i j => .int (i / j)) (tVar 4) (tI 17))) (tVar 1))))))))
theorem atI_0 {α : Type} {x : α} {xs : List α} : atI (x :: xs) 0 = some x := by
  unfold atI ixN; simp
theorem atI3 {α : Type} {x y z : α} : atI [x, y, z] 0 = some x ∧ atI [x, y, z] 1 = some y ∧ atI [x, y, z] 2 = some z := by
  unfold atI ixN; simp
theorem ixN3 : ixN 3 0 = some 0 ∧ ixN 3 1 = some 1 ∧ ixN 3 2 = some 2 := by
  unfold ixN; simp
theorem ixN_0 {n : Nat} : ixN (n + 1) 0 = some 0 := by unfold ixN; simp
theorem cmulR {i j : Int} (h : -(2 ^ 64) < j ∧ j < 2 ^ 64) : CMul i j := .inr h
theorem hx {K : PySem.W.Frag} {σ : L2.St} {H : Hp} {Q : VK} {a g : Addr} {m c : Int} (h1 : σ[0]? = some (some (.ref a))) (h2 : H a = some (.lst [.ref g, .int m, .int c])) :
    (Q (.ref g) H → hIx K 0 σ H Q) ∧ (Q (.int m) H → hIx K 1 σ H Q) ∧ (Q (.int c) H → hIx K 2 σ H Q) :=
  ⟨fun q => r_ix h1 h2 atI3.1 q, fun q => r_ix h1 h2 atI3.2.1 q, fun q => r_ix h1 h2 atI3.2.2 q⟩
structure TkInv (H0 : Hp) (ah g : Addr) (h : Hand) (g' : Addr) (gr : List Int) (H : Hp) : Prop where
  hr : HandR ah g' H ⟨gr, h.mixed, h.cnt⟩
  gg : g' = g ∨ H0 g' = none
  sk : skipZ gr = skipZ h.great
  kp : ∀ a o, H0 a = some o → a ≠ ah → a ≠ g → H a = some o
  th : ∀ a, H0 a ≠ none → H a ≠ none
theorem handR_ne {ah g : Addr} {H : Hp} {h : Hand} (x : HandR ah g H h) : g ≠ ah := fun z => by
  obtain ⟨h1, h2⟩ := x
  rw [z, h1] at h2
  have := HO.lst.inj (Option.some.inj h2)
  cases e : h.great with
  | nil => rw [e] at this; cases this
  | cons c r => rw [e] at this; injection this with t1 t2; cases t1
theorem take_read {K : PySem.W.Frag} {ct : Nat → Addr} {vs : List V} {H : Hp} {Q : VK} {E : XK} {N : List Str} (hN : N.length = 5) (h : spH K ct 2 R_law_take vs H Q E) : takeT K { nx := fun _ H' => Q .non H', rt := Q } (L2.start N vs) H := by
  obtain ⟨hl, ah, g, hd, xs, hh, rp, gd⟩ := h
  match xs, rp, gd with
  | [.hand, .dat (.int n)], rp, gd =>
    cases rp with
    | cons r1 rp =>
      cases rp with
      | cons r2 rp =>
        cases rp
        cases r2
        obtain rfl := r1
        unfold GoodH R_law_take at gd
        by_cases hc : 0 < n ∧ n.natAbs.log2 < 9000
        · simp only [if_pos hc] at gd
          obtain ⟨σ, e⟩ : ∃ σ, L2.start N [V.ref ah, V.int n] = σ := ⟨_, rfl⟩
          have eσ : L2.start N [V.ref ah, V.int n] = [some (.ref ah), some (.int n), none, none, none] := by
            unfold L2.start; simp [hN]
          rw [eσ]
          clear e σ
          let σ0 : L2.St := [some (.ref ah), some (.int n), none, none, none]
          refine ⟨fun m σ H' => σ = σ0 ∧ ∃ g' gr, gr.length = m ∧ TkInv H ah g hd g' gr H', ⟨hd.great.length, rfl, g, hd.great, rfl, ⟨hh, .inl rfl, rfl, fun a o e _ _ => e, fun a z => z⟩⟩, ?_⟩
          rintro m σ H1 ⟨rfl, g', gr, hm, I⟩
          have e1 : H1 ah = some (.lst [.ref g', .int hd.mixed, .int hd.cnt]) := I.hr.1
          have e2 : H1 g' = some (.lst (gr.map V.int)) := I.hr.2
          have ne : g' ≠ ah := handR_ne I.hr
          refine (hx (K := K) (σ := σ0) rfl e1).1 ⟨!gr.isEmpty, .inl ⟨gr.map V.int, .inl (.inl e2), by cases gr <;> rfl⟩, ?_⟩
          -- what the loop leaves: the cells from the first that is not 0
          have rest : ∀ c r, gr = c :: r → ¬ c = 0 → skipZ hd.great = c :: r := fun c r e hz => by rw [← I.sk, e, skipZ_ne r hz]
          cases gr with
          | nil =>
            refine iteF ?_
            refine iteF ?_
            have sk0 : skipZ hd.great = [] := I.sk.symm
            -- no cell
            refine (hx (K := K) (σ := σ0) rfl e1).1 ⟨false, .inl ⟨[], .inl (.inl e2), rfl⟩, ?_⟩
            refine iteF ?_
            refine (hx (K := K) (σ := σ0) rfl e1).2.2 ⟨_, _, rfl, rfl, _, rfl, ah, _, 2, 2, rfl, rfl, e1, ixN3.2.2, ?_⟩
            have e3 : (upd H1 ah (.lst [.ref g', .int hd.mixed, .int (hd.cnt + 1)])) ah = some (.lst [.ref g', .int hd.mixed, .int (hd.cnt + 1)]) := upd_same
            generalize hH2 : (upd H1 ah (.lst [.ref g', .int hd.mixed, .int (hd.cnt + 1)])) = H2 at e3
            have hH2' : (upd H1 ah (.lst ([V.ref g', V.int hd.mixed, V.int hd.cnt].set 2 (V.int (hd.cnt + 1))))) = H2 := hH2
            rw [hH2']
            refine (hx (K := K) (σ := σ0) rfl e3).2.1 ⟨_, _, rfl, rfl, cmulR (by decide), _, _, rfl, rfl, .inl ⟨_, rfl, _, _, rfl, rfl, (show (0 : Int) < 2147483647 by decide), _, rfl, ah, _, 1, 1, rfl, rfl, e3, ixN3.2.1, ?_⟩⟩
            have e4 : (upd H2 ah (.lst [.ref g', .int (mixH hd).mixed, .int (mixH hd).cnt])) ah = some (.lst [.ref g', .int (mixH hd).mixed, .int (mixH hd).cnt]) := upd_same
            generalize hH3 : (upd H2 ah (.lst [.ref g', .int (mixH hd).mixed, .int (mixH hd).cnt])) = H3 at e4
            have hH3' : (upd H2 ah (.lst ([V.ref g', V.int hd.mixed, V.int (hd.cnt + 1)].set 1 (V.int ((hd.mixed * 69621 + 12345) % 2147483647))))) = H3 := hH3
            rw [hH3']
            refine (hx (K := K) (σ := σ0) rfl e4).2.1 ⟨_, _, rfl, rfl, cmulR (by decide), (hx (K := K) (σ := σ0) rfl e4).2.2 ⟨_, _, rfl, rfl, cmulR (by decide), _, _, rfl, rfl, .inl ⟨_, rfl, _, _, rfl, rfl, (show (0 : Int) < 2147483629 by decide), ?_⟩⟩⟩
            have ol := once_lt (mixH hd)
            let σ1 : L2.St := [some (.ref ah), some (.int n), none, some (.int (onceH (mixH hd))), none]
            refine ⟨_, rfl, _, rfl, _, _, rfl, rfl, cmulR (show -(2 ^ 64) < onceH (mixH hd) ∧ onceH (mixH hd) < 2 ^ 64 by omega), (hx (K := K) (σ := σ1) rfl e4).2.2 ⟨_, _, rfl, rfl, cmulR (by decide), _, _, rfl, rfl, _, rfl, _, _, rfl, rfl, ⟨by decide, by decide⟩, _, _, rfl, rfl, .inl ⟨_, rfl, _, _, rfl, rfl, (show (0 : Int) < 2147483587 by decide), ?_⟩⟩⟩
            refine ⟨_, rfl, _, _, rfl, rfl, ⟨by decide, by decide⟩, .inl ⟨_, rfl, _, rfl, _, _, rfl, rfl, hc.1, ?_⟩⟩
            have tk : takeF n hd = ((twiceH (mixH hd) / 17) % n, mixH hd) := by unfold takeF; rw [sk0]
            rw [tk] at gd
            have kp3 : ∀ a o, H a = some o → a ≠ ah → a ≠ g → H3 a = some o := fun a o ea n1 n2 => by
              rw [← hH3, upd_ne n1, ← hH2, upd_ne n1]
              exact I.kp a o ea n1 n2
            refine gd _ H3 g' kp3 (fun a ha => ?_) ⟨e4, ?_⟩ I.gg (RepD.int _) (fun ds z => by cases z)
            · rw [← hH3, ← hH2]
              exact there_upd _ (there_upd _ (I.th a ha))
            · rw [← hH3, upd_ne ne, ← hH2, upd_ne ne]
              exact e2
          | cons c r =>
            refine iteT ?_
            refine (hx (K := K) (σ := σ0) rfl e1).1 ⟨_, _, 0, .int c, rfl, rfl, .inl (.inl e2), atI_0, ?_⟩
            refine ⟨rfl, _, rfl, ?_⟩
            by_cases hz : c = 0
            · -- a 0 in front
              subst hz
              rw [show decide (V.int 0 = V.int 0) = true from decide_eq_true rfl]
              refine iteT ?_
              refine ⟨fun σ H' => σ = σ0 ∧ ∃ g2, TkInv H ah g hd g2 r H', fun σ' H' w => ⟨r.length, by rw [← hm]; simp, w.1, w.2.elim fun g2 J => ⟨g2, r, rfl, J⟩⟩, ?_⟩
              refine (hx (K := K) (σ := σ0) rfl e1).1 ⟨_, rfl, g', _, rfl, .inl (.inl e2), fun p np => ?_⟩
              have nap : ah ≠ p := fun z => by rw [← z, e1] at np; cases np
              have e1p : (upd H1 p (.lst (cutV ((0 :: r).map V.int) (some 1) none))) ah = some (.lst [.ref g', .int hd.mixed, .int hd.cnt]) := by rw [upd_ne nap]; exact e1
              refine ⟨_, rfl, ah, _, 0, 0, rfl, rfl, e1p, ixN3.1, rfl, p, ⟨⟨upd_same, ?_⟩, .inr ?_, ?_, fun a o ea n1 n2 => ?_, fun a ha => there_upd _ (there_upd _ (I.th a ha))⟩⟩
              · rw [upd_ne nap.symm, upd_same, List.map_cons, cutV_tail]
              · cases ep : H p with
                | none => rfl
                | some o => exact absurd np (I.th p (by rw [ep]; exact fun z => by cases z))
              · exact (skipZ_cons0 r).symm.trans I.sk
              · have npa : a ≠ p := fun z => I.th a (by rw [ea]; exact fun z => by cases z) (by rw [z]; exact np)
                rw [upd_ne n1, upd_ne npa]
                exact I.kp a o ea n1 n2
            · rw [show decide (V.int c = V.int 0) = false from decide_eq_false fun z => hz (V.int.inj z)]
              refine iteF ?_
              refine (hx (K := K) (σ := σ0) rfl e1).1 ⟨true, .inl ⟨_, .inl (.inl e2), rfl⟩, ?_⟩
              refine iteT ?_
              have sk1 : skipZ hd.great = c :: r := rest c r rfl hz
              refine (hx (K := K) (σ := σ0) rfl e1).1 ⟨_, _, 0, .int c, rfl, rfl, .inl (.inl e2), atI_0, ?_⟩
              let σ1 : L2.St := [some (.ref ah), some (.int n), some (.int c), none, none]
              refine ⟨_, rfl, .inl ⟨_, rfl, _, rfl, _, _, rfl, rfl, ⟨by omega, hc.2⟩, ?_⟩⟩
              refine (hx (K := K) (σ := σ1) rfl e1).1 ⟨g', _, 0, 0, rfl, rfl, e2, ixN_0, ?_⟩
              refine ⟨_, rfl, .inl ⟨_, rfl, _, rfl, _, _, rfl, rfl, hc.1, ?_⟩⟩
              have tk : takeF n hd = (c % n, { hd with great := c.fdiv n :: r }) := by unfold takeF; rw [sk1]
              rw [tk] at gd
              refine gd _ _ g' (fun a o ea n1 n2 => ?_) (fun a ha => there_upd _ (I.th a ha)) ⟨by rw [upd_ne ne.symm]; exact e1, upd_same⟩ I.gg (RepD.int _) (fun ds z => by cases z)
              have : a ≠ g' := fun z => by
                rcases I.gg with q | q
                · exact n2 (z.trans q)
                · rw [← z, ea] at q; cases q
              rw [upd_ne this]
              exact I.kp a o ea n1 n2
        · simp only [if_neg hc] at gd
end Fd
set_option Elab.async false
set_option linter.all false
set_option maxRecDepth 100000
set_option maxHeartbeats 4000000
namespace Fd
open PySem PySem.Spec PyProof.Rows L2
/-! ## the law's own hand from its script -/
def spN (K : PySem.W.Frag) : Sp := fun vs H Q _ => ∃ (a : Addr) (ns : List Int), vs = [.ref a] ∧ SqL K H a (ns.map V.int) ∧ ns.length ≤ 63 ∧ ∀ ah g h H', L2.Same H H' → H ah = none → H g = none → HandR ah g H' h → Q (.ref ah) H'
theorem spN_len {K : PySem.W.Frag} (vs : List V) (H : Hp) (Q : VK) (E : XK) (h : spN K vs H Q E) : vs.length = 1 := by
  obtain ⟨a, ns, rfl, _⟩ := h
  rfl
structure OkN (P : Program) (w : World) (K : PySem.W.Frag) (mg : Str → Option Value) (base : Heap) (x : Str) (k : Nat) : Prop where
  ex : ∃ (f : Addr) (fd : FuncData) (ps : List Str), ps.length = 1 ∧ mg x = some (.ref f) ∧ PySem.W.keepIn K (.ref f) = true ∧ FnOk P w K mg base (L2.CX P w) k f fd ps (spN K) ∧ Binds K fd ps []
def tAbs (t : TE) : TE := tCB (fun xs H Q => ∃ i, xs = [.int i] ∧ Q (.int (if i < 0 then -i else i)) H) (tCons t tNil)
def opG : R2 := rI0 fun i j => .bl (decide (j ≤ i))
def handT (K : PySem.W.Frag) : TS :=
  tSeq (tAsg (tLst tNil) (gName 1))
  (tSeq (tAsg (tOp opA (tCB (fun xs H Q => ∃ x n, xs = [x] ∧ LenV K x H n ∧ Q (.int n) H) (tCons (tVar 0) tNil)) (tI 7)) (gName 2))
  (tSeq (tFor (iList K (tVar 0)) (gName 3)
    (tSeq (tAsg (tAbs (tInt1 (tVar 3))) (gName 4))
    (tSeq (tAsg (tOp opA (tOp opR (tInt1 (tOp opA (tOp opM (tVar 2) (tI 31337)) (tVar 4))) (tI 2147483629)) (tI 1)) (gName 2))
    (tIfS (tTest (tOp opG (tVar 4) (tOp (rI CPow fun i j => .int (i ^ j.toNat)) (tI 10) (tI 18)))) (tDrop (tBM K "list" rAppend (tVar 1) (tCons (tVar 4) tNil))) tNext))))
  (tRet (tLst (tCons (tVar 1) (tCons (tVar 2) (tCons (tI 0) tNil)))))))
theorem hand_read {K : PySem.W.Frag} {vs : List V} {H : Hp} {Q : VK} {E : XK} {N : List Str} (hN : N.length = 5) (h : spN K vs H Q E) : handT K { nx := fun _ H' => Q .non H', rt := Q } (L2.start N vs) H := by
  obtain ⟨a, ns, rfl, hS, hl, k⟩ := h
  have eσ : L2.start N [V.ref a] = [some (.ref a), none, none, none, none] := by
    unfold L2.start; simp [hN]
  rw [eσ]
  refine ⟨Nat.zero_le _, fun g ng => ?_⟩
  have s1 : L2.Same H (upd H g (.lst [])) := fun b o e => by rw [upd_ne (ne_of_none e ng)]; exact e
  have sq : ∀ {H'}, L2.Same H H' → SqL K H' a (ns.map V.int) := fun s => s.seq hS
  refine ⟨_, rfl, _, _, rfl, .inl ⟨_, sq s1, rfl⟩, _, _, rfl, rfl, ?_⟩
  refine ⟨_, rfl, a, rfl, ⟨_, sq s1⟩, for_list (K := K) (a := a) (xs := ns.map V.int) (fun i σ H2 => ∃ (m : Int) (gr : List Int) (x y : Option V), σ = [some (.ref a), some (.ref g), some (.int m), x, y] ∧ L2.Same H H2 ∧ H2 g = some (.lst (gr.map V.int)) ∧ gr.length ≤ i)
    ⟨_, [], none, none, rfl, s1, upd_same, Nat.zero_le _⟩ (fun i σ H2 _ ⟨_, _, _, _, _, s2, _⟩ => sq s2) ?_ ?_⟩
  · rintro i y σ H2 hi ⟨m, gr, x, z, rfl, s2, hg, hi2⟩
    obtain ⟨c, rfl⟩ : ∃ c, y = V.int c := by
      rw [List.getElem?_map] at hi
      cases e : ns[i]? with
      | none => rw [e] at hi; cases hi
      | some c => rw [e] at hi; exact ⟨c, (Option.some.inj hi).symm⟩
    have hil : i < (ns.map V.int).length := (List.getElem?_eq_some_iff.mp hi).1
    rw [List.length_map] at hil
    refine ⟨_, rfl, .inl ⟨_, rfl, _, rfl, ?_⟩⟩
    refine ⟨_, rfl, _, _, rfl, rfl, cmulR (by decide), _, rfl, _, _, rfl, rfl, .inl ⟨_, rfl, _, _, rfl, rfl, (show (0 : Int) < 2147483629 by decide), _, _, rfl, rfl, ?_⟩⟩
    refine ⟨_, rfl, _, _, rfl, rfl, ⟨by decide, by decide, by decide⟩, _, _, rfl, rfl, _, rfl, ?_⟩
    refine ite2 (fun _ => ?_) fun _ => ?_
    · refine ⟨_, rfl, .inl ⟨rfl, _, .inl (.inl hg)⟩, _, rfl, g, _, _, rfl, rfl, hg, ?_, ?_⟩
      · rw [List.length_map]
        exact small1000 (by omega)
      · refine ⟨_, gr ++ [_], _, _, rfl, fun b o e => ?_, by rw [upd_same, List.map_append]; rfl, by simp; omega⟩
        rw [upd_ne (ne_of_none e ng)]
        exact s2 b o e
    · exact ⟨_, gr, _, _, rfl, s2, hg, by omega⟩
  · rintro σ H2 ⟨m, gr, x, y, rfl, s2, hg, _⟩
    refine ⟨_, rfl, _, rfl, Nat.le_of_lt (show 3 < sizeLine from small1000 (by decide)), fun p np => ?_⟩
    have ngp : g ≠ p := fun z => by rw [z, np] at hg; cases hg
    refine k p g ⟨gr, m, 0⟩ _ (fun b o e => ?_) ?_ ng ⟨upd_same, by rw [upd_ne ngp]; exact hg⟩
    · rw [upd_ne fun z => by rw [← z, s2 b o e] at np; cases np]
      exact s2 b o e
    · cases e : H p with
      | none => rfl
      | some o => rw [s2 p o e] at np; cases np
end Fd
set_option Elab.async false
set_option linter.all false
set_option maxRecDepth 100000
set_option maxHeartbeats 4000000
namespace Fd
open PySem PySem.Spec PyProof.Rows L2
/-! ## the law -/
def spLaw (K : PySem.W.Frag) : Sp := fun vs H Q _ => ∃ (a : Addr) (ns : List Int), vs = [.ref a] ∧ SqL K H a (ns.map V.int) ∧ ns.length ≤ 63 ∧ ∀ H', Q (.bl true) H'
def startL (n : Nat) (h : Hand) : S := ⟨none :: some .hand :: List.replicate (n - 2) none, [], some h⟩
/-- the law's first statement -/
structure HandSt (X : Cx) (st : Stmt) : Prop where
  ex : ∃ t0, PS X st t0 ∧ ∀ (N : Ends) (σ : L2.St) (H : Hp) (a : Addr) (ns : List Int), σ[0]? = some (some (.ref a)) → SqL X.K H a (ns.map V.int) → ns.length ≤ 63 →
    (∀ ah g h H', L2.Same H H' → H ah = none → H g = none → HandR ah g H' h → N.nx (σ.set 1 (some (.ref ah))) H') → t0 N σ H
theorem hand_st {X : Cx} {y z : Str} {p p2 p' pos pos2 : Pos} (O : OkN X.prog X.w X.K X.mg X.base "_law_hand" 1) (hr : Room 1 X.A) (hv : PE X (.Name z p2) (tVar 0)) (hgt : PG X (.Name y p') (gName 1)) (hg : Gl X "_law_hand" := by rfl)
    (he : starEach [.Name z p2] X.env = (false, eval (.Name z p2) X.env) :: starEach [] X.env := by rfl) (hpl : (backTo pos (starEach [] X.env)).any (·.1) = false := by rfl)
    (hs : swapsWithSole [.Name y p'] (.Call (.Name "_law_hand" p) [.Name z p2] [] pos) pos2.line X.env = pure false := by rfl) (hw : swappedStores [.Name y p'] (.Call (.Name "_law_hand" p) [.Name z p2] [] pos) X.env = pure none := by rfl)
    (h1 : (assignEach [.Name y p'] X.env).map (·.2) = [assign (.Name y p') X.env] := by rfl) : HandSt X (.Assign [.Name y p'] (.Call (.Name "_law_hand" p) [.Name z p2] [] pos) pos2) := by
  obtain ⟨f, fd, ps, _, hm, hk, F, hb⟩ := O.ex
  refine ⟨_, ps_asg (pe_call F hr hg hm hk hb .nil passL (pa_cons hv pa_nil he) (by decide) he hpl) hgt hs hw h1, fun N σ H a ns h0 hS hl k => ?_⟩
  refine ⟨_, h0, a, ns, rfl, hS, hl, fun ah g h H' s1 n1 n2 hR => ?_⟩
  exact k ah g h H' s1 n1 n2 hR
section
variable {P : Program} {w : World} {K : PySem.W.Frag} {mg : Str → Option Value} {base : Heap}
theorem okL {st st0 : Stmt} {rest : List Stmt} {N : List Str} {k : Nat} {ct : Nat → Addr} {m : M Fl} {x z : Str} {f : Addr} {fd : FuncData} (F : FunD K x x (defArgs st) (defBody st) (defScope st) [] [] f fd) (S : FnScope N [z] (defScope st)) (hN : 2 ≤ N.length) (hbd : defBody st = st0 :: rest)
    (hm : ∀ h, ∃ s', m (startL N.length h) = .ok (.rt (RB true)) s')
    (hb : ∀ (cdv : Value) (A : Around) (outer : List Env) (s : Shared) (H : Hp) (E : XK), Room k (A.deeper (envOfC x (defScope st) s.heap.objs.size f cdv)) →
      HandSt (cxOf (L2.CX P w) P w K mg base N x (defScope st) f cdv A outer s H E) st0 ∧ SDs (cxOf (L2.CX P w) P w K mg base N x (defScope st) f cdv A outer s H E) ct (fun cls d _ H => E cls d H) rest m) :
    FnOk P w K mg base (L2.CX P w) (k + 1) f fd [z] (spLaw K) := by
  refine F.ok S (fun vs H Q E h => ?_) fun cdv A outer s H vs Q E hr h => ?_
  · obtain ⟨a, ns, rfl, _⟩ := h
    rfl
  · obtain ⟨a, ns, rfl, hS, hl, kq⟩ := h
    obtain ⟨h0, hD⟩ := hb cdv A outer s H E hr
    obtain ⟨t0, p0, r0⟩ := h0.ex
    obtain ⟨t, p, r⟩ := hD.ex
    rw [hbd]
    refine ⟨_, pss_cons p0 p, ?_⟩
    have es : (L2.start N [V.ref a]) = some (.ref a) :: List.replicate (N.length - 1) none := by
      unfold L2.start; simp
    refine r0 _ _ H a ns (by rw [es]; rfl) hS hl fun ah g h H' s1 n1 n2 hR => ?_
    obtain ⟨s', em⟩ := hm h
    let γ0 : G := ⟨fun _ => 0, ah, g⟩
    have len0 : (L2.start N [V.ref a]).length = N.length := by rw [es]; simp; omega
    have R0 : Rep K ct γ0 H' ((L2.start N [V.ref a]).set 1 (some (.ref ah))) (startL N.length h) := by
      refine ⟨?_, fun i x e => ?_, fun k xs e => by simp [startL] at e, fun j k hj => ?_, fun h' e => ?_, fun _ k hk => ?_⟩
      · rw [List.length_set, len0]; simp [startL]; omega
      · match i, e with
        | 0, e => simp [startL] at e
        | 1, e =>
          simp [startL] at e
          subst e
          exact ⟨.ref ah, by rw [List.getElem?_set_self (by rw [len0]; omega)], rfl⟩
        | i + 2, e =>
          simp [startL, List.getElem?_replicate] at e
      · obtain ⟨xs, e⟩ := hj
        simp [startL] at e
      · simp [startL] at e; subst e; exact hR
      · obtain ⟨xs, e⟩ := hk
        simp [startL] at e
    refine r _ _ H' γ0 (startL N.length h) R0 ?_
    unfold GoodS
    rw [em]
    intro v σ' γ' H2 st2 R2 q
    cases q
    exact kq H2
/-- the end: a def law, its facts, its walk over every base -/
theorem law_end {l : PySem.W.OpenLaw} {q : Program} {loose : List Str} {XP : (Str → Option Value) → Heap → Prop} {YP : World → Heap → Prop} {d : DefRec} {K : Params → PySem.W.Frag} {k : Nat} (hn : l.most = some 63) (hdf : d.params.defaults = []) (hr : Room k callerA)
    (hY : ∀ (w : World) (h : Heap), YP w h → (K w.params).In h)
    (F : ∀ (w : World) (mg : Str → Option Value) (fa : Addr) (h : Heap), (K w.params).In h → h.Ns mainGlobals mg → mg d.name = some (.ref fa) →
      ∃ fd : FuncData, (∀ (s : Shared) (u : Value), BindsTo s fd ⟨[u], []⟩ [("_law_script", u)]) ∧ ∀ base : Heap, (K w.params).In base → base.Ns mainGlobals mg → FnOk l.prog w (K w.params) mg base (L2.CX l.prog w) k fa fd ["_law_script"] (spLaw (K w.params))) :
    PySem.W.WalkO q loose XP YP l.row.toRowW d [] (fun f vs => PySem.call f vs) :=
  L2.walk_of (n := 63) (k := k) (x := "_law_script") (CX := fun w => L2.CX l.prog w) (sp := fun w => spLaw (K w.params)) hn (by decide) hdf hr hY F (fun _ _ a ns hl _ hS => ⟨a, ns, rfl, hS, hl, fun _ => rfl⟩) fun w H s e s' h => by
    obtain ⟨a, B, H', cls, d, _, _, _, _, _, _, _, z⟩ := h
    exact z
end
end Fd
namespace Fd
open PySem
theorem freeNames_of {c : Str} : ∀ {l : List (Str × NameKind)}, (∀ p ∈ l, p.2 = .free → p.1 = c) → ∀ x, l.lookup x = some .free → x = c
  | [], _, x, h => by cases h
  | (y, k) :: l, hl, x, h => by
    rw [List.lookup_cons] at h
    split at h
    · rename_i e
      cases h
      have := hl (y, .free) (by simp) rfl
      rw [eq_of_beq e]; exact this
    · exact freeNames_of (fun p hp => hl p (by simp [hp])) x h
end Fd
set_option Elab.async false
set_option linter.all false
set_option maxRecDepth 100000
set_option maxHeartbeats 4000000
namespace Fd
open PySem PySem.Spec PyProof.Rows L2
/-! ## how the combinators compute, for simp -/
def isNoD : D → Bool
  | .non => true
  | _ => false
@[simp] theorem no_non : isNoD .non = true := rfl
@[simp] theorem no_int (a : Int) : isNoD (.int a) = false := rfl
@[simp] theorem no_bl (a : Bool) : isNoD (.bl a) = false := rfl
@[simp] theorem no_str (a : Str) : isNoD (.str a) = false := rfl
@[simp] theorem no_tup (a : List D) : isNoD (.tup a) = false := rfl
@[simp] theorem no_lst (a : List D) : isNoD (.lst a) = false := rfl
section
variable {α β : Type} (s : S)
@[simp] theorem e_pur (a : α) : (pur a : M α) s = .ok a s := rfl
@[simp] theorem e_bnd (m : M α) (f : α → M β) : bnd m f s = match m s with
  | .ok a s' => f a s'
  | .exc x s' => .exc x s'
  | .bad => .bad := rfl
@[simp] theorem e_stuck : (stuck : M α) s = .bad := rfl
@[simp] theorem e_m2 (a b : M RV) (f) : m2 a b f s = bnd a (fun x => bnd b fun y => f x y) s := rfl
@[simp] theorem e_getV (i : Nat) : getV i s = match s.env[i]? with
  | some (some x) => .ok (.sv x) s
  | _ => .bad := rfl
@[simp] theorem e_setV (i : Nat) (x : SV) : setV i x s = .ok () { s with env := s.env.set i (some x) } := rfl
@[simp] theorem e_retF (m : M RV) : retF m s = bnd m (fun r => pur (.rt r)) s := rfl
@[simp] theorem e_dropF (m : M RV) : dropF m s = bnd m (fun r => pur .nx) s := rfl
@[simp] theorem e_seqF (m g : M Fl) : seqF m g s = match m s with
  | .ok .nx s' => g s'
  | .ok f s' => .ok f s'
  | .exc x s' => .exc x s'
  | .bad => .bad := by
  unfold seqF bnd
  cases m s with
  | ok f s' => cases f <;> rfl
  | exc => rfl
  | bad => rfl
@[simp] theorem e_ifF (t : M Bool) (a b : M Fl) : ifF t a b s = match t s with
  | .ok true s' => a s'
  | .ok false s' => b s'
  | .exc x s' => .exc x s'
  | .bad => .bad := by
  unfold ifF bnd
  cases t s with
  | ok f s' => cases f <;> rfl
  | exc => rfl
  | bad => rfl
@[simp] theorem e_ifE (t : M Bool) (a b : M RV) : ifE t a b s = match t s with
  | .ok true s' => a s'
  | .ok false s' => b s'
  | .exc x s' => .exc x s'
  | .bad => .bad := by
  unfold ifE bnd
  cases t s with
  | ok f s' => cases f <;> rfl
  | exc => rfl
  | bad => rfl
@[simp] theorem e_asgF (m : M RV) (f) : asgF m f s = match m s with
  | .ok (.sv x) s' => nxU (f x) s'
  | .ok (.new _) _ => .bad
  | .exc x s' => .exc x s'
  | .bad => .bad := by
  unfold asgF bnd
  cases m s with
  | ok f s' => cases f <;> rfl
  | exc => rfl
  | bad => rfl
@[simp] theorem e_consA (m : M RV) (mA) : consA m mA s = match m s with
  | .ok (.sv x) s' => bnd mA (fun xs => pur (x :: xs)) s'
  | .ok (.new _) _ => .bad
  | .exc x s' => .exc x s'
  | .bad => .bad := by
  unfold consA bnd
  cases m s with
  | ok f s' => cases f <;> rfl
  | exc => rfl
  | bad => rfl
@[simp] theorem e_consB (m : M RV) (mA) : consB m mA s = bnd m (fun x => bnd mA fun xs => pur (x :: xs)) s := rfl
@[simp] theorem e_parF (i j : Nat) (mA) : parF i j mA s = bnd mA (fun xs s => match xs with
  | [x, y] => .ok .nx { s with env := (s.env.set i (some x)).set j (some y) }
  | _ => .bad) s := rfl
@[simp] theorem e_andT (a b : M Bool) : andT a b s = match a s with
  | .ok true s' => b s'
  | .ok false s' => .ok false s'
  | .exc x s' => .exc x s'
  | .bad => .bad := by
  unfold andT bnd
  cases a s with
  | ok f s' => cases f <;> rfl
  | exc => rfl
  | bad => rfl
@[simp] theorem e_orT (a b : M Bool) : orT a b s = match a s with
  | .ok true s' => .ok true s'
  | .ok false s' => b s'
  | .exc x s' => .exc x s'
  | .bad => .bad := by
  unfold orT bnd
  cases a s with
  | ok f s' => cases f <;> rfl
  | exc => rfl
  | bad => rfl
@[simp] theorem e_notT (a : M Bool) : notT a s = bnd a (fun b => pur (!b)) s := rfl
@[simp] theorem e_truthM (r : RV) : truthM r s = match trB s r with
  | some b => .ok b s
  | none => .bad := rfl
@[simp] theorem e_notM (r : RV) : notM r s = match trB s r with
  | some b => .ok (RB (!b)) s
  | none => .bad := rfl
@[simp] theorem e_andV (a b : M RV) : andV a b s = bnd a (fun x s => match trB s x with
  | some true => b s
  | some false => .ok x s
  | none => .bad) s := rfl
@[simp] theorem e_orV (a b : M RV) : orV a b s = bnd a (fun x s => match trB s x with
  | some true => .ok x s
  | some false => b s
  | none => .bad) s := rfl
@[simp] theorem e_tupM (xs : List SV) : tupM xs s = match datL xs with
  | some ds => if ds.length ≤ 1000 then .ok (RT ds) s else .bad
  | none => .bad := rfl
@[simp] theorem e_lstM (xs : List SV) : lstM xs s = if xs.length ≤ 1000 then .ok (.new xs) s else .bad := rfl
@[simp] theorem e_callM (n F dd xs) : callM n F dd xs s = match datL xs with
  | some ds => if (ds ++ dd).length = n then toRes (F (ds ++ dd)) s else .bad
  | none => .bad := by
  unfold callM
  cases datL xs with
  | none => rfl
  | some ds => dsimp only; split <;> rfl
@[simp] theorem e_callH (n F dd xs) : callH n F dd xs s = match s.hd with
  | some (.hand h) => if (xs ++ dd.map SV.dat).length = n then if xs.all noRef = true then match F (xs ++ dd.map SV.dat) h with
    | (.ret (.dat d), h') => .ok (RD d) { s with hd := some h' }
    | (.ret (.new ds), h') => .ok (.new (ds.map SV.dat)) { s with hd := some h' }
    | _ => .bad
    else .bad else .bad
  | _ => .bad := rfl
@[simp] theorem e_toResD (d : D) : toRes (.ret (.dat d)) s = .ok (RD d) s := rfl
@[simp] theorem e_toResN (ds : List D) : toRes (.ret (.new ds)) s = .ok (.new (ds.map SV.dat)) s := rfl
@[simp] theorem e_toResX (x : Exn) : toRes (.exc x) s = .exc x s := rfl
@[simp] theorem e_toResB : toRes .bad s = .bad := rfl
@[simp] theorem e_datL0 : datL [] = some [] := rfl
@[simp] theorem e_datL1 (d : D) (r : List SV) : datL (.dat d :: r) = match datL r with
  | some ds => some (d :: ds)
  | none => none := rfl
@[simp] theorem e_datLm (ds : List D) : datL (ds.map SV.dat) = some ds := datL_map ds
@[simp] theorem e_frzD (d : D) : frz (.sv (.dat d)) s = .ok (.sv (.dat d)) s := rfl
@[simp] theorem e_frzN (xs : List SV) : frz (.new xs) s = match datL xs with
  | some ds => .ok (.sv (.dat (.lst ds))) s
  | none => .bad := rfl
@[simp] theorem e_nxU (m : M Unit) : nxU m s = match m s with
  | .ok _ s' => .ok .nx s'
  | _ => .bad := rfl
@[simp] theorem e_asB (b : Bool) : asB (RB b) s = .ok b s := rfl
@[simp] theorem e_asI (i : Int) : asI (RI i) s = .ok (some i) s := rfl
@[simp] theorem e_int2 (g i j) : int2 g (RI i) (RI j) s = .ok (g i j) s := rfl
@[simp] theorem e_int2g (C g i j) : int2g C g (RI i) (RI j) s = if C i j = true then .ok (g i j) s else .bad := rfl
@[simp] theorem e_subM (i j : Int) : subM (RI i) (RI j) s = .ok (RI (i - j)) s := rfl
@[simp] theorem e_ltM (i j : Int) : ltM (RI i) (RI j) s = .ok (RB (decide (i < j))) s := rfl
@[simp] theorem e_leM (i j : Int) : leM (RI i) (RI j) s = .ok (RB (decide (i ≤ j))) s := rfl
@[simp] theorem e_gtM (i j : Int) : gtM (RI i) (RI j) s = .ok (RB (decide (j < i))) s := rfl
@[simp] theorem e_geM (i j : Int) : geM (RI i) (RI j) s = .ok (RB (decide (j ≤ i))) s := rfl
@[simp] theorem e_mulI (i j : Int) : mulI (RI i) (RI j) s = if mulC i j = true then .ok (RI (i * j)) s else .bad := rfl
@[simp] theorem e_divM (i j : Int) : divM (RI i) (RI j) s = if divC i j = true then .ok (RI (i.fdiv j)) s else .bad := rfl
@[simp] theorem e_modM (i j : Int) : modM (RI i) (RI j) s = if modC i j = true then .ok (RI (i.fmod j)) s else .bad := rfl
@[simp] theorem e_powM (i j : Int) : powM (RI i) (RI j) s = if powC i j = true then .ok (RI (i ^ j.toNat)) s else .bad := rfl
@[simp] theorem e_negM (i : Int) : negM (RI i) s = .ok (RI (-i)) s := rfl
@[simp] theorem e_addI (i j : Int) : addM (RI i) (RI j) s = .ok (RI (i + j)) s := rfl
@[simp] theorem e_addT (x y : List D) : addM (RT x) (RT y) s = if x.length + y.length ≤ 100000 then .ok (RT (x ++ y)) s else .bad := rfl
@[simp] theorem e_absM (i : Int) : absM [RI i] s = .ok (RI (if i < 0 then -i else i)) s := rfl
@[simp] theorem e_intM (i : Int) : intM [RI i] s = .ok (RI i) s := rfl
@[simp] theorem e_gcdM (i j : Int) : gcdM [RI i, RI j] s = .ok (RI ((Nat.gcd i.natAbs j.natAbs : Nat) : Int)) s := rfl
@[simp] theorem e_lenT (ds : List D) : lenM [RT ds] s = .ok (RI ds.length) s := rfl
@[simp] theorem e_lenL (ds : List D) : lenM [RD (.lst ds)] s = .ok (RI ds.length) s := by simp [lenM, seqL]
@[simp] theorem e_lenN (xs : List SV) : lenM [.new xs] s = .ok (RI xs.length) s := rfl
@[simp] theorem e_ixT (ds : List D) (i : Int) : ixM (RT ds) (RI i) s = match atI ds i with
  | some d => .ok (RD d) s
  | none => .bad := rfl
@[simp] theorem e_ixL (ds : List D) (i : Int) : ixM (RD (.lst ds)) (RI i) s = match atI ds i with
  | some d => .ok (RD d) s
  | none => .bad := by
  show (match atI (ds.map SV.dat) i with | some y => Out.ok (RV.sv y) s | none => .bad) = _
  unfold atI
  cases h : ixN ds.length i with
  | none => simp [h]
  | some j => simp only [List.length_map, h, Option.bind_some, List.getElem?_map]; cases ds[j]? <;> rfl
@[simp] theorem e_ixN (xs : List SV) (i : Int) : ixM (.new xs) (RI i) s = match atI xs i with
  | some d => .ok (.sv d) s
  | none => .bad := rfl
@[simp] theorem e_trI (i : Int) : trB s (RI i) = some (i != 0) := rfl
@[simp] theorem e_trB (b : Bool) : trB s (RB b) = some b := rfl
@[simp] theorem e_trN : trB s RN = some false := rfl
@[simp] theorem e_trT (ds : List D) : trB s (RT ds) = some (!ds.isEmpty) := rfl
@[simp] theorem e_trW (xs : List SV) : trB s (.new xs) = some (!xs.isEmpty) := rfl
@[simp] theorem e_trL (ds : List D) : trB s (RD (.lst ds)) = some (!ds.isEmpty) := by
  show (match some (ds.map SV.dat) with | some xs => some (!xs.isEmpty) | none => none) = _
  simp
@[simp] theorem e_isi (t : Ty) (r : RV) : isiM t r s = match tyR s r with
  | some u => .ok (RB (subTy u t)) s
  | none => .bad := rfl
@[simp] theorem e_tyN : tyR s RN = some .none := rfl
@[simp] theorem e_tyB (b) : tyR s (RB b) = some .bool := rfl
@[simp] theorem e_tyI (b) : tyR s (RI b) = some .int := rfl
@[simp] theorem e_tyS (b) : tyR s (RS b) = some .str := rfl
@[simp] theorem e_tyT (b) : tyR s (RT b) = some .tuple := rfl
@[simp] theorem e_tyL (b) : tyR s (RD (.lst b)) = some .list := rfl
@[simp] theorem e_tyW (b) : tyR s (.new b) = some .list := rfl
@[simp] theorem e_notNM (d : D) : notNM (RD d) RN s = .ok (RB (!isNoD d)) s := by cases d <;> rfl
@[simp] theorem e_isNM (d : D) : isNM (RD d) RN s = .ok (RB (isNoD d)) s := by cases d <;> rfl
@[simp] theorem e_deepD (d : D) : deep s (RD d) = some d := rfl
@[simp] theorem e_eqM (x y : RV) : eqM x y s = match deep s x, deep s y with
  | some d, some e => if okD d = true then if okD e = true then .ok (RB (eqD d e)) s else .bad else .bad
  | _, _ => .bad := rfl
@[simp] theorem e_neM (x y : RV) : neM x y s = match deep s x, deep s y with
  | some d, some e => if okD d = true then if okD e = true then .ok (RB (!eqD d e)) s else .bad else .bad
  | _, _ => .bad := rfl
@[simp] theorem e_inC (n : Bool) (x y : RV) : inC n x y s = match deep s x, deep s y with
  | some d, some (.lst es) => if okD d = true then if okD (.lst es) = true then .ok (RB (if n then !(es.any fun z => eqD z d) else es.any fun z => eqD z d)) s else .bad else .bad
  | _, _ => .bad := rfl
@[simp] theorem e_raiseF (c fs mA) : raiseF c fs mA s = bnd mA (fun xs s => match datL xs with
  | some ds => if ds.length = fs.length then .exc ⟨c, (fs.zip ds).reverse⟩ s else .bad
  | none => .bad) s := rfl
@[simp] theorem e_tupG (g n) (ds : List D) : tupG g n (.dat (.tup ds)) s = if ds.length = n then g (ds.map SV.dat) s else .bad := by
  show (if ds.length = n then g (ds.map SV.dat) else stuck) s = _
  split <;> rfl
@[simp] theorem e_consG (f g) (x : SV) (xs : List SV) : consG f g (x :: xs) s = bnd (f x) (fun _ => g xs) s := rfl
@[simp] theorem e_seqT (ds : List D) : seqSrc (RT ds) s = .ok ⟨ds.map SV.dat, none⟩ s := rfl
@[simp] theorem e_seqL (ds : List D) : seqSrc (RD (.lst ds)) s = .ok ⟨ds.map SV.dat, none⟩ s := rfl
@[simp] theorem e_seqN (xs : List SV) : seqSrc (.new xs) s = .ok ⟨xs, none⟩ s := rfl
@[simp] theorem e_forF (mi f b) : forF mi f b s = match mi s with
  | .ok src s' => forL src.Ok f b src.items s'
  | .exc x s' => .exc x s'
  | .bad => .bad := by
  unfold forF bnd
  cases mi s <;> rfl
@[simp] theorem e_runP (n m ds) : runP n m ds = resP (m (startP n ds)) := rfl
@[simp] theorem e_startP (n ds) : startP n ds = ⟨ds.map (fun d => some (.dat d)) ++ List.replicate (n - ds.length) none, [], none⟩ := rfl
@[simp] theorem e_startH (n xs h) : startH n xs h = ⟨xs.map some ++ List.replicate (n - xs.length) none, [], some h⟩ := rfl
@[simp] theorem e_runH (n m xs h) : runH n m xs h = match m (startH n xs h) with
  | .ok f s => match s.hd with
    | some (.hand h') => (resP (.ok f s), h')
    | _ => (.bad, h)
  | _ => (.bad, h) := rfl
@[simp] theorem e_resP1 : resP (.ok .nx s) = .ret (.dat .non) := rfl
@[simp] theorem e_resP2 (d : D) : resP (.ok (.rt (RD d)) s) = .ret (.dat d) := rfl
@[simp] theorem e_resP3 (xs : List SV) : resP (.ok (.rt (.new xs)) s) = match datL xs with
  | some ds => .ret (.new ds)
  | none => .bad := by
  show (match (match datL xs with | some ds => some (Rs.new ds) | none => none) with | some x => Res.ret x | none => .bad) = _
  cases datL xs <;> rfl
@[simp] theorem e_resP4 (x : Exn) : resP (.exc x s) = .exc x := rfl
end
/-! ### walks over data -/
theorem forL_nil {ok : S → Prop} {f b} {s : S} (h : ok s) : forL ok f b [] s = .ok .nx s := if_pos h
theorem src_ok {l : List SV} {s : S} : (Src.mk l none).Ok s := trivial
@[simp] theorem forL0 {l : List SV} {f b} (s : S) : forL (Src.mk l none).Ok f b [] s = .ok .nx s := if_pos trivial
@[simp] theorem forL1 {l : List SV} {f b} (x : SV) (xs : List SV) (s : S) : forL (Src.mk l none).Ok f b (x :: xs) s = match f x s with
    | .ok _ s1 => match b s1 with
      | .ok .nx s2 => forL (Src.mk l none).Ok f b xs s2
      | .ok .ct s2 => forL (Src.mk l none).Ok f b xs s2
      | .ok .bk s2 => .ok .nx s2
      | .ok (.rt r) s2 => .ok (.rt r) s2
      | .exc x s2 => .exc x s2
      | .bad => .bad
    | _ => .bad := if_pos trivial
end Fd
namespace Fd
open PySem PySem.Spec PyProof.Rows L2
/-! ### == of data -/
def eqDs : List D → List D → Bool
  | [], [] => true
  | x :: xs, y :: ys => eqD x y && eqDs xs ys
  | _, _ => false
theorem pys_eqv : ∀ x y : List D, PyData.eqvAll (D.pys x) (D.pys y) = eqDs x y
  | [], [] => rfl
  | [], _ :: _ => rfl
  | _ :: _, [] => rfl
  | x :: xs, y :: ys => by
    show (PyData.eqv x.py y.py && PyData.eqvAll (D.pys xs) (D.pys ys)) = (eqD x y && eqDs xs ys)
    rw [pys_eqv xs ys]
    rfl
@[simp] theorem eqD_int (a b : Int) : eqD (.int a) (.int b) = decide (a = b) := by
  show (a == b) = _
  by_cases h : a = b <;> simp [h]
@[simp] theorem eqD_str (a b : Str) : eqD (.str a) (.str b) = (a == b) := rfl
@[simp] theorem eqD_tup (a b : List D) : eqD (.tup a) (.tup b) = eqDs a b := pys_eqv a b
@[simp] theorem eqD_lst (a b : List D) : eqD (.lst a) (.lst b) = eqDs a b := pys_eqv a b
@[simp] theorem eqD_bl (a b : Bool) : eqD (.bl a) (.bl b) = (a == b) := rfl
@[simp] theorem eqD_nn : eqD .non .non = true := rfl
@[simp] theorem eqD_ns (x : Str) : eqD .non (.str x) = false := rfl
@[simp] theorem eqD_sn (x : Str) : eqD (.str x) .non = false := rfl
@[simp] theorem eqD_ni (x : Int) : eqD .non (.int x) = false := rfl
@[simp] theorem eqD_in (x : Int) : eqD (.int x) .non = false := rfl
@[simp] theorem eqD_nt (x : List D) : eqD .non (.tup x) = false := rfl
@[simp] theorem eqD_tn (x : List D) : eqD (.tup x) .non = false := rfl
@[simp] theorem eqD_ts (x : List D) (y : Str) : eqD (.tup x) (.str y) = false := rfl
@[simp] theorem eqD_st (x : List D) (y : Str) : eqD (.str y) (.tup x) = false := rfl
@[simp] theorem eqD_it (x : List D) (y : Int) : eqD (.int y) (.tup x) = false := rfl
@[simp] theorem eqD_ti (x : List D) (y : Int) : eqD (.tup x) (.int y) = false := rfl
@[simp] theorem eqD_is (x : Str) (y : Int) : eqD (.int y) (.str x) = false := rfl
@[simp] theorem eqD_si (x : Str) (y : Int) : eqD (.str x) (.int y) = false := rfl
@[simp] theorem eqDs_nil : eqDs [] [] = true := rfl
@[simp] theorem eqDs_cons (x y : D) (xs ys : List D) : eqDs (x :: xs) (y :: ys) = (eqD x y && eqDs xs ys) := rfl
@[simp] theorem eqDs_n1 (y : D) (ys : List D) : eqDs [] (y :: ys) = false := rfl
@[simp] theorem eqDs_n2 (y : D) (ys : List D) : eqDs (y :: ys) [] = false := rfl
/-! ### data that == may see: no object within, not too deep -/
mutual
def D.dep : D → Nat
  | .tup ds => D.deps ds + 1
  | .lst ds => D.deps ds + 1
  | _ => 0
def D.deps : List D → Nat
  | [] => 0
  | d :: ds => max d.dep (D.deps ds)
end
mutual
def D.fine : D → Bool
  | .tup ds => D.fines ds
  | .lst ds => D.fines ds
  | .str x => PyData.canLay0 (.str x)
  | .obj _ _ => false
  | .dct _ => false
  | .dcp _ => false
  | _ => true
def D.fines : List D → Bool
  | [] => true
  | d :: ds => d.fine && D.fines ds
end
end Fd
namespace Fd
open PySem PySem.Spec PyProof.Rows L2
mutual
theorem py_lay : ∀ d : D, d.py.canLay0 = d.fine
  | .non => by simp [D.py, PyData.canLay0, D.fine]
  | .bl _ => by simp [D.py, PyData.canLay0, D.fine]
  | .int _ => by simp [D.py, PyData.canLay0, D.fine]
  | .str _ => by simp [D.py, D.fine]
  | .tup ds => by simp [D.py, PyData.canLay0, D.fine, pys_lay ds]
  | .lst ds => by simp [D.py, PyData.canLay0, D.fine, pys_lay ds]
  | .obj _ _ => by simp [D.py, PyData.canLay0, D.fine]
  | .dct _ => by simp [D.py, PyData.canLay0, D.fine]
  | .dcp _ => by simp [D.py, PyData.canLay0, D.fine]
theorem pys_lay : ∀ ds : List D, PyData.canLayAll0 (D.pys ds) = D.fines ds
  | [] => by simp [D.pys, PyData.canLayAll0, D.fines]
  | d :: ds => by simp [D.pys, PyData.canLayAll0, D.fines, py_lay d, pys_lay ds]
end
mutual
theorem py_dep : ∀ d : D, (∀ c fs, d ≠ .obj c fs) → d.fine = true → d.py.depth = d.dep
  | .non, _, _ => by simp [D.py, PyData.depth, D.dep]
  | .bl _, _, _ => by simp [D.py, PyData.depth, D.dep]
  | .int _, _, _ => by simp [D.py, PyData.depth, D.dep]
  | .str _, _, _ => by simp [D.py, PyData.depth, D.dep]
  | .tup ds, _, h => by simp [D.py, PyData.depth, D.dep, pys_dep ds (by simpa [D.fine] using h)]
  | .lst ds, _, h => by simp [D.py, PyData.depth, D.dep, pys_dep ds (by simpa [D.fine] using h)]
  | .obj _ _, _, h => by simp [D.fine] at h
  | .dct _, _, h => by simp [D.fine] at h
  | .dcp _, _, h => by simp [D.fine] at h
theorem pys_dep : ∀ ds : List D, D.fines ds = true → PyData.depthAll (D.pys ds) = D.deps ds
  | [], _ => by simp [D.pys, PyData.depthAll, D.deps]
  | d :: ds, h => by
    have h' : d.fine = true ∧ D.fines ds = true := by simpa [D.fines] using h
    have : ∀ c fs, d ≠ .obj c fs := fun c fs e => by rw [e] at h'; simp [D.fine] at h'
    simp [D.pys, PyData.depthAll, D.deps, py_dep d this h'.1, pys_dep ds h'.2]
end
theorem okD_of {d : D} (h : d.fine = true) (hd : d.dep ≤ 64) : okD d = true := by
  unfold okD SeqAt.shaped
  have : ∀ c fs, d ≠ .obj c fs := fun c fs e => by rw [e] at h; simp [D.fine] at h
  rw [py_lay, h, py_dep d this h]
  simpa using hd
theorem fines_all {ds : List D} (h : ∀ d ∈ ds, d.fine = true) : D.fines ds = true := by
  induction ds with
  | nil => rfl
  | cons d ds ih => simp [D.fines, h d (by simp), ih fun x hx => h x (by simp [hx])]
theorem deps_all {ds : List D} {n : Nat} (h : ∀ d ∈ ds, d.dep ≤ n) : D.deps ds ≤ n := by
  induction ds with
  | nil => simp [D.deps]
  | cons d ds ih => 
    have := h d (by simp)
    have := ih fun x hx => h x (by simp [hx])
    simp [D.deps]; omega
@[simp] theorem okD_int (a : Int) : okD (.int a) = true := rfl
@[simp] theorem okD_bl (a : Bool) : okD (.bl a) = true := rfl
@[simp] theorem okD_non : okD .non = true := rfl
@[simp] theorem okD_t2 (a b : Int) : okD (.tup [.int a, .int b]) = true := rfl
@[simp] theorem okD_t3 (a b c : Int) : okD (.tup [.int a, .int b, .int c]) = true := rfl
/-! ### sizes -/
def Bd (n : Nat) (x : Int) : Prop := x.natAbs < 2 ^ n
theorem Bd.mono {n m : Nat} {x : Int} (h : Bd n x) (l : n ≤ m) : Bd m x := Nat.lt_of_lt_of_le h (Nat.pow_le_pow_right (by decide) l)
theorem Bd.mul {n m : Nat} {x y : Int} (h : Bd n x) (k : Bd m y) : Bd (n + m) (x * y) := by
  unfold Bd at *
  rw [Int.natAbs_mul, Nat.pow_add]
  exact Nat.mul_lt_mul'' h k
theorem Bd.add {n m : Nat} {x y : Int} (h : Bd n x) (k : Bd m y) : Bd (max n m + 1) (x + y) := by
  have h' := h.mono (Nat.le_max_left n m)
  have k' := k.mono (Nat.le_max_right n m)
  unfold Bd at *
  have := Int.natAbs_add_le x y
  rw [Nat.pow_succ]; omega
theorem Bd.neg {n : Nat} {x : Int} (h : Bd n x) : Bd n (-x) := by unfold Bd at *; rwa [Int.natAbs_neg]
theorem Bd.sub {n m : Nat} {x y : Int} (h : Bd n x) (k : Bd m y) : Bd (max n m + 1) (x - y) := by
  rw [Int.sub_eq_add_neg]; exact h.add k.neg
theorem Bd.log {n : Nat} {x : Int} (h : Bd n x) : x.natAbs.log2 ≤ n := by
  unfold Bd at h
  by_cases z : x.natAbs = 0
  · rw [z]; simp
  · exact Nat.le_of_lt ((Nat.log2_lt z).mpr h)
theorem Bd.mulC {n m : Nat} {x y : Int} (h : Bd n x) (k : Bd m y) (l : n + m < 100000000 := by omega) : Fd.mulC x y = true := decide_eq_true (by have := h.log; have := k.log; omega)
theorem Bd.divC {n : Nat} {x y : Int} (k : Bd n y) (z : y ≠ 0) (l : n < 9000 := by omega) : Fd.divC x y = true := decide_eq_true ⟨z, by have := k.log; omega⟩
theorem modC_of {x y : Int} (z : y ≠ 0) : Fd.modC x y = true := decide_eq_true z
theorem bd_of {n : Nat} {x : Int} (h1 : -(2 ^ n) < x) (h2 : x < 2 ^ n) : Bd n x := by
  unfold Bd
  have : ((2 ^ n : Nat) : Int) = 2 ^ n := by simp
  omega
theorem bd_le {n : Nat} {x y : Int} (h : Bd n y) (l : x.natAbs ≤ y.natAbs) : Bd n x := Nat.lt_of_le_of_lt l h
end Fd
namespace Fd
open PySem PySem.Spec PyProof.Rows L2
/-! ### takes -/
theorem take_lt {n : Int} (h : Hand) (hn : 0 < n) : 0 ≤ (takeF n h).1 ∧ (takeF n h).1 < n := by
  unfold takeF
  split
  · exact ⟨Int.emod_nonneg _ (by omega), Int.emod_lt_of_pos _ hn⟩
  · exact ⟨Int.emod_nonneg _ (by omega), Int.emod_lt_of_pos _ hn⟩
theorem v_take {n : Int} (h : Hand) (hn : 0 < n ∧ n.natAbs.log2 < 9000) : R_law_take [.hand, .dat (.int n)] h = (.ret (.dat (.int (takeF n h).1)), (takeF n h).2) := by
  show (if 0 < n ∧ n.natAbs.log2 < 9000 then _ else _) = _
  rw [if_pos hn]
@[simp] theorem nr_hand : noRef .hand = true := rfl
@[simp] theorem nr_dat (d : D) : noRef (.dat d) = true := rfl
/-- a take gives some number below n and another hand -/
theorem take_ex {n : Int} (h : Hand) (hn : 0 < n ∧ n.natAbs.log2 < 9000) : ∃ t h', R_law_take [.hand, .dat (.int n)] h = (.ret (.dat (.int t)), h') ∧ 0 ≤ t ∧ t < n :=
  ⟨_, _, v_take h hn, (take_lt h hn.1).1, (take_lt h hn.1).2⟩
theorem lg9 {n : Int} (h : 0 < n ∧ n < 2 ^ 64) : 0 < n ∧ n.natAbs.log2 < 9000 := ⟨h.1, by
  have : Bd 64 n := bd_of (by omega) h.2
  have := this.log
  omega⟩
end Fd
namespace Fd
open PySem PySem.Spec PyProof.Rows L2
section
variable (s : S)
@[simp] theorem e_tryF (mb : M Fl) (es : Nat → Option Bool) (i : Nat) (hf : Exn → M Fl) : tryF mb es i hf s = match mb s with
  | .exc x s1 => match es x.c with
    | some true => if i < s1.env.length then match hf x (clrS i s1) with
      | .ok f s2 => .ok f (clrS i s2)
      | _ => .bad
      else .bad
    | some false => .exc x s1
    | none => .bad
  | o => o := rfl
@[simp] theorem e_fieldH (f : Str) (x : Exn) : fieldH f x s = match x.fs.lookup f with
  | some d => .ok (.rt (RD d)) s
  | none => .bad := by
  unfold fieldH
  cases x.fs.lookup f <;> rfl
@[simp] theorem e_clrS (i : Nat) : clrS i s = { s with env := s.env.set i none } := rfl
@[simp] theorem e_rng1 (j : Int) : rng1 [RI j] s = ifC (-(2 ^ 62) ≤ j ∧ j < 2 ^ 62) (.ok ⟨rangeL 0 j.toNat, none⟩ s) .bad := rfl
@[simp] theorem e_ifCT {α : Type} (a b : α) : ifC True a b = a := ifC_pos trivial
@[simp] theorem e_ifCF {α : Type} (a b : α) : ifC False a b = b := ifC_neg id
@[simp] theorem e_rng2 (i j : Int) : rng2 [RI i, RI j] s = ifC (-(2 ^ 62) ≤ i ∧ i < 2 ^ 62 ∧ -(2 ^ 62) ≤ j ∧ j < 2 ^ 62) (.ok ⟨rangeL i (j - i).toNat, none⟩ s) .bad := rfl
@[simp] theorem e_callK (n np nk F g mA mK) : callK n np nk F g mA mK s = bnd mA (fun xs => bnd mK fun zs s => match datL xs, datL zs with
  | some ds, some es => if ds.length = np ∧ es.length = nk ∧ (g ds es).length = n then toRes (noX (F (g ds es))) s else .bad
  | _, _ => .bad) s := by
  unfold callK bnd
  cases mA s with
  | ok xs s1 =>
    dsimp only
    cases mK s1 with
    | ok zs s2 => 
      dsimp only
      cases datL xs with
      | none => rfl
      | some ds =>
        cases datL zs with
        | none => rfl
        | some es => dsimp only; split <;> rfl
    | exc => rfl
    | bad => rfl
  | exc => rfl
  | bad => rfl
@[simp] theorem e_tupleL (ds : List D) : tupleM [RD (.lst ds)] s = .ok (RT ds) s := by
  simp [tupleM, seqL]
@[simp] theorem e_tupleT (ds : List D) : tupleM [RT ds] s = .ok (RT ds) s := rfl
@[simp] theorem e_tupleN (xs : List SV) : tupleM [.new xs] s = match datL xs with
  | some ds => .ok (RT ds) s
  | none => .bad := rfl
@[simp] theorem e_listT (ds : List D) : listM [RT ds] s = .ok (.new (ds.map SV.dat)) s := rfl
@[simp] theorem e_listL (ds : List D) : listM [RD (.lst ds)] s = .ok (.new (ds.map SV.dat)) s := rfl
@[simp] theorem e_notBM1 (b : Bool) : notBM (RB b) (RB true) s = .ok (RB (!b)) s := by cases b <;> rfl
@[simp] theorem e_wipeS (vs : List Nat) : wipeS vs s = { s with env := wipeE s.env vs } := rfl
@[simp] theorem e_wipeE0 (e : List (Option SV)) : wipeE e [] = e := rfl
@[simp] theorem e_wipeE1 (e : List (Option SV)) (v : Nat) (vs : List Nat) : wipeE e (v :: vs) = (wipeE e vs).set v none := rfl
@[simp] theorem e_lcM (mi vs f tt me) : lcM mi vs f tt me s = match mi s with
  | .ok src s' => lcL src.Ok vs f tt me src.items [] (wipeS vs s')
  | .exc x s' => .exc x s'
  | .bad => .bad := by
  unfold lcM bnd
  cases mi s <;> rfl
@[simp] theorem e_setLcZ (i mi vs f tt me) : setLcZ i mi vs f tt me s = bnd (lcM mi vs f tt me) (fun r s => match r with
  | .new xs => match datL xs with
    | some ds => .ok .nx { s with env := s.env.set i (some (.dat (.lst ds))) }
    | none => .bad
  | _ => .bad) s := rfl
end
theorem lcL_none {l : List SV} {vs : List Nat} {f : SV → M Unit} {tt : M Bool} {me : M RV} {st : S} : ∀ (xs acc : List SV), (∀ x ∈ xs, ∃ s1 s2, f x st = .ok () s1 ∧ tt s1 = .ok false s2 ∧ wipeS vs s2 = st) → lcL (Src.mk l none).Ok vs f tt me xs acc st = .ok (.new acc) st := by
  intro xs
  induction xs with
  | nil => intro acc _; exact if_pos trivial
  | cons x xs ih =>
    intro acc h
    obtain ⟨s1, s2, h1, h2, h3⟩ := h x (by simp)
    unfold lcL
    rw [if_pos src_ok, h1]
    simp only [h2, h3]
    exact ih acc fun y hy => h y (by simp [hy])
theorem lcL_all {l : List SV} {vs : List Nat} {f : SV → M Unit} {tt : M Bool} {me : M RV} (I : List SV → S → Prop) : ∀ (xs acc : List SV) (st : S), I acc st → acc.length + xs.length ≤ 100000 →
    (∀ x ∈ xs, ∀ acc st, I acc st → ∃ s1 s2 s3 y, f x st = .ok () s1 ∧ tt s1 = .ok true s2 ∧ me s2 = .ok (.sv y) s3 ∧ I (acc ++ [y]) (wipeS vs s3)) →
    ∃ acc' st', lcL (Src.mk l none).Ok vs f tt me xs acc st = .ok (.new acc') st' ∧ I acc' st' ∧ acc'.length = acc.length + xs.length := by
  intro xs
  induction xs with
  | nil => intro acc st hi _ _; exact ⟨acc, st, if_pos trivial, hi, by simp⟩
  | cons x xs ih =>
    intro acc st hi hl h
    obtain ⟨s1, s2, s3, y, h1, h2, h3, h4⟩ := h x (by simp) acc st hi
    obtain ⟨acc', st', e1, e2, e3⟩ := ih (acc ++ [y]) (wipeS vs s3) h4 (by simp at hl ⊢; omega) fun z hz => h z (by simp [hz])
    refine ⟨acc', st', ?_, e2, by rw [e3]; simp; omega⟩
    conv => lhs; unfold lcL
    rw [if_pos src_ok, h1]
    simp only [h2, h3]
    rw [if_pos (by simp at hl; omega)]
    exact e1
theorem rangeL_cons (lo : Int) (n : Nat) : rangeL lo (n + 1) = .dat (.int lo) :: rangeL (lo + 1) n := by
  unfold rangeL
  rw [List.range_succ_eq_map, List.map_cons, List.map_map]
  simp only [Function.comp_def]
  congr 1
  · simp
  · refine List.map_congr_left fun i _ => ?_
    congr 2
    simp; omega
@[simp] theorem rangeL_len (lo : Int) (n : Nat) : (rangeL lo n).length = n := by simp [rangeL]
end Fd
namespace Fd
open PySem PySem.Spec PyProof.Rows L2
section
variable (s : S)
@[simp] theorem e_addLN (x : List D) (y : List SV) : addM (RD (.lst x)) (.new y) s = if x.length + y.length ≤ 100000 then .ok (.new (x.map SV.dat ++ y)) s else .bad := by simp [addM, seqL]
@[simp] theorem e_addNL (x : List SV) (y : List D) : addM (.new x) (RD (.lst y)) s = if x.length + y.length ≤ 100000 then .ok (.new (x ++ y.map SV.dat)) s else .bad := by simp [addM, seqL]
@[simp] theorem e_addLL (x y : List D) : addM (RD (.lst x)) (RD (.lst y)) s = if x.length + y.length ≤ 100000 then .ok (.new (x.map SV.dat ++ y.map SV.dat)) s else .bad := by simp [addM, seqL]
@[simp] theorem e_addNN (x y : List SV) : addM (.new x) (.new y) s = if x.length + y.length ≤ 100000 then .ok (.new (x ++ y)) s else .bad := by simp [addM, seqL]
end
end Fd
set_option Elab.async false
set_option linter.all false
set_option maxRecDepth 100000
set_option maxHeartbeats 4000000
namespace Fd
open PySem PySem.Spec PyProof.Rows L2
/-! ## ratios -/
def gI (a b : Int) : Int := ((Nat.gcd a.natAbs b.natAbs : Nat) : Int)
def nT (a b : Int) : Int := (if b < 0 then -a else a) / gI a b
def nB (a b : Int) : Int := (if b < 0 then -b else b) / gI a b
theorem gI_dvd_left (a b : Int) : gI a b ∣ a := Int.gcd_dvd_left a b
theorem gI_dvd_right (a b : Int) : gI a b ∣ b := Int.gcd_dvd_right a b
theorem gI_pos {a b : Int} (h : b ≠ 0) : 0 < gI a b := by
  unfold gI
  have : 0 < Nat.gcd a.natAbs b.natAbs := Nat.gcd_pos_of_pos_right _ (by omega)
  omega
theorem gI_nonneg (a b : Int) : 0 ≤ gI a b := by unfold gI; omega
theorem low_T (a b : Int) : (if b < 0 then -a else a).fdiv (gI a b) = nT a b := Int.fdiv_eq_ediv_of_nonneg _ (gI_nonneg _ _)
theorem low_B (a b : Int) : (if b < 0 then -b else b).fdiv (gI a b) = nB a b := Int.fdiv_eq_ediv_of_nonneg _ (gI_nonneg _ _)
theorem law_T (a b : Int) : a.fdiv (if b < 0 then -(gI a b) else gI a b) = nT a b := by
  rw [← low_T]
  split
  · rw [← Int.neg_fdiv_neg, Int.neg_neg]
  · rfl
theorem law_B (a b : Int) : b.fdiv (if b < 0 then -(gI a b) else gI a b) = nB a b := by
  rw [← low_B]
  split
  · rw [← Int.neg_fdiv_neg, Int.neg_neg]
  · rfl
theorem nB_pos {a b : Int} (h : b ≠ 0) : 0 < nB a b := by
  unfold nB
  refine Int.ediv_pos_of_pos_of_dvd (by split <;> omega) (gI_nonneg _ _) ?_
  split
  · exact Int.dvd_neg.mpr (gI_dvd_right a b)
  · exact gI_dvd_right a b
theorem n_gcd {a b : Int} (h : b ≠ 0) : gI (nT a b) (nB a b) = 1 := by
  have hp := gI_pos (a := a) h
  have key : ∀ x y : Int, gI x y = gI a b → gI (x / gI a b) (y / gI a b) = 1 := fun x y e => by
    have h1 : 0 < Int.gcd x y := by
      have : (0 : Int) < gI x y := by rw [e]; exact hp
      unfold gI at this
      show 0 < Nat.gcd x.natAbs y.natAbs
      omega
    have := Int.gcd_ediv_gcd_ediv_gcd h1
    rw [← e]
    unfold gI
    show (((x / (Int.gcd x y : Int)).gcd (y / (Int.gcd x y : Int)) : Nat) : Int) = 1
    rw [this]; rfl
  unfold nT nB
  refine key _ _ ?_
  unfold gI
  split <;> simp [Int.natAbs_neg]
theorem n_scale {a b f : Int} (h : 0 < f) : nT (a * f) (b * f) = nT a b ∧ nB (a * f) (b * f) = nB a b := by
  have hs : (b * f < 0) = (b < 0) := by
    refine propext ⟨fun z => ?_, fun z => Int.mul_neg_of_neg_of_pos z h⟩
    by_cases c : b < 0
    · exact c
    · exact absurd (Int.mul_nonneg (Int.not_lt.mp c) (Int.le_of_lt h)) (by omega)
  have hg : gI (a * f) (b * f) = gI a b * f := by
    unfold gI
    have := Int.gcd_mul_right a f b
    show ((Int.gcd (a * f) (b * f) : Nat) : Int) = _
    rw [Int.gcd_mul_right]
    show ((Nat.gcd a.natAbs b.natAbs * f.natAbs : Nat) : Int) = _
    rw [Int.natCast_mul, Int.natAbs_of_nonneg (Int.le_of_lt h)]
  unfold nT nB
  simp only [hs]
  rw [hg]
  constructor
  · split
    · rw [← Int.neg_mul, Int.mul_ediv_mul_of_pos_left _ _ h]
    · rw [Int.mul_ediv_mul_of_pos_left _ _ h]
  · split
    · rw [← Int.neg_mul, Int.mul_ediv_mul_of_pos_left _ _ h]
    · rw [Int.mul_ediv_mul_of_pos_left _ _ h]
theorem nT_le (a b : Int) : (nT a b).natAbs ≤ a.natAbs := by
  unfold nT
  refine Nat.le_trans (Int.natAbs_ediv_le_natAbs _ _) ?_
  split <;> simp
theorem nB_le (a b : Int) : (nB a b).natAbs ≤ b.natAbs := by
  unfold nB
  refine Nat.le_trans (Int.natAbs_ediv_le_natAbs _ _) ?_
  split <;> simp
theorem gI_le {a b : Int} (h : b ≠ 0) : (gI a b).natAbs ≤ b.natAbs := by
  unfold gI
  have := Nat.gcd_le_right a.natAbs (show 0 < b.natAbs by omega)
  omega
theorem n_one (a : Int) : nT a 1 = a ∧ nB a 1 = 1 := by
  unfold nT nB gI
  simp
/-! ### the loop that finds the gcd -/
theorem gcd_step (x y : Nat) : Nat.gcd y (x % y) = Nat.gcd x y := by
  rw [Nat.gcd_comm y, ← Nat.gcd_rec, Nat.gcd_comm]
theorem mod_half {y r : Nat} (h : r < y) (h0 : 0 < r) : 2 * (y % r) < y := by
  have h1 := Nat.mod_lt y h0
  have h2 := Nat.div_add_mod y r
  have h3 : 1 ≤ y / r := (Nat.le_div_iff_mul_le h0).mpr (by omega)
  have h4 : r * 1 ≤ r * (y / r) := Nat.mul_le_mul_left r h3
  omega
theorem whileL_gcd {tc : M Bool} {b : M Fl} (stt : Int → Int → S) (ht : ∀ x y, tc (stt x y) = .ok (y != 0) (stt x y)) (hb : ∀ x y, y ≠ 0 → b (stt x y) = .ok .nx (stt y (x.fmod y))) :
    ∀ (k : Nat) (x y : Nat) (n : Nat), y < 2 ^ k → 2 * k + 1 ≤ n → whileL tc b n (stt x y) = .ok .nx (stt ((Nat.gcd x y : Nat) : Int) 0) := by
  have hz : ∀ (x : Nat) n, whileL tc b (n + 1) (stt x 0) = .ok .nx (stt ((Nat.gcd x 0 : Nat) : Int) 0) := fun x n => by
    unfold whileL
    rw [ht]; simp
  have hs : ∀ (x y : Nat) n, y ≠ 0 → whileL tc b (n + 1) (stt x y) = whileL tc b n (stt y ((x % y : Nat) : Int)) := fun x y n hy => by
    have hy' : (y : Int) ≠ 0 := by omega
    conv => lhs; unfold whileL
    rw [ht]
    have e1 : ((y : Int) != 0) = true := by simpa using hy
    rw [e1]
    simp only
    rw [hb _ _ hy']
    simp only
    rw [Int.fmod_eq_emod_of_nonneg _ (by omega)]
    rfl
  intro k
  induction k with
  | zero =>
    intro x y n hy hn
    obtain rfl : y = 0 := by simpa using hy
    obtain ⟨m, rfl⟩ : ∃ m, n = m + 1 := ⟨n - 1, by omega⟩
    exact hz x m
  | succ k ih =>
    intro x y n hy hn
    obtain ⟨m, rfl⟩ : ∃ m, n = m + 2 := ⟨n - 2, by omega⟩
    by_cases h0 : y = 0
    · subst h0; exact hz x _
    · rw [hs x y _ h0]
      by_cases h1 : x % y = 0
      · rw [h1]
        have := hz y m
        have e : Nat.gcd y 0 = Nat.gcd x y := by rw [← gcd_step x y, h1]
        rw [e] at this
        exact this
      · rw [hs y (x % y) _ h1, ih _ _ _ ?_ (by omega), gcd_step, gcd_step]
        have := mod_half (Nat.mod_lt x (Nat.pos_of_ne_zero h0)) (Nat.pos_of_ne_zero h1)
        rw [Nat.pow_succ] at hy
        omega
end Fd
namespace Fd
open PySem PySem.Spec PyProof.Rows L2
theorem atI_mem {α : Type} (xs : List α) {i : Int} (h0 : 0 ≤ i) (h1 : i < xs.length) : ∃ d, d ∈ xs ∧ atI xs i = some d := by
  refine ⟨xs[i.toNat]'(by omega), List.getElem_mem _, ?_⟩
  unfold atI ixN
  simp [h0, h1]
theorem gI_two (t : Int) : gI (t * 2) 2 = 2 ∧ gI (2 * t) 2 = 2 := by
  unfold gI
  constructor
  · rw [Int.natAbs_mul, show (2 : Int).natAbs = 2 from rfl, Nat.gcd_eq_right (Nat.dvd_mul_left 2 _)]; rfl
  · rw [Int.natAbs_mul, show (2 : Int).natAbs = 2 from rfl, Nat.gcd_eq_right (Nat.dvd_mul_right 2 _)]; rfl
theorem gI_dbl (a b : Int) : gI (a * 2) (b * 2) = gI a b * 2 := by
  unfold gI
  rw [Int.natAbs_mul, Int.natAbs_mul, show (2 : Int).natAbs = 2 from rfl, Nat.gcd_mul_right, Int.natCast_mul]; rfl
def qadd (p q : Int × Int) : Int × Int := (nT (p.1 * q.2 + q.1 * p.2) (p.2 * q.2), nB (p.1 * q.2 + q.1 * p.2) (p.2 * q.2))
def qle (p q : Int × Int) : Prop := p.1 * q.2 ≤ q.1 * p.2
theorem qle_refl (p : Int × Int) : qle p p := Int.le_refl _
theorem qle_trans {p q r : Int × Int} (hp : 0 < p.2) (hq : 0 < q.2) (hr : 0 < r.2) (h1 : qle p q) (h2 : qle q r) : qle p r := by
  unfold qle at *
  have a1 := Int.mul_le_mul_of_nonneg_right h1 (Int.le_of_lt hr)
  have a2 := Int.mul_le_mul_of_nonneg_right h2 (Int.le_of_lt hp)
  refine Int.le_of_mul_le_mul_left (a := q.2) ?_ hq
  have e1 : q.2 * (p.1 * r.2) = p.1 * q.2 * r.2 := by rw [← Int.mul_assoc, Int.mul_comm q.2 p.1]
  have e2 : q.1 * p.2 * r.2 = q.1 * r.2 * p.2 := Int.mul_right_comm _ _ _
  have e3 : q.2 * (r.1 * p.2) = r.1 * q.2 * p.2 := by rw [← Int.mul_assoc, Int.mul_comm q.2 r.1]
  rw [e1, e3]
  rw [e2] at a1
  exact Int.le_trans a1 a2
theorem qle_total (p q : Int × Int) : ¬ qle p q → qle q p := fun h => Int.le_of_lt (Int.not_le.mp h)
/-- good rows of ratios -/
def Gq (n : Nat) (q : Int × Int) : Prop := Bd n q.1 ∧ Bd n q.2 ∧ 0 < q.2
theorem qadd_good {n m : Nat} {p q : Int × Int} (h : Gq n p) (k : Gq m q) : Gq (n + m + 1) (qadd p q) := by
  obtain ⟨a, b, c⟩ := h
  obtain ⟨d, e, f⟩ := k
  refine ⟨bd_le ((a.mul e).add (d.mul b)) (nT_le _ _) |>.mono (by omega), bd_le (b.mul e) (nB_le _ _) |>.mono (by omega), nB_pos (Int.mul_ne_zero (by omega) (by omega))⟩
end Fd
namespace Fd
open PySem PySem.Spec PyProof.Rows L2
theorem atI_map {α β : Type} (f : α → β) {xs : List α} {i : Int} {x : α} (h : atI xs i = some x) : atI (xs.map f) i = some (f x) := by
  unfold atI at *
  rw [List.length_map]
  cases e : ixN xs.length i with
  | none => rw [e] at h; cases h
  | some j => rw [e] at h; simp at h ⊢; exact ⟨x, h, rfl⟩
end Fd
set_option Elab.async false
set_option linter.all false
set_option maxRecDepth 100000
set_option maxHeartbeats 4000000
namespace Fd
open PySem PySem.Spec PyProof.Rows L2
section
variable {X : Cx} {ct : Nat → Addr} {W : WX} {pos : Pos} {e : Expr} {m : M RV}
/-! ## text that is never reached: its meaning is stuck -/
theorem ed_dead : ED X ct W e stuck := ⟨fun _ _ _ => False, ⟨fun _ _ _ _ _ _ h => False.elim h⟩, fun _ _ _ _ _ _ g => g⟩
theorem td_dead : TD X ct W e stuck := ⟨fun _ _ _ => False, ⟨fun _ _ _ _ _ _ h => False.elim h⟩, fun _ _ _ _ _ _ g => g⟩
theorem sd_dead {st : Stmt} : SD X ct W st stuck := ⟨fun _ _ _ => False, ⟨fun _ _ _ _ _ _ h => False.elim h⟩, fun _ _ _ _ _ _ g => g⟩
theorem sds_dead {st : List Stmt} : SDs X ct W st stuck := ⟨fun _ _ _ => False, ⟨fun _ _ _ _ _ _ h => False.elim h⟩, fun _ _ _ _ _ _ g => g⟩
/-! ## isinstance(e, (T, U)) -/
theorem tyX_step {K : PySem.W.Frag} {ct : Nat → Addr} {γ : G} {s : S} {H H0 : Hp} {σ : L2.St} (R : Rep K ct γ H σ s) {v : V} {x : RV} {u : Ty} {p : Addr} {o : HO} (e1 : tyR s x = some u) (q : RepR K ct γ s H0 H v x) (hp : H p = none) : TyX K (upd H p o) v (.type u.nm) :=
  tyR_rep (R.laid hp) e1 (RepR.mono (Step.laid hp) q)
theorem ed_isi2 {p p2 p3 tpos : Pos} {x y : Str} {k : Nat} (t t' : Ty) (ht : t ≠ .none) (ht' : t' ≠ .none) (hg : Gl X "isinstance") (hm : X.mg "isinstance" = none) (h : ED X ct W e m) (hx : PE X (.Name x p2) (tC (.ty t.nm))) (hy : PE X (.Name y p3) (tC (.ty t'.nm)))
    (he : starEach [e, .Tuple [.Name x p2, .Name y p3] k tpos] X.env = (false, eval e X.env) :: starEach [.Tuple [.Name x p2, .Name y p3] k tpos] X.env := by rfl) (hpl : (backTo pos (starEach [.Tuple [.Name x p2, .Name y p3] k tpos] X.env)).any (·.1) = false := by rfl)
    (he2 : starEach [.Tuple [.Name x p2, .Name y p3] k tpos] X.env = (false, eval (.Tuple [.Name x p2, .Name y p3] k tpos) X.env) :: starEach [] X.env := by rfl)
    (he3 : starEach [.Name x p2, .Name y p3] X.env = (false, eval (.Name x p2) X.env) :: starEach [.Name y p3] X.env := by rfl) (he4 : starEach [.Name y p3] X.env = (false, eval (.Name y p3) X.env) :: starEach [] X.env := by rfl) :
    ED X ct W (.Call (.Name "isinstance" p) [e, .Tuple [.Name x p2, .Name y p3] k tpos] [] pos) (bnd m (isiM2 t t')) := by
  obtain ⟨te, pe, r⟩ := h.ex
  refine ⟨_, pe_callB call_isiT hg hm boot_isinstance (pa_cons pe (pa_cons (pe_tup (pa_cons hx (pa_cons hy pa_nil he4) he3)) pa_nil he2) he) (he := he) (hpl := hpl), fun σ H γ s Q R h => ?_⟩
  refine r σ H γ s _ R (use_e h (fun _ _ z => z) fun x s1 v γ1 H1 t1 R1 q1 g => ?_)
  unfold isiM2 at g
  cases e1 : tyR s1 x with
  | none => simp only [e1] at g; exact False.elim g
  | some u =>
    simp only [e1] at g
    refine ⟨Nat.le_of_lt (show 2 < sizeLine from small1000 (by decide)), fun q nq => ?_⟩
    exact ⟨v, q, _, .type u.nm, [.type t.nm, .type t'.nm], subTy u t || subTy u t', rfl, upd_same, .cons (.ty _) (.cons (.ty _) .nil), tyX_step R1 e1 q1 nq, kitAny2 ht ht', g _ γ1 _ (t1.trans (Step.laid nq)) (R1.laid nq) (repB _)⟩
@[simp] theorem e_isi2 (s : S) (t t' : Ty) (r : RV) : isiM2 t t' r s = match tyR s r with
  | some u => .ok (RB (subTy u t || subTy u t')) s
  | none => .bad := rfl
/-! ## isqrt -/
def isqE : Nat := 4095
def isqN : Nat := 2 ^ (isqE + 1)
theorem isqN_of {a : Int} (h0 : 0 ≤ a) (h1 : a < (isqN : Int)) : a.toNat.log2 ≤ 4095 := PySem.W.mg_log (n := a.toNat) (k := isqE) ((Int.toNat_lt h0).mpr h1)
def rIsq : List V → Hp → VK → Prop := fun vs H Q => ∃ a : Int, vs = [.int a] ∧ 0 ≤ a ∧ a < (isqN : Int) ∧ Q (.int ((Float64.isqrt a.toNat : Nat) : Int)) H
theorem cr_isqrt : CallR X (.builtin "math.isqrt") rIsq := by
  intro pins s σ H vs us Q I r h
  obtain ⟨a, rfl, h0, h1, q⟩ := h
  cases r with
  | cons r1 r2 =>
    cases r2
    obtain ⟨t, rfl⟩ := r1
    have hl := isqN_of h0 h1
    exact PySem.call_function_meets PySem.W.MGF.kind_isqrt PySem.W.MGF.plain_isqrt PySem.W.MGF.entry_isqrt (PySem.W.MGF.args_isqrt _) (PySem.W.mg_run_isqrt a t (by omega) (by omega) (by omega)).meets ⟨.int _, H, I.tok _, ⟨_, rfl⟩, q⟩
def isqM : List RV → M RV
  | [.sv (.dat (.int i))] => fun s => if 0 ≤ i ∧ i < (isqN : Int) then .ok (RI ((Float64.isqrt i.toNat : Nat) : Int)) s else .bad
  | _ => stuck
theorem isqM_ok : CallOk X ct rIsq isqM := by
  intro W σ γ s H Ha vs rs Q R q h
  unfold isqM at h
  split at h
  · rename_i i
    cases q with
    | cons q1 q2 =>
      cases q2
      by_cases c : 0 ≤ i ∧ i < (isqN : Int)
      · rw [if_pos c] at h
        exact ⟨i, by rw [rep_int q1], c.1, c.2, h _ γ H Step.refl R (repI _)⟩
      · rw [if_neg c] at h; exact False.elim h
  · exact False.elim h
@[simp] theorem e_isqM (s : S) (i : Int) : isqM [RI i] s = if 0 ≤ i ∧ i < (isqN : Int) then .ok (RI ((Float64.isqrt i.toNat : Nat) : Int)) s else .bad := rfl
end
/-! ## constants of the module: None, tuples of tuples -/
section
variable {K : PySem.W.Frag} {ct : Nat → Addr} {mg : Str → Option Value} {h : Heap}
theorem csT_non {x : Str} (KX : K.In h) (G : h.Ns mainGlobals mg) (e : PySem.W.nsIn K mainGlobals x = some (some .none)) : CsT K mg ct x .non :=
  ⟨.non, _, PySem.W.mg_of KX G e, rfl, fun H => .non⟩
theorem repD_tupK {a : Addr} {c2 : Option Addr} {its : Array Value} {n : Nat} {sl : Array (Option Value)} {vs : List V} {ds : List D} (l : K.lookup a = some ⟨.type "tuple", c2, .seq its n, sl⟩) (hl : its.size ≤ 1000) (hv : Vals vs its.toList) (hr : ∀ H, RepDs K ct H vs ds) : ∀ H, RepD K ct H (.ref a) (.tup ds) :=
  fun H => .tup (sqT_K l rfl rfl hl hv) (hr H)
theorem csT_tt {x : Str} {a b c : Addr} {c2 c3 c4 : Option Addr} {its jts kts : Array Value} {n n2 n3 : Nat} {sl sl2 sl3 : Array (Option Value)} {us ws : List V} {ds es : List D} (KX : K.In h) (G : h.Ns mainGlobals mg) (e : PySem.W.nsIn K mainGlobals x = some (some (.ref a))) (l : K.lookup a = some ⟨.type "tuple", c2, .seq its n, sl⟩)
    (hi : its.toList = [.ref b, .ref c]) (l2 : K.lookup b = some ⟨.type "tuple", c3, .seq jts n2, sl2⟩) (l3 : K.lookup c = some ⟨.type "tuple", c4, .seq kts n3, sl3⟩) (hl : its.size ≤ 1000) (hl2 : jts.size ≤ 1000) (hl3 : kts.size ≤ 1000)
    (hv : Vals us jts.toList) (hw : Vals ws kts.toList) (hr : ∀ H, RepDs K ct H us ds) (hr2 : ∀ H, RepDs K ct H ws es) : CsT K mg ct x (.tup [.tup ds, .tup es]) :=
  ⟨.ref a, _, PySem.W.mg_of KX G e, rfl, fun H => .tup (vs := [.ref b, .ref c]) (sqT_K l rfl rfl hl (by rw [hi]; exact .cons rfl (.cons rfl .nil))) (.cons (repD_tupK l2 hl2 hv hr H) (.cons (repD_tupK l3 hl3 hw hr2 H) .nil))⟩
end
end Fd
namespace Fd
open PySem PySem.Spec PyProof.Rows L2
section
variable {X : Cx} {ct : Nat → Addr} {W : WX} {pos : Pos} {e : Expr} {m : M RV} {es : List Expr}
/-! ## x, y = e, e a tuple or a list -/
theorem pg_or {tg : Expr} {g1 g2 : TG} (h1 : PG X tg g1) (h2 : PG X tg g2) : PG X tg (fun v σ H Q => g1 v σ H Q ∨ g2 v σ H Q) :=
  ⟨fun pins s σ H v u Q I r h => h.elim (h1.run pins s σ H v u Q I r) (h2.run pins s σ H v u Q I r)⟩
def seqG (g : List SV → M Unit) (n : Nat) (x : SV) : M Unit := match x with
  | .dat (.tup ds) => if ds.length = n then g (ds.map SV.dat) else stuck
  | .dat (.lst ds) => if ds.length = n then g (ds.map SV.dat) else stuck
  | _ => stuck
theorem gd_seq {is : List Nat} {k n : Nat} {g : List SV → M Unit} (hc : X.calm = true) (h : GDs X ct es is g) (hn : (assignEach es X.env).length = n := by rfl) (hst : (assignEach es X.env).findIdx? (·.1) = none := by rfl) : GD X ct (.Tuple es k pos) is (seqG g n) := by
  obtain ⟨t, p, r⟩ := h.ex
  refine ⟨_, pg_or (pg_tup hc p hn hst) (pg_lst hc p hn hst), fun σ H γ s v x Q R q h => ?_⟩
  unfold seqG at h
  split at h
  · rename_i ds
    obtain ⟨a, vs, e1, hq, w⟩ := tup_rep (s := s) (H0 := H) (γ := γ) (show RepR X.K ct γ s H H v (RT ds) from q)
    by_cases c : ds.length = n
    · rw [if_pos c] at h
      exact .inl ⟨a, vs, e1, hq, by rw [w.length]; exact c, r σ H γ s vs _ Q R (rep_map w) h⟩
    · rw [if_neg c] at h; exact False.elim h
  · rename_i ds
    have q' : RepD X.K ct H v (.lst ds) := q
    cases q' with
    | lst hq w =>
      by_cases c : ds.length = n
      · rw [if_pos c] at h
        exact .inr ⟨_, _, rfl, hq.sq, by rw [w.length]; exact c, r σ H γ s _ _ Q R (rep_map w) h⟩
      · rw [if_neg c] at h; exact False.elim h
  · exact False.elim h
@[simp] theorem e_seqGt (s : S) (g n) (ds : List D) : seqG g n (.dat (.tup ds)) s = if ds.length = n then g (ds.map SV.dat) s else .bad := by
  show (if ds.length = n then g (ds.map SV.dat) else stuck) s = _
  split <;> rfl
@[simp] theorem e_seqGl (s : S) (g n) (ds : List D) : seqG g n (.dat (.lst ds)) s = if ds.length = n then g (ds.map SV.dat) s else .bad := by
  show (if ds.length = n then g (ds.map SV.dat) else stuck) s = _
  split <;> rfl
end
end Fd
set_option Elab.async false
set_option linter.all false
set_option maxRecDepth 100000
set_option maxHeartbeats 4000000
namespace Fd
open PySem PySem.Spec PyProof.Rows L2
/-! ## ratios as rational numbers -/
theorem normN (a : Int) (d : Nat) (h : d ≠ 0) : (Rat.normalize a d h).num = a / gI a d ∧ ((Rat.normalize a d h).den : Int) = (d : Int) / gI a d := by
  rw [Rat.normalize_eq]
  unfold gI
  constructor
  · show a / _ = _
    rfl
  · show ((d / a.natAbs.gcd d : Nat) : Int) = _
    rw [Int.natCast_ediv]; rfl
theorem nq {a b : Int} (hb : b ≠ 0) : nT a b = ((a : Rat) / (b : Rat)).num ∧ nB a b = (((a : Rat) / (b : Rat)).den : Int) := by
  rw [← Rat.divInt_eq_div]
  unfold nT nB
  match b, hb with
  | Int.ofNat d, hb =>
    have hd : d ≠ 0 := fun z => hb (by rw [z]; rfl)
    have e : Rat.divInt a (Int.ofNat d) = Rat.normalize a d hd := by
      show mkRat a d = _
      unfold mkRat
      rw [dif_neg hd]
    rw [e]
    have := normN a d hd
    rw [if_neg (by simp), if_neg (by simp)]
    exact ⟨this.1.symm, this.2.symm⟩
  | Int.negSucc d, hb =>
    have e : Rat.divInt a (Int.negSucc d) = Rat.normalize (-a) d.succ (Nat.succ_ne_zero d) := rfl
    rw [e]
    have := normN (-a) d.succ (Nat.succ_ne_zero d)
    have hn : Int.negSucc d < 0 := Int.negSucc_lt_zero d
    rw [if_pos hn, if_pos hn]
    have hg : gI a (Int.negSucc d) = gI (-a) (d.succ : Nat) := by unfold gI; rw [Int.natAbs_neg]; rfl
    rw [hg]
    exact ⟨this.1.symm, this.2.symm⟩
/-- a ratio's data -/
def qr (r : Rat) : D := .tup [.int r.num, .int r.den]
theorem qr_of {a b : Int} (hb : b ≠ 0) : D.tup [.int (nT a b), .int (nB a b)] = qr ((a : Rat) / (b : Rat)) := by
  rw [(nq hb).1, (nq hb).2]; rfl
@[simp] theorem eqD_qr (r s : Rat) : eqD (qr r) (qr s) = decide (r = s) := by
  unfold qr
  simp only [eqD_tup, eqDs_cons, eqDs_nil, eqD_int, Bool.and_true]
  by_cases h : r = s
  · subst h; simp
  · have : ¬ (r.num = s.num ∧ r.den = s.den) := fun z => h (Rat.ext z.1 z.2)
    simp only [h, decide_false]
    by_cases h1 : r.num = s.num
    · have h2 : ¬ r.den = s.den := fun z => this ⟨h1, z⟩
      have h3 : ¬ ((r.den : Int) = s.den) := by omega
      simp [h1, h3]
    · simp [h1]
@[simp] theorem no_qr (r : Rat) : isNoD (qr r) = false := rfl
@[simp] theorem okD_qr (r : Rat) : okD (qr r) = true := rfl
theorem den_pos (r : Rat) : (0 : Int) < r.den := by have := r.den_pos; omega
theorem den_nz (r : Rat) : (r.den : Int) ≠ 0 := by have := r.den_pos; omega
theorem rat_eq (r : Rat) : r = (r.num : Rat) / ((r.den : Int) : Rat) := by
  have h := Rat.divInt_eq_div r.num r.den
  rw [← h, Rat.divInt_ofNat]
  exact (Rat.mkRat_self r).symm
theorem qr_gcd (r : Rat) : gI r.num r.den = 1 := by
  have := r.reduced
  unfold gI
  show ((Nat.gcd r.num.natAbs r.den : Nat) : Int) = 1
  rw [this]; rfl
theorem denQ_nz (r : Rat) : ((r.den : Int) : Rat) ≠ 0 := fun z => den_nz r (Rat.intCast_eq_zero_iff.mp z)
theorem q_add (r s : Rat) : ((r.num * s.den + s.num * r.den : Int) : Rat) / ((r.den * s.den : Int) : Rat) = r + s := by
  have h1 := denQ_nz r
  have h2 := denQ_nz s
  have e1 := rat_eq r
  have e2 := rat_eq s
  rw [Rat.intCast_add, Rat.intCast_mul, Rat.intCast_mul, Rat.intCast_mul]
  generalize ((r.den : Int) : Rat) = d1 at *
  generalize ((s.den : Int) : Rat) = d2 at *
  generalize (r.num : Rat) = a1 at *
  generalize (s.num : Rat) = a2 at *
  subst e1; subst e2
  grind
theorem q_sub (r s : Rat) : ((r.num * s.den - s.num * r.den : Int) : Rat) / ((r.den * s.den : Int) : Rat) = r - s := by
  have h1 := denQ_nz r
  have h2 := denQ_nz s
  have e1 := rat_eq r
  have e2 := rat_eq s
  rw [Int.sub_eq_add_neg, Rat.intCast_add, Rat.intCast_neg, Rat.intCast_mul, Rat.intCast_mul, Rat.intCast_mul]
  generalize ((r.den : Int) : Rat) = d1 at *
  generalize ((s.den : Int) : Rat) = d2 at *
  generalize (r.num : Rat) = a1 at *
  generalize (s.num : Rat) = a2 at *
  subst e1; subst e2
  grind
theorem q_mul (r s : Rat) : ((r.num * s.num : Int) : Rat) / ((r.den * s.den : Int) : Rat) = r * s := by
  have h1 := denQ_nz r
  have h2 := denQ_nz s
  have e1 := rat_eq r
  have e2 := rat_eq s
  rw [Rat.intCast_mul, Rat.intCast_mul]
  generalize ((r.den : Int) : Rat) = d1 at *
  generalize ((s.den : Int) : Rat) = d2 at *
  generalize (r.num : Rat) = a1 at *
  generalize (s.num : Rat) = a2 at *
  subst e1; subst e2
  grind
theorem num_nz {s : Rat} (h : s ≠ 0) : s.num ≠ 0 := fun z => h (Rat.num_eq_zero.mp z)
theorem q_div (r s : Rat) (hs : s ≠ 0) : ((r.num * s.den : Int) : Rat) / ((r.den * s.num : Int) : Rat) = r / s := by
  have h1 := denQ_nz r
  have h2 := denQ_nz s
  have h3 : (s.num : Rat) ≠ 0 := fun z => num_nz hs (Rat.intCast_eq_zero_iff.mp z)
  have e1 := rat_eq r
  have e2 := rat_eq s
  rw [Rat.intCast_mul, Rat.intCast_mul]
  generalize ((r.den : Int) : Rat) = d1 at *
  generalize ((s.den : Int) : Rat) = d2 at *
  generalize (r.num : Rat) = a1 at *
  generalize (s.num : Rat) = a2 at *
  subst e1; subst e2
  grind
/-- sizes -/
structure Rb (n : Nat) (r : Rat) : Prop where
  num : Bd n r.num
  den : Bd n (r.den : Int)
theorem Rb.mono {n m : Nat} {r : Rat} (h : Rb n r) (l : n ≤ m) : Rb m r := ⟨h.num.mono l, h.den.mono l⟩
theorem rb_frac {n : Nat} {a b : Int} (hb : b ≠ 0) (h1 : Bd n a) (h2 : Bd n b) : Rb n ((a : Rat) / (b : Rat)) := by
  obtain ⟨e1, e2⟩ := nq (a := a) hb
  exact ⟨by rw [← e1]; exact bd_le h1 (nT_le _ _), by rw [← e2]; exact bd_le h2 (nB_le _ _)⟩
theorem Rb.add {n m : Nat} {r s : Rat} (h : Rb n r) (k : Rb m s) : Rb (n + m + 1) (r + s) := by
  rw [← q_add]
  exact rb_frac (Int.mul_ne_zero (den_nz r) (den_nz s)) (((h.num.mul k.den).add (k.num.mul h.den)).mono (by omega)) ((h.den.mul k.den).mono (by omega))
theorem Rb.sub {n m : Nat} {r s : Rat} (h : Rb n r) (k : Rb m s) : Rb (n + m + 1) (r - s) := by
  rw [← q_sub]
  exact rb_frac (Int.mul_ne_zero (den_nz r) (den_nz s)) (((h.num.mul k.den).sub (k.num.mul h.den)).mono (by omega)) ((h.den.mul k.den).mono (by omega))
theorem Rb.mul {n m : Nat} {r s : Rat} (h : Rb n r) (k : Rb m s) : Rb (n + m) (r * s) := by
  rw [← q_mul]
  exact rb_frac (Int.mul_ne_zero (den_nz r) (den_nz s)) (h.num.mul k.num) (h.den.mul k.den)
theorem Rb.div {n m : Nat} {r s : Rat} (h : Rb n r) (k : Rb m s) (z : s ≠ 0) : Rb (n + m) (r / s) := by
  rw [← q_div r s z]
  exact rb_frac (Int.mul_ne_zero (den_nz r) (num_nz z)) (h.num.mul k.den) (h.den.mul k.num)
theorem neg_qr (r : Rat) : D.tup [.int (-r.num), .int r.den] = qr (-r) := by
  unfold qr; rw [Rat.neg_num, Rat.neg_den]
theorem Rb.neg {n : Nat} {r : Rat} (h : Rb n r) : Rb n (-r) := ⟨by rw [Rat.neg_num]; exact h.num.neg, by rw [Rat.neg_den]; exact h.den⟩
theorem qr_int (a : Int) : qr (a : Rat) = .tup [.int a, .int 1] := by unfold qr; simp
theorem rb_int {n : Nat} {a : Int} (h : Bd n a) (hn : 1 ≤ n := by decide) : Rb n (a : Rat) := ⟨by simpa using h, by simpa using (show Bd n 1 from bd_of (n := 1) (by decide) (by decide) |>.mono hn)⟩
end Fd
namespace Fd
open PySem PySem.Spec PyProof.Rows L2
theorem sqn (t : Rat) : 0 ≤ t * t := by
  rcases Rat.le_total (a := 0) (b := t) with h | h
  · exact Rat.mul_nonneg h h
  · have : 0 ≤ -t := by grind
    have := Rat.mul_nonneg this this
    grind
theorem one_sq (t : Rat) : 1 + t * t ≠ 0 := by
  have := sqn t
  grind
theorem qr_0 : qr 0 = .tup [.int 0, .int 1] := rfl
theorem qr_1 : qr 1 = .tup [.int 1, .int 1] := rfl
theorem qr_m1 : qr (-1) = .tup [.int (-1), .int 1] := rfl
theorem qr_2 : qr 2 = .tup [.int 2, .int 1] := rfl
theorem qr_m2 : qr (-2) = .tup [.int (-2), .int 1] := rfl
theorem eq_qr0 (r : Rat) : eqD (qr r) (.tup [.int 0, .int 1]) = decide (r = 0) := eqD_qr r 0
theorem eq_qr1 (r : Rat) : eqD (qr r) (.tup [.int 1, .int 1]) = decide (r = 1) := eqD_qr r 1
theorem eq_qrm1 (r : Rat) : eqD (qr r) (.tup [.int (-1), .int 1]) = decide (r = -1) := eqD_qr r (-1)
theorem rb1 : Rb 2 (1 : Rat) := ⟨bd_of (by decide) (by decide), bd_of (by decide) (by decide)⟩
theorem rb0 : Rb 2 (0 : Rat) := ⟨bd_of (by decide) (by decide), bd_of (by decide) (by decide)⟩
theorem rb2 : Rb 3 (2 : Rat) := ⟨bd_of (by decide) (by decide), bd_of (by decide) (by decide)⟩
theorem rbm1 : Rb 2 (-1 : Rat) := ⟨bd_of (by decide) (by decide), bd_of (by decide) (by decide)⟩
theorem rbm2 : Rb 3 (-2 : Rat) := ⟨bd_of (by decide) (by decide), bd_of (by decide) (by decide)⟩
theorem tup_qr (r : Rat) : D.tup [.int r.num, .int r.den] = qr r := rfl
end Fd
namespace Fd
open PySem PySem.Spec PyProof.Rows L2
@[simp] theorem e_deepN (s : S) (xs : List SV) : deep s (.new xs) = match datL xs with
  | some ds => some (.lst ds)
  | none => none := rfl
@[simp] theorem okD_l0 : okD (.lst []) = true := rfl
@[simp] theorem okD_q2 (x y : Rat) : okD (.tup [qr x, qr y]) = true := rfl
end Fd
namespace Fd
open PySem PySem.Spec PyProof.Rows L2
theorem qr_lit (a b : Int) (hb : 0 < b) (hg : gI a b = 1) : D.tup [.int a, .int b] = qr ((a : Rat) / (b : Rat)) := by
  rw [← qr_of (by omega)]
  unfold nT nB
  rw [hg, if_neg (by omega), if_neg (by omega)]
  simp
theorem lit_ex (a b : Int) (hb : 0 < b) (hg : gI a b = 1) {n : Nat} (h1 : Bd n a) (h2 : Bd n b) : ∃ q : Rat, D.tup [.int a, .int b] = qr q ∧ Rb n q := ⟨_, qr_lit a b hb hg, rb_frac (by omega) h1 h2⟩
end Fd
set_option Elab.async false
set_option linter.all false
set_option maxRecDepth 100000
set_option maxHeartbeats 4000000
namespace Fd
open PySem PySem.Spec PyProof.Rows L2
/-! ## methods of a string with one argument -/
def mS (mo me : M RV) (f : Str → RV → M RV) : M RV := bnd mo fun x => match x with
  | .sv (.dat (.str a)) => bnd me (fun y => f a y)
  | _ => stuck
def SmOk (X : Cx) (ct : Nat → Addr) (r : V → List V → Hp → VK → Prop) (f : Str → RV → M RV) : Prop := ∀ (W : WX) (σ : L2.St) (γ : G) (s : S) (H Hb : Hp) (a : Str) (y : V) (r2 : RV) (Q : VK), Rep X.K ct γ H σ s → RepR X.K ct γ s Hb H y r2 → Good X.K ct W σ γ s H (f a r2 s) Q → r (.str a) [y] H Q
section
variable {X : Cx} {ct : Nat → Addr} {W : WX} {pos : Pos} {o e : Expr} {mo me : M RV}
theorem ed_sm {r : V → List V → Hp → VK → Prop} {f : Str → RV → M RV} {ca : Expr} (hf : SmOk X ct r f) (ho : ED X ct W o mo) (he : ED X ct W e me) (hp : ∀ {to : TE} {t : TA}, PE X o to → PA X [e] t → PE X ca (tBM X.K "str" r to t)) (hs : starEach [e] X.env = (false, eval e X.env) :: starEach [] X.env := by rfl) : ED X ct W ca (mS mo me f) := by
  obtain ⟨to, po, ro⟩ := ho.ex
  obtain ⟨te, pe, re⟩ := he.ex
  refine ⟨_, hp po (pa_cons pe pa_nil hs), fun σ H γ s Q R h => ?_⟩
  refine ro σ H γ s _ R (use_e h (fun _ _ z => z) fun x s1 v γ1 H1 t1 R1 q1 g => ?_)
  split at g
  · rename_i a
    obtain rfl := rep_str q1
    refine ⟨rfl, ?_⟩
    have g1 : Good X.K ct W σ γ1 s1 H1 ((bnd me fun y => f a y) s1) Q := Good.step t1 g
    exact re σ H1 γ1 s1 _ R1 (use_e g1 (fun _ _ z => z) fun y s2 w γ2 H2 t2 R2 q2 g2 => hf W σ γ2 s2 H2 _ a w y Q R2 q2 (Good.step t2 g2))
  · exact False.elim g
def startsM (a : Str) : RV → M RV
  | .sv (.dat (.str b)) => fun s => .ok (RB (Txt.startswith a b)) s
  | _ => stuck
theorem startsM_ok : SmOk X ct (fun x xs H Q => ∃ a b, x = .str a ∧ xs = [.str b] ∧ Q (.bl (Txt.startswith a b)) H) startsM := by
  intro W σ γ s H Hb a y r2 Q R q h
  unfold startsM at h
  split at h
  · rename_i b
    exact ⟨a, b, rfl, by rw [rep_str q], h _ γ H Step.refl R (repB _)⟩
  · exact False.elim h
def rmpM (a : Str) : RV → M RV
  | .sv (.dat (.str b)) => fun s => if a.length ≤ 100000 then .ok (RS (Txt.removeprefix a b)) s else .bad
  | _ => stuck
theorem rmpM_ok : SmOk X ct (fun x xs H Q => ∃ a b, x = .str a ∧ xs = [.str b] ∧ a.length ≤ sizeLine ∧ Q (.str (Txt.removeprefix a b)) H) rmpM := by
  intro W σ γ s H Hb a y r2 Q R q h
  unfold rmpM at h
  split at h
  · rename_i b
    by_cases c : a.length ≤ 100000
    · rw [if_pos c] at h
      exact ⟨a, b, rfl, by rw [rep_str q], lim_ok c, h _ γ H Step.refl R (RepD.str _)⟩
    · rw [if_neg c] at h; exact False.elim h
  · exact False.elim h
def partM (a : Str) : RV → M RV
  | .sv (.dat (.str b)) => fun s => if a.length ≤ 100000 ∧ (b.length == 0) = false then .ok (RT [.str (Txt.partition a b).1, .str (Txt.partition a b).2.1, .str (Txt.partition a b).2.2]) s else .bad
  | _ => stuck
theorem partM_ok : SmOk X ct (fun x xs H Q => ∃ a b, x = .str a ∧ xs = [.str b] ∧ (b.length == 0) = false ∧ a.length ≤ sizeLine ∧ ∀ p, H p = none → Q (.ref p) (upd H p (.tup [.str (Txt.partition a b).1, .str (Txt.partition a b).2.1, .str (Txt.partition a b).2.2]))) partM := by
  intro W σ γ s H Hb a y r2 Q R q h
  unfold partM at h
  split at h
  · rename_i b
    by_cases c : a.length ≤ 100000 ∧ (b.length == 0) = false
    · rw [if_pos c] at h
      exact ⟨a, b, rfl, by rw [rep_str q], c.2, lim_ok c.1, good_tup R (.cons (.str _) (.cons (.str _) (.cons (.str _) .nil))) h⟩
    · rw [if_neg c] at h; exact False.elim h
  · exact False.elim h
end
end Fd
namespace Fd
open PySem PySem.Spec PyProof.Rows L2
section
variable {X : Cx} {ct : Nat → Addr} {W : WX} {pos : Pos} {e tg a b : Expr} {m ma mb : M RV}
/-! ## for c in text -/
def chars (z : Str) : List SV := z.cps.toList.map fun c => .dat (.str ⟨#[c]⟩)
def strSrc : RV → M Src
  | .sv (.dat (.str z)) => pur ⟨chars z, none⟩
  | _ => stuck
theorem walkD_str {K : PySem.W.Frag} {γ : G} {s : S} {H : Hp} {z : Str} : WalkD K ct (Its z) ⟨chars z, none⟩ γ s H := by
  refine ⟨_, _, by rw [show (Src.mk (chars z) none).items.length = z.cps.size by simp [chars]]; exact walk_str, fun _ _ _ _ _ _ _ => trivial, ?_⟩
  rintro i γ1 s1 H1 σ1 x H2 y st R1 ok e ⟨rfl, c, ec, rfl⟩
  have e' : (chars z)[i]? = some y := e
  unfold chars at e'
  rw [List.getElem?_map, Array.getElem?_toList, ec] at e'
  cases e'
  exact ⟨Same.refl _, RepD.str _⟩
theorem id_str (h : ED X ct W e m) : ID X ct W tg e (bnd m strSrc) := by
  obtain ⟨t, p, r⟩ := h.ex
  refine ⟨_, pi_str p, fun σ H γ s R0 R h => ?_⟩
  refine r σ H γ s _ R (use_e h (fun _ _ z => z) fun x s1 v γ1 H1 t1 R1 q1 g => ?_)
  unfold strSrc at g
  split at g
  · rename_i z
    exact ⟨z, rep_str q1, g γ1 H1 _ t1 R1 walkD_str⟩
  · exact False.elim g
@[simp] theorem e_strSrc (s : S) (z : Str) : strSrc (RS z) s = .ok ⟨chars z, none⟩ s := rfl
/-! ## a sign in a text, int(text), text * number -/
def inS (neg : Bool) : RV → RV → M RV
  | .sv (.dat (.str i)), .sv (.dat (.str j)) => pur (RB (if neg then !(!(Builtin.Str.occurrences j i 0 j.length 1).isEmpty) else !(Builtin.Str.occurrences j i 0 j.length 1).isEmpty))
  | _, _ => stuck
theorem inS_ok : BinOk X ct (fun x y H Q => ∃ i j, x = .str i ∧ y = .str j ∧ Q (.bl (!(Builtin.Str.occurrences j i 0 j.length 1).isEmpty)) H) (inS false) := by
  intro W σ γ s H Ha Hb x y r1 r2 Q R q1 q2 h
  unfold inS at h
  split at h
  · rename_i i j
    exact ⟨i, j, rep_str q1, rep_str q2, h _ γ H Step.refl R (repB _)⟩
  · exact False.elim h
theorem notinS_ok : BinOk X ct (fun x y H Q => ∃ i j, x = .str i ∧ y = .str j ∧ Q (.bl (!(!(Builtin.Str.occurrences j i 0 j.length 1).isEmpty))) H) (inS true) := by
  intro W σ γ s H Ha Hb x y r1 r2 Q R q1 q2 h
  unfold inS at h
  split at h
  · rename_i i j
    exact ⟨i, j, rep_str q1, rep_str q2, h _ γ H Step.refl R (repB _)⟩
  · exact False.elim h
theorem td_inS (ha : ED X ct W a ma) (hb : ED X ct W b mb) (hm : behindInMarks .In b = false := by rfl) : TD X ct W (.Compare a [.In] [b] pos) (bnd (m2 ma mb (inS false)) asB) := td_cmp op_in_str inS_ok ha hb hm
theorem td_notinS (ha : ED X ct W a ma) (hb : ED X ct W b mb) (hm : behindInMarks .NotIn b = false := by rfl) : TD X ct W (.Compare a [.NotIn] [b] pos) (bnd (m2 ma mb (inS true)) asB) := td_cmp op_notin_str notinS_ok ha hb hm
def intS : List RV → M RV
  | [.sv (.dat (.str z))] => fun s => match PySem.intText? z with
    | some n => if z.length ≤ 640 then .ok (RI n) s else .bad
    | none => .bad
  | _ => stuck
theorem intS_ok : CallOk X ct (fun xs H Q => ∃ a n, xs = [.str a] ∧ PySem.intText? a = some n ∧ a.length ≤ 640 ∧ Q (.int n) H) intS := by
  intro W σ γ s H Ha vs rs Q R q h
  unfold intS at h
  split at h
  · rename_i z
    cases q with
    | cons q1 q2 =>
      cases q2
      cases e : PySem.intText? z with
      | none => simp only [e] at h; exact False.elim h
      | some n =>
        simp only [e] at h
        by_cases c : z.length ≤ 640
        · rw [if_pos c] at h
          exact ⟨z, n, by rw [rep_str q1], e, c, h _ γ H Step.refl R (repI _)⟩
        · rw [if_neg c] at h; exact False.elim h
  · exact False.elim h
end
end Fd
namespace Fd
open PySem PySem.Spec PyProof.Rows L2
section
variable {X : Cx} {ct : Nat → Addr} {W : WX} {pos : Pos} {e a b : Expr} {m ma mb : M RV}
/-! ## text * number -/
def repS (x : Str) (n : Nat) : Str := ⟨(List.replicate n x.cps).foldl (· ++ ·) #[]⟩
theorem fold_len (x : Array Nat) : ∀ (n : Nat) (acc : Array Nat), ((List.replicate n x).foldl (· ++ ·) acc).size = acc.size + n * x.size
  | 0, acc => by simp
  | n + 1, acc => by
    rw [List.replicate_succ, List.foldl_cons, fold_len x n]
    simp [Array.size_append, Nat.succ_mul]; omega
theorem repS_len (x : Str) (n : Nat) : (repS x n).length = n * x.length := by
  show ((List.replicate n x.cps).foldl (· ++ ·) #[]).size = _
  rw [fold_len]; simp; rfl
def rMulS : R2 := fun x y H Q => ∃ (z : Str) (n : Int), x = .str z ∧ y = .int n ∧ 2 ≤ n ∧ n ≤ 100000 ∧ z.length ≤ 8 ∧ 1 ≤ z.length ∧ Q (.str (repS z n.toNat)) H
theorem op_mulS : OpR X (binaryOp .Mult) rMulS := by
  intro pins s σ H x y v u Q I rx ry h
  obtain ⟨z, n, rfl, rfl, h1, h2, h3, h4, q⟩ := h
  obtain ⟨t, rfl⟩ := rx
  obtain ⟨t', rfl⟩ := ry
  have n1 : (n == 1 || z.length == 0) = false := by
    have a1 : (n == 1) = false := by simpa using (show ¬ n = 1 by omega)
    have a2 : (z.length == 0) = false := by simpa using (show ¬ z.length = 0 by omega)
    rw [a1, a2]; rfl
  refine P.mul_str (by simp; omega) (fun _ _ => ?_) (fun _ _ => ?_) ?_
  · have hn : 0 < n := by omega
    have : 8 ≤ (2 ^ 63 - 1) / n := (Int.le_ediv_iff_mul_le hn).mpr (by omega)
    omega
  · have e1 : z.length * n.toNat ≤ 8 * 100000 := Nat.mul_le_mul h3 (by omega)
    unfold Builtin.Str.tooLong
    simp [sizeLine_eq]
    omega
  · rw [if_neg (by omega), if_neg (by rw [n1]; exact Bool.false_ne_true)]
    refine ⟨?_, .str (repS z n.toNat), H, I.tok _, ⟨_, rfl⟩, q⟩
    have := repS_len z n.toNat
    have e1 : n.toNat * z.length ≤ 100000 * 8 := Nat.mul_le_mul (by omega) h3
    show (repS z n.toNat).length ≤ sizeLine
    rw [this, sizeLine_eq]; omega
end
end Fd
namespace Fd
open PySem PySem.Spec PyProof.Rows L2
section
variable {X : Cx} {ct : Nat → Addr} {W : WX} {pos : Pos} {e a b : Expr} {m ma mb : M RV}
def mulSM : RV → RV → M RV
  | .sv (.dat (.str z)), .sv (.dat (.int n)) => fun s => if 2 ≤ n ∧ n ≤ 100000 ∧ z.length ≤ 8 ∧ 1 ≤ z.length then .ok (RS (repS z n.toNat)) s else .bad
  | _, _ => stuck
theorem mulSM_ok : BinOk X ct rMulS mulSM := by
  intro W σ γ s H Ha Hb x y r1 r2 Q R q1 q2 h
  unfold mulSM at h
  split at h
  · rename_i z n
    by_cases c : 2 ≤ n ∧ n ≤ 100000 ∧ z.length ≤ 8 ∧ 1 ≤ z.length
    · rw [if_pos c] at h
      exact ⟨z, n, rep_str q1, rep_int q2, c.1, c.2.1, c.2.2.1, c.2.2.2, h _ γ H Step.refl R (RepD.str _)⟩
    · rw [if_neg c] at h; exact False.elim h
  · exact False.elim h
theorem ed_mulS (ha : ED X ct W a ma) (hb : ED X ct W b mb) : ED X ct W (.BinOp a .Mult b pos) (m2 ma mb mulSM) := ed_bin op_mulS mulSM_ok ha hb
/-! ## f-strings -/
def fmtM : RV → M RV
  | .sv (.dat (.str z)) => fun s => if z.length ≤ 100000 then .ok (RS z) s else .bad
  | .sv (.dat (.int i)) => fun s => if i.natAbs.log2 < 1920 then .ok (RS (toString i)) s else .bad
  | _ => stuck
theorem ed_fmt (h : ED X ct W e m) : ED X ct W (.FormattedValue e (-1) none pos) (bnd m fmtM) := by
  obtain ⟨t, p, r⟩ := h.ex
  refine ⟨_, pe_fmt p, fun σ H γ s Q R h => ?_⟩
  refine r σ H γ s _ R (use_e h (fun _ _ z => z) fun x s1 v γ1 H1 t1 R1 q1 g => ?_)
  unfold fmtM at g
  split at g
  · rename_i z
    by_cases c : z.length ≤ 100000
    · rw [if_pos c] at g
      exact .inl ⟨z, rep_str q1, lim_ok c, g _ γ1 H1 t1 R1 (RepD.str _)⟩
    · rw [if_neg c] at g; exact False.elim g
  · rename_i i
    by_cases c : i.natAbs.log2 < 1920
    · rw [if_pos c] at g
      exact .inr ⟨i, rep_int q1, c, g _ γ1 H1 t1 R1 (RepD.str _)⟩
    · rw [if_neg c] at g; exact False.elim g
  · exact False.elim g
end
end Fd
namespace Fd
open PySem PySem.Spec PyProof.Rows L2
section
variable {X : Cx} {ct : Nat → Addr} {W : WX} {pos : Pos} {e a b : Expr} {es : List Expr} {m ma mb : M RV}
/-- the texts of an f-string, one behind the other -/
def joinM : List (M RV) → Str → M RV
  | [], acc => pur (RS acc)
  | m :: ms, acc => bnd m fun x => match x with
    | .sv (.dat (.str y)) => fun s => if (acc ++ y).length ≤ 100000 then joinM ms (acc ++ y) s else .bad
    | _ => stuck
theorem joinM_str : ∀ (ms : List (M RV)) (acc : Str) (s s1 : S) (x : RV), joinM ms acc s = .ok x s1 → ∃ z, x = RS z
  | [], acc, s, s1, x, h => by cases h; exact ⟨acc, rfl⟩
  | m :: ms, acc, s, s1, x, h => by
    unfold joinM bnd at h
    cases e : m s with
    | exc y s2 => rw [e] at h; cases h
    | bad => rw [e] at h; cases h
    | ok y s2 =>
      rw [e] at h
      simp only at h
      split at h
      · rename_i z
        by_cases c : (acc ++ z).length ≤ 100000
        · rw [if_pos c] at h; exact joinM_str ms (acc ++ z) s2 s1 x h
        · rw [if_neg c] at h; cases h
      · cases h
structure JD (X : Cx) (ct : Nat → Addr) (W : WX) (es : List Expr) (ms : List (M RV)) : Prop where
  ex : ∃ ts, PJ X es ts ∧ ∀ acc σ H γ s (Q : Str → Hp → Prop), Rep X.K ct γ H σ s → Good X.K ct W σ γ s H (joinM ms acc s) (fun v H' => ∃ z, v = .str z ∧ Q z H') → tJs ts acc σ H Q
theorem jd_nil : JD X ct W [] [] := ⟨[], .nil, fun acc σ H γ s Q R g => by
  obtain ⟨z, e, q⟩ := g (.str acc) γ H Step.refl R (RepD.str _)
  cases e
  exact q⟩
theorem jd_cons {ms : List (M RV)} (h : ED X ct W e m) (r : JD X ct W es ms) : JD X ct W (e :: es) (m :: ms) := by
  obtain ⟨t, p, rt⟩ := h.ex
  obtain ⟨ts, ps, rs⟩ := r.ex
  refine ⟨t :: ts, .cons p ps, fun acc σ H γ s Q R g => ?_⟩
  unfold joinM at g
  refine rt σ H γ s _ R (use_e g (fun _ _ z => z) fun x s1 v γ1 H1 t1 R1 q1 g1 => ?_)
  split at g1
  · rename_i y
    by_cases c : (acc ++ y).length ≤ 100000
    · rw [if_pos c] at g1
      exact ⟨y, rep_str q1, lim_ok c, rs (acc ++ y) σ H1 γ1 s1 Q R1 (Good.step t1 g1)⟩
    · rw [if_neg c] at g1; exact False.elim g1
  · exact False.elim g1
theorem ed_joined {v1 v2 : Expr} {rest : List Expr} {ms : List (M RV)} (h : JD X ct W (v1 :: v2 :: rest) ms) : ED X ct W (.JoinedStr (v1 :: v2 :: rest) pos) (joinM ms Str.empty) := by
  obtain ⟨ts, p, r⟩ := h.ex
  refine ⟨_, pe_joined p, fun σ H γ s Q R g => ?_⟩
  refine r _ σ H γ s _ R ?_
  unfold Good at *
  cases e : joinM ms Str.empty s with
  | bad => rw [e] at g; exact g
  | exc y s1 => rw [e] at g; exact g
  | ok x s1 =>
    rw [e] at g
    obtain ⟨z, rfl⟩ := joinM_str ms _ s s1 x e
    intro v γ1 H1 t1 R1 q1
    have ev := rep_str q1
    exact ⟨z, ev, by rw [← ev]; exact g v γ1 H1 t1 R1 q1⟩
end
end Fd
set_option Elab.async false
set_option linter.all false
set_option maxRecDepth 100000
set_option maxHeartbeats 4000000
namespace Fd
open PySem PySem.Spec PyProof.Rows L2
/-! ## an object in the making -/
def Chg : HO → Prop
  | .ins _ _ _ => True
  | .own _ => True
  | .ext _ => True
  | _ => False
section
variable {X : Cx} {pins : List (Addr × Obj)} {σ : L2.St} {H H' : Hp} {s : Shared} {a b : Addr}
theorem inv_re (I : Inv X pins σ H s) (hk : HOk X.prog X.w H' s.heap) (ag : ∀ x, x ≠ a → x ≠ b → H' x = H x) {o u : HO} (ea : H a = some o) (eb : H b = some u) (ca : Chg o) (cb : Chg u) : Inv X pins σ H' s := by
  have na : ∀ x, H x = none → x ≠ a ∧ x ≠ b := fun x e => ⟨(fun z => by rw [z, ea] at e; cases e), fun z => by rw [z, eb] at e; cases e⟩
  have nc : ∀ x w, H x = some w → ¬ Chg w → x ≠ a ∧ x ≠ b := fun x w e c => ⟨(fun z => by rw [z, ea] at e; cases e; exact c ca), fun z => by rw [z, eb] at e; cases e; exact c cb⟩
  refine ⟨I.ok, I.os, I.bare, ⟨I.base.keep, I.base.slot, fun x o e n hx => ?_, I.base.there, fun x xs e => ?_, fun x o y e => ?_, fun x ps e => ?_⟩, I.loc, I.cell, ?_, fun x c e => ?_, fun p hp => ?_, hk, I.len⟩
  · have q := I.base.free x o e n hx
    rw [ag x (na x q).1 (na x q).2]; exact q
  · have q := I.base.tups x xs e
    have z := nc x _ q (fun z => z)
    rw [ag x z.1 z.2]; exact q
  · have q := I.base.frzs x o y e
    have z := nc x _ q (fun z => z)
    rw [ag x z.1 z.2]; exact q
  · obtain ⟨m, q⟩ := I.base.tbls x ps e
    have z := nc x _ q (fun z => z)
    exact ⟨m, by rw [ag x z.1 z.2]; exact q⟩
  · have q := I.free
    rw [ag _ (na _ q).1 (na _ q).2]; exact q
  · have q := I.freeC x c e
    rw [ag _ (na _ q).1 (na _ q).2]; exact q
  · obtain ⟨p1, p2, p3⟩ := I.pin p hp
    exact ⟨p1, by rw [ag _ (na _ p2).1 (na _ p2).2]; exact p2, p3⟩
/-- the heap is seen otherwise -/
def Cv (X : Cx) (H H' : Hp) : Prop := ∀ (pins : List (Addr × Obj)) (σ : L2.St) (s : Shared), Inv X pins σ H s → Inv X pins σ H' s
def opened (H : Hp) (a C dx : Addr) (fs : List (Str × V)) : Hp := upd (upd H dx (.ext (meD dx fs))) a (.ext (meA a C dx))
def closed (H : Hp) (a C dx : Addr) (fs : List (Str × V)) : Hp := upd (upd H dx (.own a)) a (.ins C dx fs)
theorem cv_open {C dx : Addr} {fs : List (Str × V)} (ea : H a = some (.ins C dx fs)) : Cv X H (opened H a C dx fs) := by
  intro pins σ s I
  obtain ⟨ed, hl, ne, eo, hm⟩ := I.hok a _ ea
  have hm0 := hm
  obtain ⟨mA, ⟨od, es, ep, e2, c⟩, r⟩ := hm
  have st : ∀ h1 h2 : Heap, meD dx fs h1 → (∀ o, h1.get? dx = some o → h2.get? dx = some o) → meD dx fs h2 := fun h1 h2 x k => by
    obtain ⟨l1, mA, ⟨od, es, ep, e2, c⟩, r⟩ := x
    exact ⟨l1, mA, ⟨od, es, ep, k _ e2, c⟩, r⟩
  refine inv_re (a := a) (b := dx) I (fun x u e => ?_) (fun x n1 n2 => by unfold opened; rw [upd_ne n1, upd_ne n2]) ea ed trivial trivial
  by_cases h1 : x = a
  · subst h1
    unfold opened at e
    rw [upd_same] at e; cases e
    exact ⟨eo, ⟨_, eo⟩, fun h1 h2 p k => k _ p⟩
  · by_cases h2 : x = dx
    · subst h2
      unfold opened at e
      rw [upd_ne h1, upd_same] at e; cases e
      exact ⟨⟨hl, hm0⟩, ⟨_, e2⟩, st⟩
    · unfold opened at e
      rw [upd_ne h1, upd_ne h2] at e
      refine (I.hok x u e).stay (fun b u _ q => q) (fun y q => ?_) fun y xs q => ?_
      · have n1 : y ≠ a := fun z => by rw [z, ea] at q; cases q
        have n2 : y ≠ dx := fun z => by rw [z, ed] at q; cases q; exact h1 rfl
        unfold opened; rw [upd_ne n1, upd_ne n2]; exact q
      · have n1 : y ≠ a := fun z => by rw [z, ea] at q; cases q
        have n2 : y ≠ dx := fun z => by rw [z, ed] at q; cases q
        unfold opened; rw [upd_ne n1, upd_ne n2]; exact q
theorem cv_close {C dx : Addr} {fs : List (Str × V)} (ea : H a = some (.ext (meA a C dx))) (ed : H dx = some (.ext (meD dx fs))) (ne : dx ≠ a) : Cv X H (closed H a C dx fs) := by
  intro pins σ s I
  obtain ⟨eo, _, _⟩ := I.hok a _ ea
  have eo' : s.heap.get? a = some (PySem.W.instObj C dx) := eo
  obtain ⟨hd, ⟨od, e2⟩, _⟩ := I.hok dx _ ed
  obtain ⟨hl, hm⟩ := hd
  refine inv_re (a := a) (b := dx) I (fun x u e => ?_) (fun x n1 n2 => by unfold closed; rw [upd_ne n1, upd_ne n2]) ea ed trivial trivial
  by_cases h1 : x = a
  · subst h1
    unfold closed at e
    rw [upd_same] at e; cases e
    exact ⟨by unfold closed; rw [upd_ne ne, upd_same], hl, ne, eo', hm⟩
  · by_cases h2 : x = dx
    · subst h2
      unfold closed at e
      rw [upd_ne h1, upd_same] at e; cases e
      exact ⟨_, e2⟩
    · unfold closed at e
      rw [upd_ne h1, upd_ne h2] at e
      refine (I.hok x u e).stay (fun b u _ q => q) (fun y q => ?_) fun y xs q => ?_
      · have n1 : y ≠ a := fun z => by rw [z, ea] at q; cases q
        have n2 : y ≠ dx := fun z => by rw [z, ed] at q; cases q
        unfold closed; rw [upd_ne n1, upd_ne n2]; exact q
      · have n1 : y ≠ a := fun z => by rw [z, ea] at q; cases q
        have n2 : y ≠ dx := fun z => by rw [z, ed] at q; cases q
        unfold closed; rw [upd_ne n1, upd_ne n2]; exact q
theorem opened_closed {C dx : Addr} {fs : List (Str × V)} (ea : H a = some (.ext (meA a C dx))) (ed : H dx = some (.ext (meD dx fs))) (ne : dx ≠ a) : opened (closed H a C dx fs) a C dx fs = H := by
  funext x
  unfold opened closed
  by_cases h1 : x = a
  · subst h1; rw [upd_same, ea]
  · rw [upd_ne h1]
    by_cases h2 : x = dx
    · subst h2; rw [upd_same, ed]
    · rw [upd_ne h2, upd_ne h1, upd_ne h2]
end
def tCv (X : Cx) (t : TE) : TE := fun σ H Q => t σ H fun v H1 => ∃ H2, Cv X H1 H2 ∧ Q v H2
theorem pe_cv {X : Cx} {e : Expr} {t : TE} (h : PE X e t) : PE X e (tCv X t) := ⟨fun pins s σ H Q I hw =>
  thn (h.run pins s σ H _ I hw) fun u s1 ⟨v, H1, I1, r1, H2, c, q1⟩ => ⟨v, H2, c pins σ s1 I1, r1, q1⟩⟩
def tsCv (X : Cx) (t : TS) : TS := fun N σ H => t { N with nx := fun σ1 H1 => ∃ H2, Cv X H1 H2 ∧ N.nx σ1 H2 } σ H
theorem ps_cv {X : Cx} {st : Stmt} {t : TS} (h : PS X st t) : PS X st (tsCv X t) := ⟨fun pins s σ H D I hw =>
  thn (h.run pins s σ H _ I hw) fun f s1 q => by
    cases f with
    | next =>
      obtain ⟨σ', H', I', H2, c, q⟩ := q
      exact ⟨σ', H2, c pins σ' s1 I', q⟩
    | brk => exact q
    | cont => exact q
    | ret u => exact q⟩
end Fd
set_option Elab.async false
set_option linter.all false
set_option maxRecDepth 100000
set_option maxHeartbeats 4000000
namespace Fd
open PySem PySem.Spec PyProof.Rows L2
theorem Cv.refl {X : Cx} {H : Hp} : Cv X H H := fun _ _ _ I => I
/-! ## x.f -/
def fldM (cs : List Nat) (f : Str) : RV → M RV
  | .sv .hand => fun s => match s.hd with
    | some (.me c ds) => if cs.contains c = true then match ds.lookup f with
      | some d => .ok (RD d) s
      | none => .bad
      else .bad
    | _ => .bad
  | .sv (.dat (.obj c ds)) => fun s => if cs.contains c = true then match ds.lookup f with
    | some d => .ok (RD d) s
    | none => .bad
    else .bad
  | _ => stuck
/-- what is asked of the classes with an attribute f -/
def FldC (K : PySem.W.Frag) (ct : Nat → Addr) (cs : List Nat) (f : Str) : Prop := ∀ c, cs.contains c = true → Cls K (ct c) ∧ NoAttr K (ct c) f
section
variable {X : Cx} {ct : Nat → Addr} {W : WX} {pos : Pos} {e : Expr} {m : M RV} {f : Str} {cs : List Nat}
theorem ed_fld (T : FldC X.K ct cs f) (h : ED X ct W e m) (hb : attributeBase e f X.env (eval e X.env) = eval e X.env := by rfl) : ED X ct W (.Attribute e f pos) (bnd m (fldM cs f)) := by
  obtain ⟨t, p, r⟩ := h.ex
  refine ⟨_, pe_cv (pe_fld (pe_cv p) hb), fun σ H γ s Q R h => ?_⟩
  refine r σ H γ s _ R (use_e h (fun _ _ z => z) fun x s1 v γ1 H1 t1 R1 q1 g => ?_)
  unfold fldM at g
  split at g
  · split at g
    · rename_i c ds eh
      by_cases hc : cs.contains c = true
      · rw [if_pos hc] at g
        cases el : ds.lookup f with
        | none => simp only [el] at g; exact False.elim g
        | some d =>
          simp only [el] at g
          have q1' : v = .ref γ1.ah := q1
          subst q1'
          obtain ⟨fs, ea, ed, ne, en, rp⟩ := R1.hd _ eh
          obtain ⟨w, lw, rw'⟩ := lookup_rep en rp el
          obtain ⟨k1, k2⟩ := T c hc
          refine ⟨closed H1 γ1.ah (ct c) γ1.g fs, cv_close ea ed ne, γ1.ah, ct c, γ1.g, fs, w, rfl, upd_same, k1, k2, lw, H1, ?_, g w γ1 H1 t1 R1 rw'⟩
          have := cv_open (X := X) (H := closed H1 γ1.ah (ct c) γ1.g fs) (a := γ1.ah) (C := ct c) (dx := γ1.g) (fs := fs) upd_same
          rw [opened_closed ea ed ne] at this
          exact this
      · rw [if_neg hc] at g; exact False.elim g
    · exact False.elim g
  · rename_i c ds
    by_cases hc : cs.contains c = true
    · rw [if_pos hc] at g
      cases el : ds.lookup f with
      | none => simp only [el] at g; exact False.elim g
      | some d =>
        simp only [el] at g
        have q1' : RepD X.K ct H1 v (.obj c ds) := q1
        cases q1' with
        | obj ea nf en rp =>
          obtain ⟨w, lw, rw'⟩ := lookup_rep en rp el
          obtain ⟨k1, k2⟩ := T c hc
          exact ⟨H1, .refl, _, _, _, _, w, rfl, ea, k1, k2, lw, H1, .refl, g w γ1 H1 t1 R1 rw'⟩
    · rw [if_neg hc] at g; exact False.elim g
  · exact False.elim g
end
/-! ## self.f = e in an __init__ -/
def putD (f : Str) (v : D) : List (Str × D) → List (Str × D)
  | [] => [(f, v)]
  | (g, x) :: r => if g = f then (g, v) :: r else (g, x) :: putD f v r
theorem put_rep {K : PySem.W.Frag} {ct : Nat → Addr} {H : Hp} {f : Str} {v : V} {d : D} (rv : RepD K ct H v d) : ∀ {fs : List (Str × V)} {ds : List (Str × D)}, fs.map (·.1) = ds.map (·.1) → RepDs K ct H (fs.map (·.2)) (ds.map (·.2)) →
    (putF f v fs).map (·.1) = (putD f d ds).map (·.1) ∧ RepDs K ct H ((putF f v fs).map (·.2)) ((putD f d ds).map (·.2)) := by
  intro fs
  induction fs with
  | nil =>
    intro ds e r
    cases ds with
    | nil => exact ⟨rfl, .cons rv .nil⟩
    | cons _ _ => cases e
  | cons p fs ih =>
    intro ds e r
    cases ds with
    | nil => cases e
    | cons q ds =>
      obtain ⟨g, x⟩ := p
      obtain ⟨g', y⟩ := q
      have e' : g :: fs.map (·.1) = g' :: ds.map (·.1) := e
      obtain ⟨e1, e2⟩ := List.cons.inj e'
      subst e1
      have r' : RepDs K ct H (x :: fs.map (·.2)) (y :: ds.map (·.2)) := r
      cases r' with
      | cons r1 r2 =>
        obtain ⟨i1, i2⟩ := ih e2 r2
        unfold putF putD
        by_cases h : g = f
        · rw [if_pos h, if_pos h]
          exact ⟨by simp [e2], .cons rv r2⟩
        · rw [if_neg h, if_neg h]
          exact ⟨by simp [i1], .cons r1 i2⟩
theorem put_ne {f : Str} {v : V} {fs : List (Str × V)} : putF f v fs ≠ [] := by
  cases fs with
  | nil => exact fun z => by cases z
  | cons p r => obtain ⟨g, x⟩ := p; unfold putF; split <;> exact fun z => by cases z
def setMe (c0 : Nat) (i : Nat) (f : Str) (m : M RV) : M Fl := bnd m fun y => match y with
  | .sv (.dat d) => bnd (getV i) fun x => match x with
    | .sv .hand => fun s => match s.hd with
      | some (.me c ds) => if c = c0 ∧ ds.length < 900 then .ok .nx { s with hd := some (.me c (putD f d ds)) } else .bad
      | _ => .bad
    | _ => stuck
  | _ => stuck
theorem opened_put {H : Hp} {a C dx : Addr} {fs fs' : List (Str × V)} (ne : dx ≠ a) : opened (upd (closed H a C dx fs) a (.ins C dx fs')) a C dx fs' = opened H a C dx fs' := by
  funext x
  unfold opened closed
  by_cases h1 : x = a
  · subst h1; rw [upd_same, upd_same]
  · rw [upd_ne h1, upd_ne h1]
    by_cases h2 : x = dx
    · subst h2; rw [upd_same, upd_same]
    · rw [upd_ne h2, upd_ne h2, upd_ne h1, upd_ne h1, upd_ne h2]
section
variable {X : Cx} {ct : Nat → Addr} {W : WX} {pos pos' : Pos} {e o : Expr} {m : M RV} {f : Str} {c0 i : Nat}
theorem me_step {K : PySem.W.Frag} {γ : G} {s : S} {H : Hp} {σ : L2.St} {c : Nat} {ds ds' : List (Str × D)} (R : Rep K ct γ H σ s) (eh : s.hd = some (.me c ds)) {fs' : List (Str × V)} (en : fs'.map (·.1) = ds'.map (·.1)) (rp : RepDs K ct H (fs'.map (·.2)) (ds'.map (·.2))) :
    Step γ γ s { s with hd := some (.me c ds') } H (opened H γ.ah (ct c) γ.g fs') ∧ Rep K ct γ (opened H γ.ah (ct c) γ.g fs') σ { s with hd := some (.me c ds') } := by
  have nn : s.hd ≠ none := by rw [eh]; exact fun z => by cases z
  obtain ⟨fs, ea, ed, ne, _, _⟩ := R.hd _ eh
  have away : ∀ x, x ≠ γ.ah → x ≠ γ.g → opened H γ.ah (ct c) γ.g fs' x = H x := fun x n1 n2 => by unfold opened; rw [upd_ne n1, upd_ne n2]
  have ki : KeepI H (opened H γ.ah (ct c) γ.g fs') := fun x u e i => by
    rw [away x]
    · exact e
    · rintro rfl; rw [ea] at e; cases e; exact i
    · rintro rfl; rw [ed] at e; cases e; exact i
  have st : Step γ γ s { s with hd := some (.me c ds') } H (opened H γ.ah (ct c) γ.g fs') := by
    refine ⟨fun x u e n => ?_, fun x z => ?_, ki, fun x z => ?_, fun _ _ => rfl, Nat.le_refl _, rfl, fun _ h1 h2 => absurd h2 (Nat.not_lt.mpr h1)⟩
    · rw [away x (fun z => n (.inr ⟨nn, .inl z⟩)) (fun z => n (.inr ⟨nn, .inr z⟩))]; exact e
    · rcases z with ⟨j, lj, rfl⟩ | ⟨_, z⟩
      · exact .inl (.inl ⟨j, lj, rfl⟩)
      · exact .inl (.inr ⟨nn, z⟩)
    · unfold opened upd
      split
      · exact fun q => by cases q
      · split
        · exact fun q => by cases q
        · exact z
  refine ⟨st, R.len, fun j x ex => ?_, fun j ys ey => ?_, R.inj, fun h2 e2 => ?_, fun _ j lj => R.hdk nn j lj⟩
  · obtain ⟨v, q, r⟩ := R.env j x ex
    exact ⟨v, q, r.mono st⟩
  · obtain ⟨vs, q, r⟩ := R.mem j ys ey
    have hk := R.hdk nn j ⟨ys, ey⟩
    exact ⟨vs, by rw [away _ hk.1 hk.2]; exact q, RepSs.mono st r⟩
  · have e2' : some (Hd.me c ds') = some h2 := e2
    cases e2'
    exact ⟨fs', upd_same, by unfold opened; rw [upd_ne ne, upd_same], ne, en, RepDs.mono ki rp⟩
theorem sd_setMe {x : Str} {np : Pos} (k1 : Cls X.K (ct c0)) (k2 : NoAttr X.K (ct c0) f) (h : ED X ct W e m) (hp : PE X (.Name x np) (tVar i)) (hs : swapsWith e (some (.Attribute (.Name x np) f pos')) pos.line X.env = pure false := by rfl) :
    SD X ct W (.Assign [.Attribute (.Name x np) f pos'] e pos) (setMe c0 i f m) := by
  obtain ⟨t, p, r⟩ := h.ex
  refine ⟨_, ps_cv (ps_fld (pe_cv hp) p hs), fun N σ H γ s R h => ?_⟩
  refine r σ H γ s _ R (use_e h (fun _ _ z => z.at) fun y s1 v γ1 H1 t1 R1 q1 g => ?_)
  split at g
  · rename_i d
    unfold getV bnd at g
    cases e1 : s1.env[i]? with
    | none => simp only [e1] at g; exact False.elim g
    | some o =>
      cases o with
      | none => simp only [e1] at g; exact False.elim g
      | some x =>
        simp only [e1] at g
        cases x with
        | dat d => exact False.elim g
        | ref k => exact False.elim g
        | fn c => exact False.elim g
        | hand =>
          dsimp only at g
          obtain ⟨u, eu, ru⟩ := R1.env i _ e1
          have ru' : u = .ref γ1.ah := ru
          subst ru'
          cases eh : s1.hd with
          | none => simp only [eh] at g; exact False.elim g
          | some hh =>
            cases hh with
            | hand h0 => simp only [eh] at g; exact False.elim g
            | dic kds => simp only [eh] at g; exact False.elim g
            | me c ds =>
              simp only [eh] at g
              by_cases cc : c = c0 ∧ ds.length < 900
              · rw [if_pos cc] at g
                obtain ⟨rfl, hl⟩ := cc
                obtain ⟨fs, ea, ed, ne, en, rp⟩ := R1.hd _ eh
                obtain ⟨n1, n2⟩ := put_rep (f := f) (v := v) (d := d) q1 en rp
                obtain ⟨st, R2⟩ := me_step R1 eh n1 n2
                have hfl : fs.length < 1000 := by
                  have := congrArg List.length en
                  simp at this
                  omega
                refine ⟨_, eu, closed H1 γ1.ah (ct c) γ1.g fs, cv_close ea ed ne, γ1.ah, ct c, γ1.g, fs, rfl, upd_same, k1, k2, hfl, _, ?_, g σ γ1 _ (t1.trans st) R2⟩
                have := cv_open (X := X) (H := upd (closed H1 γ1.ah (ct c) γ1.g fs) γ1.ah (.ins (ct c) γ1.g (putF f v fs))) (a := γ1.ah) (C := ct c) (dx := γ1.g) (fs := putF f v fs) upd_same
                rw [opened_put ne] at this
                exact this
              · rw [if_neg cc] at g; exact False.elim g
  · exact False.elim g
end
end Fd
set_option Elab.async false
set_option linter.all false
set_option maxRecDepth 100000
set_option maxHeartbeats 4000000
namespace Fd
open PySem PySem.Spec PyProof.Rows L2
/-! ## one reading or the other -/
def altM {α : Type} (m1 m2 : M α) : M α := fun s => match m1 s with
  | .bad => m2 s
  | o => o
section
variable {X : Cx} {ct : Nat → Addr} {W : WX} {e : Expr} {m1 m2 : M RV}
theorem ed_alt (h1 : ED X ct W e m1) (h2 : ED X ct W e m2) : ED X ct W e (altM m1 m2) := by
  obtain ⟨t1, p1, r1⟩ := h1.ex
  obtain ⟨t2, p2, r2⟩ := h2.ex
  refine ⟨fun σ H Q => t1 σ H Q ∨ t2 σ H Q, ⟨fun pins s σ H Q I h => h.elim (p1.run pins s σ H Q I) (p2.run pins s σ H Q I)⟩, fun σ H γ s Q R g => ?_⟩
  unfold altM at g
  cases e1 : m1 s with
  | bad => rw [e1] at g; exact .inr (r2 σ H γ s Q R g)
  | ok a s' => rw [e1] at g; exact .inl (r1 σ H γ s Q R (by rw [e1]; exact g))
  | exc a s' => rw [e1] at g; exact .inl (r1 σ H γ s Q R (by rw [e1]; exact g))
theorem td_alt {m1 m2 : M Bool} (h1 : TD X ct W e m1) (h2 : TD X ct W e m2) : TD X ct W e (altM m1 m2) := by
  obtain ⟨t1, p1, r1⟩ := h1.ex
  obtain ⟨t2, p2, r2⟩ := h2.ex
  refine ⟨fun σ H Q => t1 σ H Q ∨ t2 σ H Q, ⟨fun pins s σ H Q I h => h.elim (p1.run pins s σ H Q I) (p2.run pins s σ H Q I)⟩, fun σ H γ s Q R g => ?_⟩
  unfold altM at g
  cases e1 : m1 s with
  | bad => rw [e1] at g; exact .inr (r2 σ H γ s Q R g)
  | ok a s' => rw [e1] at g; exact .inl (r1 σ H γ s Q R (by rw [e1]; exact g))
  | exc a s' => rw [e1] at g; exact .inl (r1 σ H γ s Q R (by rw [e1]; exact g))
end
/-! ## making an object -/
section
variable (K : PySem.W.Frag) (ct : Nat → Addr)
def GoodI (x dx : Addr) (H : Hp) (o : Res) (Q : VK) (E : XK) : Prop := match o with
  | .ret (.dat d) => ∀ H', (∀ a o, H a = some o → a ≠ x → a ≠ dx → H' a = some o) → RepD K ct H' (.ref x) d → Q .non H'
  | .exc y => ∀ cl d H', (∀ a o, H a = some o → a ≠ x → a ≠ dx → H' a = some o) → RepX K ct H' y cl d → E cl d H'
  | _ => False
def spI (c n : Nat) (F : List D → Res) : Sp := fun vs H Q E => vs.length = n + 1 ∧ ∃ x dx us ds, vs = .ref x :: us ∧ H x = some (.ins (ct c) dx []) ∧ H dx = some (.own x) ∧ dx ≠ x ∧ RepDs K ct H us ds ∧ GoodI K ct x dx H (F ds) Q E
end
def startI (n c : Nat) (ds : List D) : S := ⟨(SV.hand :: ds.map SV.dat).map some ++ List.replicate (n - (ds.length + 1)) none, [], some (.me c [])⟩
def resI : Out Fl → Res
  | .ok .nx s => match s.hd with
    | some (.me c fs) => if fs.isEmpty = true then .bad else .ret (.dat (.obj c fs))
    | _ => .bad
  | .exc x _ => .exc x
  | _ => .bad
def runI (n c : Nat) (m : M Fl) (ds : List D) : Res := resI (m (startI n c ds))
/-- the end of an __init__ is seen otherwise -/
def tsCvE (X : Cx) (t : TS) : TS := fun N σ H => ∃ H0, Cv X H H0 ∧ t { N with nx := fun σ1 H1 => ∃ H2, Cv X H1 H2 ∧ N.nx σ1 H2 } σ H0
theorem pss_cvE {X : Cx} {sts : List Stmt} {t : TS} (h : PSs X sts t) : PSs X sts (tsCvE X t) := ⟨fun pins s σ H D I ⟨H0, c0, hw⟩ =>
  thn (h.run pins s σ H0 _ (c0 pins σ s I) hw) fun f s1 q => by
    cases f with
    | next =>
      obtain ⟨σ', H', I', H2, c, q⟩ := q
      exact ⟨σ', H2, c pins σ' s1 I', q⟩
    | brk => exact q
    | cont => exact q
    | ret u => exact q⟩
section
variable {P : Program} {w : World} {K : PySem.W.Frag} {mg : Str → Option Value} {base : Heap} {x qual : Str} {params : Arguments} {body : List Stmt} {scope : Scope} {dvs : List V} {kws : List (Str × V)} {f : Addr} {fd : FuncData} {N ps : List Str} {k n c : Nat} {ct : Nat → Addr} {m : M Fl}
theorem fnI (F : FunD K x qual params body scope dvs kws f fd) (S : FnScope N ps scope) (hn : ps.length = n + 1)
    (hb : ∀ (cdv : Value) (A : Around) (outer : List Env) (s : Shared) (H : Hp) (E : XK), Room k (A.deeper (envOfC qual scope s.heap.objs.size f cdv)) →
      SDs (cxOf (L2.CX P w) P w K mg base N qual scope f cdv A outer s H E) ct (fun cls d _ H => E cls d H) body m) : FnOk P w K mg base (L2.CX P w) (k + 1) f fd ps (spI K ct c n (runI N.length c m)) := by
  refine F.ok S (fun vs H Q E h => h.1.trans hn.symm) fun cdv A outer s H vs Q E hr h => ?_
  obtain ⟨hl, xa, dx, us, ds, rfl, ex, ed, ne, rp, g⟩ := h
  obtain ⟨t, p, r⟩ := (hb cdv A outer s H E hr).ex
  refine ⟨_, pss_cvE p, opened H xa (ct c) dx [], cv_open ex, ?_⟩
  let γ0 : G := ⟨fun _ => 0, xa, dx⟩
  have away : ∀ y, y ≠ xa → y ≠ dx → opened H xa (ct c) dx [] y = H y := fun y n1 n2 => by unfold opened; rw [upd_ne n1, upd_ne n2]
  have ki : KeepI H (opened H xa (ct c) dx []) := fun y u e i => by
    rw [away y]
    · exact e
    · rintro rfl; rw [ex] at e; cases e; exact i rfl
    · rintro rfl; rw [ed] at e; cases e; exact i
  have hx0 : opened H xa (ct c) dx [] xa = some (.ext (meA xa (ct c) dx)) := upd_same
  have hd0 : opened H xa (ct c) dx [] dx = some (.ext (meD dx [])) := by unfold opened; rw [upd_ne ne, upd_same]
  have R0 : Rep K ct γ0 (opened H xa (ct c) dx []) (L2.start N (.ref xa :: us)) (startI N.length c ds) := by
    have h1 : Paired (RepS K ct γ0 0 (opened H xa (ct c) dx [])) (.ref xa :: us) (SV.hand :: ds.map SV.dat) := .cons rfl (rep_map (RepDs.mono ki rp))
    have := start_rep (N := N) (K := K) (ct := ct) (γ := γ0) (hd := some (.me c [])) h1 (fun h e => by cases e; exact ⟨[], hx0, hd0, ne, rfl, .nil⟩)
    simpa [startI] using this
  refine r _ _ _ γ0 _ R0 ?_
  have own0 : ∀ a, Own γ0 (startI N.length c ds) a → a = xa ∨ a = dx := fun a z => by
    rcases z with ⟨j, ⟨ys, e⟩, _⟩ | ⟨_, z⟩
    · simp [startI] at e
    · exact z
  have same : ∀ {γ' s' H'}, Step γ0 γ' (startI N.length c ds) s' (opened H xa (ct c) dx []) H' → ∀ a o, H a = some o → a ≠ xa → a ≠ dx → H' a = some o := fun st a o e n1 n2 =>
    st.keep a o (by rw [away a n1 n2]; exact e) fun z => (own0 a z).elim n1 n2
  unfold runI resI at g
  unfold GoodS
  cases e1 : m (startI N.length c ds) with
  | bad => rw [e1] at g; exact False.elim g
  | exc y s1 =>
    rw [e1] at g
    exact fun cl d σ' γ' H' st R' q => g cl d H' (same st) q
  | ok fl s1 =>
    rw [e1] at g
    cases fl with
    | bk => exact False.elim g
    | ct => exact False.elim g
    | rt rr => exact False.elim g
    | nx =>
      intro σ' γ' H' st R'
      dsimp only at g
      cases eh : s1.hd with
      | none => rw [eh] at g; exact False.elim g
      | some hh =>
        cases hh with
        | hand h0 => rw [eh] at g; exact False.elim g
        | dic kds => rw [eh] at g; exact False.elim g
        | me c1 fs =>
          rw [eh] at g
          dsimp only at g
          by_cases z : fs.isEmpty = true
          · rw [if_pos z] at g; exact False.elim g
          · rw [if_neg z] at g
            obtain ⟨vfs, ea, eg, ne', en, rp'⟩ := R'.hd _ eh
            have h1 : γ'.ah = xa := st.ah
            refine ⟨closed H' γ'.ah (ct c1) γ'.g vfs, cv_close ea eg ne', ?_⟩
            have ki' : KeepI H' (closed H' γ'.ah (ct c1) γ'.g vfs) := fun y u e i => by
              unfold closed
              rw [upd_ne, upd_ne]
              · exact e
              · rintro rfl; rw [eg] at e; cases e; exact i
              · rintro rfl; rw [ea] at e; cases e; exact i
            have nz : vfs ≠ [] := fun q => by
              rw [q] at en
              have : fs = [] := by simpa using en.symm
              rw [this] at z; exact z rfl
            -- the dict is the one that was laid
            have hg : γ'.g = dx ∨ H γ'.g = none := by
              rcases st.own γ'.g (.inr ⟨by rw [eh]; exact (fun z => by cases z), .inr rfl⟩) with q | q
              · rcases own0 _ q with q | q
                · exact absurd (q.trans h1.symm) ne'
                · exact .inl q
              · right
                cases e2 : H γ'.g with
                | none => rfl
                | some o =>
                  exfalso
                  have n1 : γ'.g ≠ xa := fun q => ne' (q.trans h1.symm)
                  by_cases n2 : γ'.g = dx
                  · rw [n2, hd0] at q; cases q
                  · rw [away _ n1 n2, e2] at q; cases q
            refine g _ (fun a o e n1 n2 => ?_) (h1 ▸ RepD.obj upd_same nz en (RepDs.mono ki' rp'))
            have e3 := same st a o e n1 n2
            unfold closed
            rw [upd_ne (by rw [h1]; exact n1), upd_ne]
            · exact e3
            · intro q
              rcases hg with hg | hg
              · exact n2 (q.trans hg)
              · rw [← q, e] at hg; cases hg
end
/-! the call -/
def tMakeS (C : Addr) (sp : Sp) (dvs : List V) (E : L2.St → XK) (t : TA) : TE := fun σ H Q => t σ H fun vs H1 => ∀ x dx, H1 x = none → H1 dx = none → dx ≠ x →
  sp (.ref x :: (vs ++ dvs)) (upd (upd H1 dx (.own x)) x (.ins C dx [])) (fun v H2 => v = .non ∧ Q (.ref x) H2) (E σ)
section
variable {X : Cx} {CX : CXT} {k : Nat} {f C : Addr} {fd : FuncData} {ps : List Str} {sp : Sp} {dvs : List V} {ds : List Value} {x m : Str} {p pos apos : Pos} {e o : Expr} {es : List Expr} {ta : TE} {t : TA}
theorem run_makeS {E : XK} {pins : List (Addr × Obj)} {σ : L2.St} {H : Hp} {s : Shared} {Q : VK} {us : List Value} {vs : List V} (M : Mk X.K C f) (F : FnOk X.prog X.w X.K X.mg X.base CX k f fd ps sp) (hr : Room (k + 1) X.A) (hb : Binds X.K fd ps ds) (hd : Vals dvs ds)
    (hx : PassesAt CX X σ E) (I : Inv X pins σ H s) (r : Vals vs us)
    (h : ∀ x dx, H x = none → H dx = none → dx ≠ x → sp (.ref x :: (vs ++ dvs)) (upd (upd H dx (.own x)) x (.ins C dx [])) (fun v H2 => v = .non ∧ Q (.ref x) H2) E) :
    wpAny (model X.prog X.w) X.A (call (.ref C) us) (EP X pins σ Q) X.xe s := by
  have hq := h (s.heap.objs.size + 1) s.heap.objs.size (I.hok.fresh (Nat.le_succ _)) (I.hok.fresh (Nat.le_refl _)) (Nat.ne_of_lt (Nat.lt_succ_self _))
  have I2 := Inv.made (C := C) I
  have r2 : Vals (V.ref (s.heap.objs.size + 1) :: (vs ++ dvs)) (Value.ref (s.heap.objs.size + 1) :: (us ++ ds)) := .cons rfl (r.append hd)
  have hl : (Value.ref (s.heap.objs.size + 1) :: us ++ ds).length = ps.length := by
    have e := r2.length
    rw [F.len _ _ _ _ hq] at e
    exact e.symm
  refine wpAny_call (make_map (f := f) I.kIn M.makes M.init (beq_iff_eq.mp M.fn) (codeAny_mono (F.run _ X.stack _ _ ⟨Value.ref (s.heap.objs.size + 1) :: us, []⟩ (Value.ref (s.heap.objs.size + 1) :: (us ++ ds)) _ _ E (hr.make C us [])
    (I2.env0.make C us []) (hb _ (Value.ref (s.heap.objs.size + 1) :: us) I2.kIn hl) r2 hq) fun rr s' hq' => ?_))
  cases rr with
  | error e => exact hx pins _ _ e s' I2 hq'
  | ok fl =>
    cases fl with
    | ret u =>
      obtain ⟨v, H', I3, rv, ev, q3⟩ := I2.after hq'
      subst ev
      exact ⟨rv, ⟨V.ref (s.heap.objs.size + 1), H', I3, rfl, q3⟩⟩
    | next => exact False.elim hq'
    | brk => exact False.elim hq'
    | cont => exact False.elim hq'
theorem pe_makeS {E : L2.St → XK} (M : Mk X.K C f) (F : FnOk X.prog X.w X.K X.mg X.base CX k f fd ps sp) (hr : Room (k + 1) X.A) (hg : Gl X x) (hm : X.mg x = some (.ref C)) (hb : Binds X.K fd ps ds) (hd : Vals dvs ds) (hx : ∀ σ, PassesAt CX X σ (E σ))
    (ha : PA X (e :: es) t) (hdb : (x == ("__debug__" : Str)) = false := by decide) (he : starEach (e :: es) X.env = (false, eval e X.env) :: starEach es X.env := by rfl) (hpl : (backTo pos (starEach es X.env)).any (·.1) = false := by rfl) :
    PE X (.Call (.Name x p) (e :: es) [] pos) (tMakeS C sp dvs E t) := by
  refine ⟨fun pins s σ H Q I h => ?_⟩
  refine wpAny_Call_Name_kw (ld_glob I hg hm ?_ hdb)
  refine PySem.W.callWith_K (h₀ := X.base) I.ok.mod.kin M.kp (thn (ha.run pos pins s σ H _ I h) fun us s1 ⟨vs, H1, I1, r, q⟩ => ⟨I1.kIn, ?_⟩) he hpl
  exact run_makeS M F hr hb hd (hx σ) I1 r q
end
structure OkI (P : Program) (w : World) (K : PySem.W.Frag) (mg : Str → Option Value) (base : Heap) (ct : Nat → Addr) (x : Str) (c n k : Nat) (F : List D → Res) (dd : List D) : Prop where
  ex : ∃ (f : Addr) (fd : FuncData) (ps : List Str) (ds : List Value) (dvs : List V), Mk K (ct c) f ∧ mg x = some (.ref (ct c)) ∧ FnOk P w K mg base (L2.CX P w) k f fd ps (spI K ct c n F) ∧ Binds K fd ps ds ∧ Vals dvs ds ∧ ∀ H, RepDs K ct H dvs dd
section
variable {X : Cx} {ct : Nat → Addr} {W : WX} {pos p : Pos} {x : Str} {e : Expr} {es : List Expr} {mA : M (List SV)} {k n c0 : Nat} {F : List D → Res} {dd : List D}
def datRes (F : List D → Res) (ds : List D) : Res := match F ds with
  | .ret (.new _) => .bad
  | r => r
theorem made_same {H : Hp} {C xa dx : Addr} (h1 : H xa = none) (h2 : H dx = none) : KeepI H (upd (upd H dx (.own xa)) xa (.ins C dx [])) := fun y u e _ => by
  rw [upd_ne (ne_of_none e h1), upd_ne (ne_of_none e h2)]; exact e
theorem ed_makeP (O : OkI X.prog X.w X.K X.mg X.base ct x c0 n k F dd) (hr : Room (k + 1) X.A) (tk : Takes X W) (ha : AD X ct W (e :: es) mA) (hg : Gl X x := by rfl) (hdb : (x == ("__debug__" : Str)) = false := by decide) (he : starEach (e :: es) X.env = (false, eval e X.env) :: starEach es X.env := by rfl) (hpl : (backTo pos (starEach es X.env)).any (·.1) = false := by rfl) :
    ED X ct W (.Call (.Name x p) (e :: es) [] pos) (bnd mA (callM n (datRes F) dd)) := by
  obtain ⟨f, fd, ps, ds, dvs, M, hm, FK, hb, hd, hdd⟩ := O.ex
  obtain ⟨t, pt, r⟩ := ha.ex
  refine ⟨_, pe_makeS M FK hr hg hm hb hd (fun σ => passAt tk σ) pt hdb he hpl, fun σ H γ s Q R h => ?_⟩
  refine r σ H γ s _ R (use_a h (fun _ _ z => z) fun xs s1 vs γ1 H1 t1 R1 q1 g => ?_)
  unfold callM at g
  cases e1 : datL xs with
  | none => simp only [e1] at g; exact False.elim g
  | some es =>
    simp only [e1] at g
    have w := (datL_rep e1 q1).append (hdd H1)
    by_cases c : (es ++ dd).length = n
    · rw [if_pos c] at g
      intro xa dx h1 h2 ne
      refine ⟨by rw [List.length_cons, w.length, c], xa, dx, _, _, rfl, upd_same, by rw [upd_ne ne, upd_same], ne, RepDs.mono (made_same h1 h2) w, ?_⟩
      have g1 := good_res R1 (Good.step t1 g)
      have same : ∀ {H' : Hp}, (∀ a o, upd (upd H1 dx (.own xa)) xa (.ins (ct c0) dx []) a = some o → a ≠ xa → a ≠ dx → H' a = some o) → Same H1 H' := fun k a o e => k a o (by rw [upd_ne (ne_of_none e h1), upd_ne (ne_of_none e h2)]; exact e) (ne_of_none e h1) (ne_of_none e h2)
      unfold datRes at g1
      cases e2 : F (es ++ dd) with
      | bad => rw [e2] at g1; exact g1
      | exc y => rw [e2] at g1; exact fun cl d H' k q => g1 cl d H' (same k) q
      | ret rr =>
        rw [e2] at g1
        cases rr with
        | dat d => exact fun H' k q => ⟨rfl, g1 _ H' (same k) q⟩
        | new ds => exact False.elim g1
    · rw [if_neg c] at g; exact False.elim g
end
end Fd
set_option Elab.async false
set_option linter.all false
set_option maxRecDepth 100000
set_option maxHeartbeats 4000000
namespace PySem.W
open PySem PySem.Calls PyProof.Rows Builtin
theorem looks_ty {M : Model} {s : Shared} {u : Value} {T : String} (h : s.TypeIs u T) : Looks M s.heap (typeOf u) (.type T) := by
  cases u with
  | ref a =>
    obtain ⟨o, e, c⟩ := h
    exact c ▸ (Looks.ld e).andThen .now
  | _ => exact Looks.of_pure h
section
variable {prog : Program} {w : World} {A : Around} {E : Value → Shared → Prop} {s : Shared} {K : Frag} {x C L f : Addr} {h₀ : Heap} {m : Str → Option Value} {ox : Obj} {od : Option Obj} {b tb : Value}
theorem ne_body {Q : Fin → Shared → Prop} (X : K.In s.heap) (I : InstAt s.heap x ox C od) (hs : findIn K (.ref C) "__eq__" = some (some (.ref f))) (hf : isFn K (.ref f) = true) (hu : A.units < cLine)
    (h : wpAny (model prog w) A (call (.ref f) [.ref x, b]) (fun v s' => ∃ r, v = .bool r ∧ Q (.done (.ret (.bool (!r)))) s') E s) :
    wpAny (model prog w) A (Builtin.«object.__ne__» ⟨[.ref x, b], []⟩) Q E s := by
  obtain ⟨hp, g, d, t, os⟩ := s
  unfold Builtin.«object.__ne__»
  repeat (first
    | with_reducible refine wpAny_cRoomFor hu ?_
    | (refine wpAny_bind (m := callSpecialIfBound? (.ref x) (Str.ofString "__eq__") [b])
        (ifBound_K X I hs hf (wpAny_mono h (fun r s' hr => by
          obtain ⟨b, rfl, hq⟩ := hr
          repeat (first | exact hq | exact wpAny_pure hq | exact wpAny_truthy_bool hq | (refine wpAny_bind (m := truthy (.bool _)) (wpAny_truthy_bool ?_)) | wp_step)) fun _ _ e => e)))
    | wp_step)
theorem ne_K {Q : Value → Shared → Prop} (hu : A.units + 1 < cLine) (F : Fr h₀ L s.heap m) (X₀ : K.In h₀) (I : InstAt s.heap x ox C od) (hb : Looks (model prog w) s.heap (typeOf b) tb) (hn : notFirst K C tb = true)
    (hne : findIn K (.ref C) "__ne__" = some (some (.builtin "object.__ne__"))) (hm : mroIn K C (.type "object") = some true) (hs : findIn K (.ref C) "__eq__" = some (some (.ref f))) (hf : isFn K (.ref f) = true)
    (h : wpAny (model prog w) A.in1 (call (.ref f) [.ref x, b]) (fun v s' => ∃ r, v = .bool r ∧ Q (.bool (!r)) s') E s) : wpAny (model prog w) A (richCompare .NotEq (.ref x) b) Q E s := by
  have X := X₀.keeps F.keep
  have inst : Looks (model prog w) s.heap (isInstance (.ref x) (.type "object")) true := I.type.andThen (looks_mroIn X hm)
  have run : wpAny (model prog w) A (call (.builtin "object.__ne__") ([.ref x] ++ [b])) (fun v s' => v ≠ .notImplemented ∧ Q v s') E s := by
    refine wpAny_call (codeAny_call_builtin PySem.F.slot_tuple_iterator_ne.plain PySem.F.cmpEntry_ne (@check_slot (model prog w) _ _ _ "object.__ne__" "object" "__ne__" (.ref x) [b] [] _ (by decide +kernel) (by decide +kernel) inst (PySem.F.cmpArgs_ne _ _) ?_))
    refine ne_body X I hs hf hu (wpAny_mono h (fun v s' hv => ?_) fun _ _ e => e)
    obtain ⟨r, rfl, hq⟩ := hv
    exact ⟨r, rfl, (fun z => nomatch z), hq⟩
  have one : wpAny (model prog w) A (tryCompare (.ref x) "__ne__" b) (fun r s' => ∃ v, r = some v ∧ Q v s') E s := by
    have cs : wpAny (model prog w) A (callSpecialIfBound? (.ref x) "__ne__" [b]) (fun r s' => ∃ v, r = some v ∧ v ≠ .notImplemented ∧ Q v s') E s := by
      have fin : wpAny (model prog w) A (call (.builtin "object.__ne__") ([.ref x] ++ [b]) >>= fun v => pure (some v)) (fun r s' => ∃ v, r = some v ∧ v ≠ .notImplemented ∧ Q v s') E s :=
        wpAny_bind (wpAny_mono run (fun v s' hv => wpAny_pure ⟨v, rfl, hv⟩) fun _ _ e => e)
      simp only [callSpecialIfBound?, bindSpecialIfBound?]
      refine wpAny_holding (wpAny_bind (wpAny_bind (wpAny_bind (I.type.here ((looks_findIn X hne).here ?_)))))
      refine wpAny_bind (wpAny_askSetting (wpAny_ite ?_))
      simp only [PySem.F.slot_tuple_iterator_ne.bind]
      split
      · exact wpAny_bind (wpAny_pure (wpAny_pure (by exact fin)))
      · exact wpAny_tryCatch (wpAny_bind (wpAny_pure (wpAny_pure (by exact fin))))
    unfold tryCompare
    refine wpAny_bind (wpAny_mono cs (fun r s' z => ?_) fun _ _ e => e)
    obtain ⟨v, rfl, n, q⟩ := z
    cases v <;> first | exact absurd rfl n | exact wpAny_pure ⟨_, rfl, q⟩
  unfold richCompare
  simp only [oneThing_ref]
  refine wpAny_holding (wpAny_bind (wpAny_cRoomFor (Nat.lt_of_succ_lt hu) ?_))
  refine wpAny_bind (I.type.here (wpAny_bind (hb.here ?_)))
  split
  · rename_i q
    have e : subIn K tb (.ref C) = some false := by
      rcases Bool.or_eq_true_iff.mp hn with e | e
      · rw [beq_iff_eq.mp e] at q; simp at q
      · exact beq_iff_eq.mp e
    refine wpAny_bind ((looks_subIn X e).here ?_)
    simp only [Bool.false_eq_true, if_false]
    refine wpAny_bind (wpAny_mono one (fun r s' z => ?_) fun _ _ e => e)
    obtain ⟨v, rfl, hq⟩ := z
    exact wpAny_pure hq
  · refine wpAny_bind (wpAny_pure ?_)
    simp only [Bool.false_eq_true, if_false]
    refine wpAny_bind (wpAny_mono one (fun r s' z => ?_) fun _ _ e => e)
    obtain ⟨v, rfl, hq⟩ := z
    exact wpAny_pure hq
end
end PySem.W

namespace Fd
open PySem PySem.Spec PyProof.Rows L2
/-! ## what is asked of the own classes (their numbers lie in lo .. hi - 1) -/
structure ClsT (K : PySem.W.Frag) (ct : Nat → Addr) (c : Nat) : Prop where
  cls : Cls K (ct c)
  ca : PySem.W.findIn K (.ref (ct c)) "__class__" = some (some (.builtin "object.__class__"))
  cn : PySem.W.specialIn K (.builtin "object.__class__") "__get__" = some (some (.builtin "getset_descriptor.__get__"))
  tk : PySem.W.takesIn K (.builtin "object.__class__") = some true
  cm : PySem.W.mroIn K (ct c) (.type "object") = some true
structure AllC (K : PySem.W.Frag) (ct : Nat → Addr) (lo hi : Nat) : Prop where
  cl : ∀ c, lo ≤ c → c < hi → ClsT K ct c
  kb : ∀ c, lo ≤ c → c < hi → ∀ t : Ty, t ≠ .none → PySem.W.kitOne K (.ref (ct c)) (.type t.nm) = some false
  kc : ∀ c, lo ≤ c → c < hi → ∀ t : Ty, PySem.W.kitOne K (.type t.nm) (.ref (ct c)) = some false
  kd : ∀ c d, lo ≤ c → c < hi → lo ≤ d → d < hi → PySem.W.kitOne K (.ref (ct c)) (.ref (ct d)) = some (c == d)
  nb : ∀ c, lo ≤ c → c < hi → ∀ t : Ty, PySem.W.notFirst K (ct c) (.type t.nm) = true
  nd : ∀ c d, lo ≤ c → c < hi → lo ≤ d → d < hi → PySem.W.notFirst K (ct c) (.ref (ct d)) = true
theorem ClsT.ty {K : PySem.W.Frag} {ct : Nat → Addr} {c : Nat} (T : ClsT K ct c) {H : Hp} {v : V} {ds : List (Str × D)} (r : RepD K ct H v (.obj c ds)) : TyX K H v (.ref (ct c)) := by
  cases r with
  | obj ea nf en rp => exact .base (.ins ea T.cls T.ca T.cn T.tk T.cm)
/-! ## isinstance -/
def isiG (kt : Ty → Option Bool) (kc : Nat → Option Bool) : RV → M RV
  | .sv (.dat (.obj c _)) => fun s => match kc c with
    | some b => .ok (RB b) s
    | none => .bad
  | r => fun s => match tyR s r with
    | some t => match kt t with
      | some b => .ok (RB b) s
      | none => .bad
    | none => .bad
section
variable {X : Cx} {ct : Nat → Addr} {W : WX} {pos p p2 : Pos} {e o : Expr} {m : M RV} {lo hi : Nat}
theorem isiG_of {K : PySem.W.Frag} {kt : Ty → Option Bool} {kc : Nat → Option Bool} {L : Value → Bool → Prop} (hk : ∀ t b, kt t = some b → L (.type t.nm) b) (hc : ∀ c b, kc c = some b → ClsT K ct c ∧ L (.ref (ct c)) b)
    {γ : G} {s : S} {H0 H : Hp} {σ : L2.St} (R : Rep K ct γ H σ s) {r : RV} {v : V} (q : RepR K ct γ s H0 H v r) {Q : VK} (g : Good K ct W σ γ s H (isiG kt kc r s) Q) : ∃ t b, TyX K H v t ∧ L t b ∧ Q (.bl b) H := by
  unfold isiG at g
  split at g
  · rename_i c ds
    cases e1 : kc c with
    | none => simp only [e1] at g; exact False.elim g
    | some b =>
      simp only [e1] at g
      obtain ⟨T, l⟩ := hc c b e1
      exact ⟨_, b, T.ty q, l, g _ γ H Step.refl R (repB _)⟩
  · dsimp only at g
    cases e1 : tyR s r with
    | none => simp only [e1] at g; exact False.elim g
    | some t =>
      simp only [e1] at g
      cases e2 : kt t with
      | none => simp only [e2] at g; exact False.elim g
      | some b =>
        simp only [e2] at g
        exact ⟨_, b, tyR_rep R e1 q, hk t b e2, g _ γ H Step.refl R (repB _)⟩
/-- isinstance(x, C), C a class as a value -/
theorem ed_isiG {x : Str} {cv : V} {u : Value} {kt : Ty → Option Bool} {kc : Nat → Option Bool} (k : ClsV cv u) (hk : ∀ t b, kt t = some b → PySem.W.kitOne X.K (.type t.nm) u = some b) (hc : ∀ c b, kc c = some b → ClsT X.K ct c ∧ PySem.W.kitOne X.K (.ref (ct c)) u = some b)
    (hg : Gl X "isinstance") (hm : X.mg "isinstance" = none) (h : ED X ct W e m) (hx : PE X (.Name x p2) (tC cv))
    (he : starEach [e, .Name x p2] X.env = (false, eval e X.env) :: starEach [.Name x p2] X.env := by rfl) (hpl : (backTo pos (starEach [.Name x p2] X.env)).any (·.1) = false := by rfl)
    (he2 : starEach [.Name x p2] X.env = (false, eval (.Name x p2) X.env) :: starEach [] X.env := by rfl) : ED X ct W (.Call (.Name "isinstance" p) [e, .Name x p2] [] pos) (bnd m (isiG kt kc)) := by
  obtain ⟨te, pe, r⟩ := h.ex
  refine ⟨_, pe_callB call_isi hg hm boot_isinstance (pa_cons pe (pa_cons hx pa_nil he2) he) (he := he) (hpl := hpl), fun σ H γ s Q R h => ?_⟩
  refine r σ H γ s _ R (use_e h (fun _ _ z => z) fun x s1 v γ1 H1 t1 R1 q1 g => ?_)
  obtain ⟨t, b, ty, l, q⟩ := isiG_of (L := fun t b => PySem.W.kitOne X.K t u = some b) hk hc R1 q1 (Good.step t1 g)
  exact ⟨v, cv, t, u, b, rfl, k, ty, l, q⟩
end
def inR (lo hi c : Nat) : Bool := decide (lo ≤ c) && decide (c < hi)
theorem inR_of {lo hi c : Nat} (h : inR lo hi c = true) : lo ≤ c ∧ c < hi := by
  unfold inR at h
  simpa using h
/-- a class of the text -/
def ktOwn (_ : Ty) : Option Bool := some false
def kcOwn (lo hi d c : Nat) : Option Bool := if inR lo hi c = true then some (c == d) else none
/-- a built-in type -/
def ktB (u t : Ty) : Option Bool := some (subTy t u)
def kcB (lo hi c : Nat) : Option Bool := if inR lo hi c = true then some false else none
theorem hkOwn {K : PySem.W.Frag} {ct : Nat → Addr} {lo hi d : Nat} (A : AllC K ct lo hi) (hd : inR lo hi d = true) : ∀ t b, ktOwn t = some b → PySem.W.kitOne K (.type t.nm) (.ref (ct d)) = some b := fun t b e => by
  cases e
  exact A.kc d (inR_of hd).1 (inR_of hd).2 t
theorem hcOwn {K : PySem.W.Frag} {ct : Nat → Addr} {lo hi d : Nat} (A : AllC K ct lo hi) (hd : inR lo hi d = true) : ∀ c b, kcOwn lo hi d c = some b → ClsT K ct c ∧ PySem.W.kitOne K (.ref (ct c)) (.ref (ct d)) = some b := fun c b e => by
  unfold kcOwn at e
  split at e
  · rename_i h
    cases e
    exact ⟨A.cl c (inR_of h).1 (inR_of h).2, A.kd c d (inR_of h).1 (inR_of h).2 (inR_of hd).1 (inR_of hd).2⟩
  · cases e
theorem hkB {K : PySem.W.Frag} {u : Ty} (hu : u ≠ .none) : ∀ t b, ktB u t = some b → PySem.W.kitOne K (.type t.nm) (.type u.nm) = some b := fun t b e => by
  cases e
  exact kit_ty (kit_sub t u hu)
theorem hcB {K : PySem.W.Frag} {ct : Nat → Addr} {lo hi : Nat} {u : Ty} (A : AllC K ct lo hi) (hu : u ≠ .none) : ∀ c b, kcB lo hi c = some b → ClsT K ct c ∧ PySem.W.kitOne K (.ref (ct c)) (.type u.nm) = some b := fun c b e => by
  unfold kcB at e
  split at e
  · rename_i h
    cases e
    exact ⟨A.cl c (inR_of h).1 (inR_of h).2, A.kb c (inR_of h).1 (inR_of h).2 u hu⟩
  · cases e
end Fd
set_option Elab.async false
set_option linter.all false
set_option maxRecDepth 100000
set_option maxHeartbeats 4000000
namespace Fd
open PySem PySem.Spec PyProof.Rows L2
section
variable {X : Cx} {ct : Nat → Addr} {W : WX} {pos p p2 apos : Pos} {e o a b : Expr} {es : List Expr} {m mo ma mb : M RV} {mA : M (List SV)} {lo hi c0 n k : Nat} {F : List D → Res} {dd : List D} {mn : Str}
/-! ## x.m(..) -/
structure OkM (P : Program) (w : World) (K : PySem.W.Frag) (mg : Str → Option Value) (base : Heap) (ct : Nat → Addr) (c0 : Nat) (mn : Str) (n k : Nat) (F : List D → Res) (dd : List D) : Prop where
  ex : ∃ (f : Addr) (fd : FuncData) (ps : List Str) (ds : List Value) (dvs : List V), ps.length = n ∧ Meth K (ct c0) mn f ∧ FnOk P w K mg base (L2.CX P w) k f fd ps (spP K ct n F) ∧ Binds K fd ps ds ∧ Vals dvs ds ∧ ∀ H, RepDs K ct H dvs dd
def tMethS (C : Addr) (m : Str) (sp : Sp) (dvs : List V) (E : L2.St → XK) (ta : TE) (t : TA) : TE := fun σ H Q => ta σ H fun x H1 => ∃ a dx fs, x = .ref a ∧ H1 a = some (.ins C dx fs) ∧ fs.lookup m = none ∧
  t σ H1 fun vs H2 => sp (x :: (vs ++ dvs)) H2 Q (E σ)
theorem pe_methS {CX : CXT} {f C : Addr} {fd : FuncData} {ps : List Str} {sp : Sp} {dvs : List V} {ds : List Value} {E : L2.St → XK} {ta : TE} {t : TA} {pl : Sem Bool} (he : PE X o ta) (c : Cls X.K C) (hm : Meth X.K C mn f) (F : FnOk X.prog X.w X.K X.mg X.base CX k f fd ps sp) (hr : Room k X.A) (hb : Binds X.K fd ps ds) (hd : Vals dvs ds) (hx : ∀ σ, PassesAt CX X σ (E σ)) (ha : PA X (e :: es) t)
    (hst : starEach (e :: es) X.env = (false, eval e X.env) :: starEach es X.env := by rfl) (hpl : (backTo pos (starEach es X.env)).any (·.1) = false := by rfl)
    (ht : eval (.Call (.Attribute o mn apos) (e :: es) [] pos) X.env = (do
      let ov ← eval o X.env
      standAt apos.atName
      let (f, first) ← holding [ov] (getMethod ov mn pl)
      callWith pos f first (backTo pos (starEach (e :: es) X.env)) (backToKw pos (keywordEach [] X.env))) := by rfl) :
    PE X (.Call (.Attribute o mn apos) (e :: es) [] pos) (tMethS C mn sp dvs E ta t) := by
  refine ⟨fun pins s σ H Q I h => ?_⟩
  refine PySem.W.methodCall_KW (pl := pl) (thn (he.run pins s σ H _ I h) fun u s1 ⟨x, H1, I1, rx, a, dx, fs, ex, ea, l, q⟩ => ?_) ht
  subst ex
  obtain rfl : u = Value.ref a := rx
  refine getmeth_ok I1 ea c hm l ?_
  refine PySem.W.callWith_K (first := [.ref a]) (h₀ := X.base) I.ok.mod.kin hm.kp (thn (ha.run pos pins s1 σ H1 _ I1 q) fun us s2 ⟨vs, H2, I2, r, q2⟩ => ⟨I2.kIn, ?_⟩) hst hpl
  exact run_fnSD (us := .ref a :: us) (vs := .ref a :: vs) F hr hb hd (hx σ) I2 (.cons rfl r) q2
theorem pe_methS0 {CX : CXT} {f C : Addr} {fd : FuncData} {ps : List Str} {sp : Sp} {dvs : List V} {ds : List Value} {E : L2.St → XK} {ta : TE} {pl : Sem Bool} (he : PE X o ta) (c : Cls X.K C) (hm : Meth X.K C mn f) (F : FnOk X.prog X.w X.K X.mg X.base CX k f fd ps sp) (hr : Room k X.A) (hb : Binds X.K fd ps ds) (hd : Vals dvs ds) (hx : ∀ σ, PassesAt CX X σ (E σ))
    (ht : eval (.Call (.Attribute o mn apos) [] [] pos) X.env = (do
      let ov ← eval o X.env
      standAt apos.atName
      let (f, first) ← holding [ov] (getMethod ov mn pl)
      callWith pos f first (backTo pos (starEach [] X.env)) (backToKw pos (keywordEach [] X.env))) := by rfl) :
    PE X (.Call (.Attribute o mn apos) [] [] pos) (tMethS C mn sp dvs E ta tNil) := by
  refine ⟨fun pins s σ H Q I h => ?_⟩
  refine PySem.W.methodCall_KW (pl := pl) (thn (he.run pins s σ H _ I h) fun u s1 ⟨x, H1, I1, rx, a, dx, fs, ex, ea, l, q⟩ => ?_) ht
  subst ex
  obtain rfl : u = Value.ref a := rx
  refine getmeth_ok I1 ea c hm l ?_
  exact PySem.W.callWith_K0 (first := [.ref a]) I1.kIn hm.kp (run_fnSD (us := [.ref a]) (vs := [.ref a]) F hr hb hd (hx σ) I1 (.cons rfl .nil) q)
theorem lookup_none {f : Str} : ∀ {fs : List (Str × V)} {ds : List (Str × D)}, fs.map (·.1) = ds.map (·.1) → ds.lookup f = none → fs.lookup f = none
  | [], _, _, _ => rfl
  | (g, x) :: fs, [], e, _ => by cases e
  | (g, x) :: fs, (g', y) :: ds, e, h => by
    have e' : g :: fs.map (·.1) = g' :: ds.map (·.1) := e
    obtain ⟨e1, e2⟩ := List.cons.inj e'
    subst e1
    unfold List.lookup at h ⊢
    cases q : f == g with
    | true => rw [q] at h; cases h
    | false => rw [q] at h; exact lookup_none e2 h
def methM (c0 : Nat) (mn : Str) (n : Nat) (F : List D → Res) (dd : List D) (mo : M RV) (mA : M (List SV)) : M RV := bnd mo fun x => match x with
  | .sv (.dat (.obj c ds)) => if c = c0 ∧ (ds.lookup mn).isNone = true then bnd mA (fun xs => callM n F dd (.dat (.obj c ds) :: xs)) else stuck
  | _ => stuck
theorem meth_sem {K : PySem.W.Frag} {dvs : List V} (hdd : ∀ H, RepDs K ct H dvs dd) {γ1 : G} {s1 : S} {H1 : Hp} {σ : L2.St} {Q : VK} {vs : List V} {xs : List SV} {v : V} {d : D} (R1 : Rep K ct γ1 H1 σ s1) (qv : RepD K ct H1 v d) (q1 : Paired (RepS K ct γ1 s1.mem.length H1) vs xs)
    (g : Good K ct W σ γ1 s1 H1 (callM n F dd (.dat d :: xs) s1) Q) : spP K ct n F (v :: (vs ++ dvs)) H1 Q (WE W σ) := by
  unfold callM datL at g
  cases e1 : datL xs with
  | none => simp only [e1] at g; exact False.elim g
  | some es =>
    simp only [e1] at g
    have w : RepDs K ct H1 (v :: (vs ++ dvs)) (d :: es ++ dd) := .cons qv ((datL_rep e1 q1).append (hdd H1))
    by_cases c : (d :: es ++ dd).length = n
    · rw [if_pos c] at g
      exact ⟨by rw [w.length]; exact c, _, w, good_res R1 g⟩
    · rw [if_neg c] at g; exact False.elim g
theorem ed_methP {pl : Sem Bool} (T : ClsT X.K ct c0) (O : OkM X.prog X.w X.K X.mg X.base ct c0 mn n k F dd) (hr : Room k X.A) (tk : Takes X W) (ho : ED X ct W o mo) (ha : AD X ct W (e :: es) mA)
    (hst : starEach (e :: es) X.env = (false, eval e X.env) :: starEach es X.env := by rfl) (hpl : (backTo pos (starEach es X.env)).any (·.1) = false := by rfl)
    (ht : eval (.Call (.Attribute o mn apos) (e :: es) [] pos) X.env = (do
      let ov ← eval o X.env
      standAt apos.atName
      let (f, first) ← holding [ov] (getMethod ov mn pl)
      callWith pos f first (backTo pos (starEach (e :: es) X.env)) (backToKw pos (keywordEach [] X.env))) := by rfl) :
    ED X ct W (.Call (.Attribute o mn apos) (e :: es) [] pos) (methM c0 mn n F dd mo mA) := by
  obtain ⟨f, fd, ps, ds, dvs, hn, hm, FK, hb, hd, hdd⟩ := O.ex
  obtain ⟨to, po, ro⟩ := ho.ex
  obtain ⟨t, pt, r⟩ := ha.ex
  refine ⟨_, pe_methS po T.cls hm FK hr hb hd (fun σ => passAt tk σ) pt hst hpl ht, fun σ H γ s Q R h => ?_⟩
  refine ro σ H γ s _ R (use_e h (fun _ _ z => z) fun x s1 v γ1 H1 t1 R1 q1 g => ?_)
  split at g
  · rename_i c ds
    by_cases cc : c = c0 ∧ (ds.lookup mn).isNone = true
    · rw [if_pos cc] at g
      obtain ⟨rfl, hl⟩ := cc
      have q1' : RepD X.K ct H1 v (.obj c ds) := q1
      cases q1' with
      | obj ea nf en rp =>
        refine ⟨_, _, _, rfl, ea, lookup_none en (by simpa using hl), ?_⟩
        refine r σ H1 γ1 s1 _ R1 (use_a (Good.step t1 g) (fun _ _ z => z) fun xs s2 vs γ2 H2 t2 R2 q2 g2 => ?_)
        exact meth_sem hdd R2 (RepD.mono t2.imm (.obj ea nf en rp)) q2 (Good.step t2 g2)
    · rw [if_neg cc] at g; exact False.elim g
  · exact False.elim g
theorem ed_methP0 {pl : Sem Bool} (T : ClsT X.K ct c0) (O : OkM X.prog X.w X.K X.mg X.base ct c0 mn n k F dd) (hr : Room k X.A) (tk : Takes X W) (ho : ED X ct W o mo)
    (ht : eval (.Call (.Attribute o mn apos) [] [] pos) X.env = (do
      let ov ← eval o X.env
      standAt apos.atName
      let (f, first) ← holding [ov] (getMethod ov mn pl)
      callWith pos f first (backTo pos (starEach [] X.env)) (backToKw pos (keywordEach [] X.env))) := by rfl) :
    ED X ct W (.Call (.Attribute o mn apos) [] [] pos) (methM c0 mn n F dd mo (pur [])) := by
  obtain ⟨f, fd, ps, ds, dvs, hn, hm, FK, hb, hd, hdd⟩ := O.ex
  obtain ⟨to, po, ro⟩ := ho.ex
  refine ⟨_, pe_methS0 po T.cls hm FK hr hb hd (fun σ => passAt tk σ) ht, fun σ H γ s Q R h => ?_⟩
  refine ro σ H γ s _ R (use_e h (fun _ _ z => z) fun x s1 v γ1 H1 t1 R1 q1 g => ?_)
  split at g
  · rename_i c ds
    by_cases cc : c = c0 ∧ (ds.lookup mn).isNone = true
    · rw [if_pos cc] at g
      obtain ⟨rfl, hl⟩ := cc
      have q1' : RepD X.K ct H1 v (.obj c ds) := q1
      cases q1' with
      | obj ea nf en rp =>
        refine ⟨_, _, _, rfl, ea, lookup_none en (by simpa using hl), ?_⟩
        exact meth_sem (vs := []) hdd R1 (.obj ea nf en rp) .nil (Good.step t1 g)
    · rw [if_neg cc] at g; exact False.elim g
  · exact False.elim g
/-! ## own == and != -/
structure OkE (P : Program) (w : World) (K : PySem.W.Frag) (mg : Str → Option Value) (base : Heap) (ct : Nat → Addr) (c0 k : Nat) (F : List D → Res) : Prop where
  ex : ∃ (f : Addr) (fd : FuncData) (ps : List Str), PySem.W.findIn K (.ref (ct c0)) "__eq__" = some (some (.ref f)) ∧ PySem.W.isFn K (.ref f) = true ∧ FnOk P w K mg base (L2.CX P w) k f fd ps (spP K ct 2 F) ∧ Binds K fd ps []
  ne : PySem.W.findIn K (.ref (ct c0)) "__ne__" = some (some (.builtin "object.__ne__"))
def okT (lo hi : Nat) : D → Bool
  | .obj c _ => inR lo hi c
  | .dcp _ => false
  | _ => true
theorem okT_ty {K : PySem.W.Frag} (A : AllC K ct lo hi) (hc : inR lo hi c0 = true) {H : Hp} {v : V} {d : D} (h : okT lo hi d = true) (r : RepD K ct H v d) : ∃ tb, TyX K H v tb ∧ PySem.W.notFirst K (ct c0) tb = true := by
  obtain ⟨h1, h2⟩ := inR_of hc
  cases d with
  | obj c ds => exact ⟨_, (A.cl c (inR_of h).1 (inR_of h).2).ty r, A.nd c0 c h1 h2 (inR_of h).1 (inR_of h).2⟩
  | non => cases r; exact ⟨_, .base .non, A.nb c0 h1 h2 .none⟩
  | bl b => cases r; exact ⟨_, .base (.bl _), A.nb c0 h1 h2 .bool⟩
  | int i => cases r; exact ⟨_, .base (.int _), A.nb c0 h1 h2 .int⟩
  | str z => cases r; exact ⟨_, .base (.str _), A.nb c0 h1 h2 .str⟩
  | tup ds =>
    cases r with
    | tup hq _ =>
      rcases hq with (h1' | ⟨o, h1'⟩) | ⟨o, its, n, hk, hc, _⟩
      · exact ⟨_, .base (.tup h1'), A.nb c0 h1 h2 .tuple⟩
      · exact ⟨_, .fTuple h1', A.nb c0 h1 h2 .tuple⟩
      · exact ⟨_, .kTuple hk hc, A.nb c0 h1 h2 .tuple⟩
  | lst ds =>
    cases r with
    | lst hq _ =>
      obtain ⟨o, hq⟩ := hq
      exact ⟨_, .base (.frz hq), A.nb c0 h1 h2 .list⟩
  | dct kds =>
    cases r with
    | dct hq _ _ => exact ⟨_, .fDict hq, A.nb c0 h1 h2 .dict⟩
  | dcp kds => cases h
theorem run_okAt {CX : CXT} {A : Around} {f : Addr} {fd : FuncData} {ps : List Str} {sp : Sp} {E : XK} {pins : List (Addr × Obj)} {σ : L2.St} {H : Hp} {s : Shared} {Q : VK} {us : List Value} {vs : List V} (F : FnOk X.prog X.w X.K X.mg X.base CX k f fd ps sp) (hr : Room k A) (e0 : Env0 X.prog X.w X.K X.mg X.base A X.stack s H) (hb : Binds X.K fd ps []) (hx : PassesAt CX X σ E)
    (I : Inv X pins σ H s) (r : Vals vs us) (h : sp vs H Q E) : wpAny (model X.prog X.w) A (call (.ref f) us) (EP X pins σ Q) X.xe s := by
  have r2 : Vals vs (us ++ []) := by rw [List.append_nil]; exact r
  have hl : (us ++ []).length = ps.length := by rw [← r2.length]; exact F.len _ _ _ _ h
  refine wpAny_call (codeAny_mono (F.run A X.stack s H ⟨us, []⟩ (us ++ []) vs Q E hr e0 (hb s us I.kIn hl) r2 h) fun rr s' hq => ?_)
  cases rr with
  | error e => exact hx pins H s e s' I hq
  | ok fl =>
    cases fl with
    | ret u => exact I.after hq
    | next => exact False.elim hq
    | brk => exact False.elim hq
    | cont => exact False.elim hq
def rEqI (K : PySem.W.Frag) (ct : Nat → Addr) (c0 : Nat) (F : List D → Res) (neg : Bool) : R2 := fun x y H Q => ∃ a dx fs tb ds, x = .ref a ∧ H a = some (.ins (ct c0) dx fs) ∧ TyX K H y tb ∧ PySem.W.notFirst K (ct c0) tb = true ∧ RepDs K ct H [x, y] ds ∧ ∃ b, F ds = .ret (.dat (.bl b)) ∧ ∀ H', Same H H' → Q (.bl (b != neg)) H'
theorem op_eqI (T : ClsT X.K ct c0) (O : OkE X.prog X.w X.K X.mg X.base ct c0 k F) (hr : Room k X.A) : OpR X (compareOp .Eq) (rEqI X.K ct c0 F false) := by
  intro pins s σ H x y v u Q I rx ry h
  obtain ⟨a, dx, fs, tb, ds, rfl, ea, ty, nf, rp, b, eb, q⟩ := h
  obtain ⟨f, fd, ps, hs, hf, FK, hb⟩ := O.ex
  cases (show v = Value.ref a from rx)
  obtain ⟨mA, J0, _⟩ := ins_get I.hok ea
  obtain ⟨od, J, _⟩ := J0.look
  obtain ⟨m, hF⟩ := I.fr
  obtain ⟨P, Z, pz, _⟩ := kit_of I ry ty
  show wpAny _ _ (richCompare .Eq _ _) _ _ _
  refine PySem.W.cmp_K (op := .Eq) (tb := tb) hr.units0 hF I.ok.mod.kin J (Z.ty _ _ I.kIn pz) nf hs hf ?_
  have sp : spP X.K ct 2 F [.ref a, y] H (fun z H' => z = .bl b ∧ Same H H') (WE WF σ) := ⟨rfl, ds, rp, by rw [eb]; exact fun z H' k r => ⟨by cases r; rfl, k⟩⟩
  refine wpAny_mono (run_okAt (vs := [.ref a, y]) (us := [.ref a, u]) FK hr I.env0 hb (passAt takes0 σ) I (.cons (show RelV (.ref a) (.ref a) from rfl) (.cons ry .nil)) sp) (fun w s' z => ?_) fun _ _ x => x
  obtain ⟨z', H', I', rz, rfl, k⟩ := z
  have : w = Value.bool b := rz
  subst this
  exact ⟨V.bl b, H', I', (show RelV (.bl b) (.bool b) from rfl), by simpa using q H' k⟩
theorem op_neI (T : ClsT X.K ct c0) (O : OkE X.prog X.w X.K X.mg X.base ct c0 k F) (hr : Room (k + 1) X.A) : OpR X (compareOp .NotEq) (rEqI X.K ct c0 F true) := by
  intro pins s σ H x y v u Q I rx ry h
  obtain ⟨a, dx, fs, tb, ds, rfl, ea, ty, nf, rp, b, eb, q⟩ := h
  obtain ⟨f, fd, ps, hs, hf, FK, hb⟩ := O.ex
  cases (show v = Value.ref a from rx)
  obtain ⟨mA, J0, _⟩ := ins_get I.hok ea
  obtain ⟨od, J, _⟩ := J0.look
  obtain ⟨m, hF⟩ := I.fr
  obtain ⟨P, Z, pz, _⟩ := kit_of I ry ty
  show wpAny _ _ (richCompare .NotEq _ _) _ _ _
  refine PySem.W.ne_K (tb := tb) hr.in1.units0 hF I.ok.mod.kin J (Z.ty _ _ I.kIn pz) nf O.ne T.cm hs hf ?_
  have sp : spP X.K ct 2 F [.ref a, y] H (fun z H' => z = .bl b ∧ Same H H') (WE WF σ) := ⟨rfl, ds, rp, by rw [eb]; exact fun z H' k r => ⟨by cases r; rfl, k⟩⟩
  refine wpAny_mono (run_okAt (vs := [.ref a, y]) (us := [.ref a, u]) FK hr.in1 I.env0.in1 hb (passAt takes0 σ) I (.cons (show RelV (.ref a) (.ref a) from rfl) (.cons ry .nil)) sp) (fun w s' z => ?_) fun _ _ x => x
  obtain ⟨z', H', I', rz, rfl, k⟩ := z
  have : w = Value.bool b := rz
  subst this
  exact ⟨b, rfl, V.bl (!b), H', I', (show RelV (.bl (!b)) (.bool (!b)) from rfl), by simpa using q H' k⟩
def eqOwnM (lo hi c0 : Nat) (F : List D → Res) (neg : Bool) : RV → RV → M RV
  | .sv (.dat (.obj c ds)), .sv (.dat y) => fun s => if c = c0 ∧ okT lo hi y = true then match F [.obj c ds, y] with
    | .ret (.dat (.bl b)) => .ok (RB (b != neg)) s
    | _ => .bad
    else .bad
  | _, _ => stuck
theorem eqOwnM_ok {neg : Bool} (A : AllC X.K ct lo hi) (hc : inR lo hi c0 = true) : BinOk X ct (rEqI X.K ct c0 F neg) (eqOwnM lo hi c0 F neg) := by
  intro W σ γ s H Ha Hb x y r1 r2 Q R q1 q2 h
  unfold eqOwnM at h
  split at h
  · rename_i c ds d
    by_cases cc : c = c0 ∧ okT lo hi d = true
    · rw [if_pos cc] at h
      obtain ⟨rfl, ho⟩ := cc
      have q1' : RepD X.K ct H x (.obj c ds) := q1
      have q2' : RepD X.K ct H y d := q2
      obtain ⟨tb, ty, nf⟩ := okT_ty A hc ho q2'
      split at h
      · rename_i b eb
        cases q1' with
        | obj ea nz en rp =>
          exact ⟨_, _, _, tb, _, rfl, ea, ty, nf, .cons (.obj ea nz en rp) (.cons q2' .nil), b, eb, fun H' k => h _ γ H' (step_same k) (R.kept k) (repB _)⟩
      · exact False.elim h
    · rw [if_neg cc] at h; exact False.elim h
  · exact False.elim h
theorem td_eqOwn (A : AllC X.K ct lo hi) (hc : inR lo hi c0 = true) (O : OkE X.prog X.w X.K X.mg X.base ct c0 k F) (hr : Room k X.A) (ha : ED X ct W a ma) (hb : ED X ct W b mb) : TD X ct W (.Compare a [.Eq] [b] pos) (bnd (m2 ma mb (eqOwnM lo hi c0 F false)) asB) :=
  td_cmp (op_eqI (A.cl c0 (inR_of hc).1 (inR_of hc).2) O hr) (eqOwnM_ok A hc) ha hb (nomark _)
theorem ed_eqOwn (A : AllC X.K ct lo hi) (hc : inR lo hi c0 = true) (O : OkE X.prog X.w X.K X.mg X.base ct c0 k F) (hr : Room k X.A) (ha : ED X ct W a ma) (hb : ED X ct W b mb) : ED X ct W (.Compare a [.Eq] [b] pos) (m2 ma mb (eqOwnM lo hi c0 F false)) :=
  ed_cmp (op_eqI (A.cl c0 (inR_of hc).1 (inR_of hc).2) O hr) (eqOwnM_ok A hc) ha hb (nomark _)
theorem td_neOwn (A : AllC X.K ct lo hi) (hc : inR lo hi c0 = true) (O : OkE X.prog X.w X.K X.mg X.base ct c0 k F) (hr : Room (k + 1) X.A) (ha : ED X ct W a ma) (hb : ED X ct W b mb) : TD X ct W (.Compare a [.NotEq] [b] pos) (bnd (m2 ma mb (eqOwnM lo hi c0 F true)) asB) :=
  td_cmp (op_neI (A.cl c0 (inR_of hc).1 (inR_of hc).2) O hr) (eqOwnM_ok A hc) ha hb (nomark _)
theorem ed_neOwn (A : AllC X.K ct lo hi) (hc : inR lo hi c0 = true) (O : OkE X.prog X.w X.K X.mg X.base ct c0 k F) (hr : Room (k + 1) X.A) (ha : ED X ct W a ma) (hb : ED X ct W b mb) : ED X ct W (.Compare a [.NotEq] [b] pos) (m2 ma mb (eqOwnM lo hi c0 F true)) :=
  ed_cmp (op_neI (A.cl c0 (inR_of hc).1 (inR_of hc).2) O hr) (eqOwnM_ok A hc) ha hb (nomark _)
end
end Fd
set_option Elab.async false
set_option linter.all false
set_option maxRecDepth 100000
set_option maxHeartbeats 4000000
namespace Fd
open PySem PySem.Spec PyProof.Rows L2 PpSet
/-! ## {elt for x in it if ..}, elt an int -/
def inS0 (ks : List Int) : Int → Bool := fun j => ks.any fun k => decide (j = k)
/-- the set at D after the members ks, many of them -/
def setOf (w : World) (D : Addr) (S : Int → Bool) (n : Nat) : HO := SetO w D S n
abbrev grow (S : Int → Bool) (k : Int) : Int → Bool := fun j => S j || decide (j = k)
abbrev many (S : Int → Bool) (k : Int) (n : Nat) : Nat := if S k = true then n else n + 1
/-- what one turn does with the item -/
def turnI (w : World) (g : TG) (tt : TT) (te : TE) (vs : List Nat) (σ : L2.St) (D : Addr) (Nx : Hp → Prop) (x : V) (Ha : Hp) : Prop :=
  g x (wipe σ vs) Ha fun σb Hb => wipe σb vs = wipe σ vs ∧ tt σb Hb fun b Hc => if b = true then te σb Hc fun y He => ∃ (k : Int) (S : Int → Bool) (n : Nat), y = .int k ∧ He D = some (SetO w D S n) ∧ n + 1 < scanBound ∧ Nx (upd He D (SetO w D (grow S k) (many S k n))) else Nx Hc
def tSi (w : World) (wi : TI) (g : TG) (tt : TT) (te : TE) (vs : List Nat) : TE := fun σ H Q => wi σ H fun J Ha => ∀ D, Ha D = none → ∃ Wm : Nat → Nat → Hp → Prop, (∃ m, Wm 0 m (upd Ha D (SetO w D (fun _ => false) 0))) ∧
  ∀ i m Hb, Wm i m Hb → (J.stop i Hb ∧ Q (.ref D) Hb) ∨ (J.go i Hb ∧ ∃ Nx : Hp → Prop, (∀ Hc, Nx Hc → ∃ m', m' < m ∧ Wm (i + 1) m' Hc) ∧ ∀ x Hc, J.yld i Hb x Hc → turnI w g tt te vs σ D Nx x Hc)
section
variable {X : Cx}
theorem addI_ok {pins : List (Addr × Obj)} {σ : L2.St} {H : Hp} {s : Shared} {Ex : Value → Shared → Prop} {D : Addr} {S : Int → Bool} {n : Nat} {k : Int} {tk : Tok} {Qv : Value → Shared → Prop} (I : Inv X pins σ H s) (eD : H D = some (SetO X.w D S n)) (room : n + 1 < scanBound)
    (fin : ∀ sb, Inv X pins σ (upd H D (SetO X.w D (grow S k) (many S k n))) sb → Qv .none sb) : wpAny (model X.prog X.w) X.A (call (.builtin "set.add") [.ref D, .int k tk]) Qv Ex s := by
  refine setR_add (setO_get I eD) room fun hb same fresh => fin _ ?_
  have there : ∃ u, hb.get? D = some u := by
    obtain ⟨o, _, _, _, ho, _⟩ := fresh
    exact ⟨o, ho⟩
  exact I.write (e := D) (t' := s.toks + 1) (by rw [eD]; exact True.intro) (.inl rfl) (fun a u ne eu => (same.2 a ne).trans eu) there (setO_new fresh)
/-- the block of the comprehension, running: its environment e1, its walk (it, fp, tn) -/
theorem si_core {pins : List (Addr × Obj)} {s : Shared} {σ : L2.St} {H : Hp} {Q : VK} {elt tg src : Expr} {ifs : List Expr} {sc : Scope} {own : List (Str × Nat)} {pos at0 : Pos} {wi : TI} {g : TG} {tt : TT} {te : TE} {Qv : Value → Shared → Prop} {last : Option (Value → Sem Unit)}
    (calm : X.calm = true) (nd : X.N.Nodup) (I : Inv X pins σ H s) (pi : PI X tg src wi) (blk : BlkOk X.N X.env.scope sc own)
    (pg : ∀ (sa : Shared) (Ha : Hp) (C : Addr) (cl : List (Str × Addr)) (fp : List Addr), PG (X.blk sa Ha sc (compEnvC sc cl C X.env) fp) tg g) (pt : ∀ (sa : Shared) (Ha : Hp) (C : Addr) (cl : List (Str × Addr)) (fp : List Addr), PTs (X.blk sa Ha sc (compEnvC sc cl C X.env) fp) ifs tt)
    (pe : ∀ (sa : Shared) (Ha : Hp) (C : Addr) (cl : List (Str × Addr)) (fp : List Addr), PE (X.blk sa Ha sc (compEnvC sc cl C X.env) fp) elt te) (plain : ∀ x, foldedSetIterable src X.env x = pure x) (rd : tSi X.w wi g tt te (own.map (·.2)) σ H Q)
    (back : ∀ D C sz m Hz, Inv X pins σ Hz sz → Q (.ref D) Hz → sz.heap.Ns C m → FpOk X pins Hz C → compPost (model X.prog X.w) X.A X.xe last Qv (.ref D) C (.ok .next) sz) :
    wpAny (model X.prog X.w) X.A (comprehension (.SetComp elt [⟨tg, src, ifs, 0⟩] sc pos) sc X.env at0 (newSet (.type "set")) false (eval src X.env) last) Qv X.xe s := by
  have cells : ∀ y ∈ sc.names, y.2 = .free → ∃ c, X.env.cells.lookup y.1 = some c := fun y hy e => (blk.free y hy e).elim (fun z => I.ok.has _ (.inl z)) fun z => I.ok.has _ (.inr z)
  refine wpAny_comprehension_free (use := last) rfl plain (closure_ok cells) blk.kind (fun y hy e => by rw [blk.uniq y hy, e]) (thn (pi.run pins s σ H _ I rd) fun _ _ hx => thn hx fun _ sB hB => ?_)
  obtain ⟨it, fp, tn, J, HB, rfl, IB, Wk, tB, fB, turns⟩ := hB
  refine newSet_ok (newEnv_comp ?_)
  generalize eD : sB.heap.objs.size = D
  obtain ⟨Wm, ⟨m0, w0⟩, turn⟩ := turns D (IB.hok.fresh (Nat.le_of_eq eD))
  generalize eC : ({ sB with heap := sB.heap.push { cls := .type "set", dict := none, data := .set #[] 0 (.fresh 0 0 (!X.w.params.followText "set-order")) } } : Shared) = sC
  have hpC : sC.heap = sB.heap.push { cls := .type "set", dict := none, data := .set #[] 0 (.fresh 0 0 (!X.w.params.followText "set-order")) } := by rw [← eC]
  have IC : Inv X pins σ (upd HB D (SetO X.w D (fun _ => false) 0)) sC := by
    rw [← eC, ← eD]
    exact IB.laid (t' := sB.toks) (fun b o e => Heap.get?_push_of_some _ e) (Nat.le_refl _) (setO_new (setR_fresh X.w))
  have below : ∀ b ∈ fp, b < sB.heap.objs.size := fun b hb => let ⟨_, e, _⟩ := Wk.obj _ _ tB b hb; Heap.lt_size e
  have fC : ∀ b ∈ fp, FpOk X pins (upd HB D (SetO X.w D (fun _ => false) 0)) b ∧ b < sC.heap.objs.size := fun b hb =>
    ⟨⟨by rw [upd_ne (by rw [← eD]; exact Nat.ne_of_lt (below b hb))]; exact (fB b hb).1, (fB b hb).2⟩, by rw [hpC, Heap.size_push]; exact Nat.lt_succ_of_lt (below b hb)⟩
  have tC : tn 0 sC.heap := Wk.keep _ _ _ tB fun b _ o e => by rw [hpC]; exact Heap.get?_push_of_some _ e
  have ID0 := block_start IC blk nd fC
  change codeAny (model X.prog X.w) X.A (.compStart (.SetComp elt [⟨tg, src, ifs, 0⟩] sc pos) 0 (.ref it) (.ref D) (compEnvC sc (cellsFrom (sC.heap.objs.size + 1) sc.names (cloFrom X.env.cells sc.names [])) sC.heap.objs.size X.env))
    (compPost (model X.prog X.w) X.A X.xe last Qv (.ref D) sC.heap.objs.size) { sC with heap := pushCells (sC.heap.push { cls := .type "dict", data := .dict #[] }) sc.names }
  generalize eF : cellsFrom (sC.heap.objs.size + 1) sc.names (cloFrom X.env.cells sc.names []) = cl at ID0 ⊢
  have pg1 := pg sC (upd HB D (SetO X.w D (fun _ => false) 0)) sC.heap.objs.size cl fp
  have pt1 := pt sC (upd HB D (SetO X.w D (fun _ => false) 0)) sC.heap.objs.size cl fp
  have pe1 := pe sC (upd HB D (SetO X.w D (fun _ => false) 0)) sC.heap.objs.size cl fp
  have none0 : ∀ b ∈ fp, (upd HB D (SetO X.w D (fun _ => false) 0)) b = none := fun b hb => (fC b hb).1.1
  generalize eE : compEnvC sc cl sC.heap.objs.size X.env = e1 at ID0 pg1 pt1 pe1 ⊢
  have locs : e1.locals = sC.heap.objs.size := by subst eE; rfl
  generalize eH : upd HB D (SetO X.w D (fun _ => false) 0) = HC at IC ID0 pg1 pt1 pe1 w0 none0 fC
  generalize eS : ({ sC with heap := pushCells (sC.heap.push { cls := .type "dict", data := .dict #[] }) sc.names } : Shared) = sD at ID0 ⊢
  have tD : tn 0 sD.heap := Wk.keep _ _ _ tC fun b _ o e => by rw [← eS]; exact pushCells_keeps _ _ _ _ (Heap.get?_push_of_some _ e)
  have held : ∀ {σz : L2.St} {Hz : Hp} {sz : Shared}, Inv (X.blk sC HC sc e1 fp) [] σz Hz sz → (∀ b ∈ fp, Hz b = none) → ∀ b ∈ fp, FpOk (X.blk sC HC sc e1 fp) [] Hz b := fun {_ _ _} Iz nz b hb =>
    ⟨nz b hb, (Iz.ok.exf b hb).1, Iz.ok.exfs b hb, .inl hb, fun x c e => (Iz.ok.exf b hb).2 x c e, fun p hp => by simp at hp⟩
  have loop : codeAny (model X.prog X.w) X.A (.compLoop (.SetComp elt [⟨tg, src, ifs, 0⟩] sc pos) 0 (.ref it) (.ref D) e1) (compPost (model X.prog X.w) X.A X.xe last Qv (.ref D) sC.heap.objs.size) sD := by
    refine compLoopS_any (fun n sz => ∃ i Hz, Inv (X.blk sC HC sc e1 fp) [] (wipe σ (own.map (·.2))) Hz sz ∧ tn i sz.heap ∧ (∀ b ∈ fp, Hz b = none) ∧ Wm i n Hz) ?_ m0 ⟨0, HC, ID0, tD, none0, w0⟩
    rintro n sE ⟨i, HE, IE, tE, nE, wE⟩
    rcases turn i n HE wE with ⟨stop, fin⟩ | ⟨go, Nx, less, step⟩
    · refine thnF (Wk.done (X.blk sC HC sc e1 fp) rfl rfl rfl calm i [] sE _ HE (fun _ _ => False) IE (held IE nE) tE stop) fun r sF ⟨er, IF⟩ => ?_
      subst er
      obtain ⟨mF, nsF, _⟩ := IF.loc
      have noC : HE sC.heap.objs.size = none := by have z : HE e1.locals = none := IF.free; rwa [locs] at z
      have nsF' : sF.heap.Ns sC.heap.objs.size mF := by have z : sF.heap.Ns e1.locals mF := nsF; rwa [locs] at z
      exact back D sC.heap.objs.size sF mF HE (IC.call' (ch := fp) IF.os IF.base IF.hok IF.bare fun b hb => ⟨(fC b hb).1.2.2.2.1, (fC b hb).1.2.1, (fC b hb).1.2.2.2.2.1, (fC b hb).1.2.2.2.2.2⟩) fin nsF' (IC.fpOk (Nat.le_refl _) noC)
    · refine thnF (Wk.item (X.blk sC HC sc e1 fp) rfl rfl rfl calm i [] sE _ HE (fun _ _ => False) IE (held IE nE) tE go) fun r sF ⟨u, er, hF⟩ => ?_
      subst er
      refine thnF hF fun _ sG ⟨x, HG, IG, rG, yG, tG, nG⟩ => ?_
      have IGp := IG.pinned (held IG nG) (Wk.obj _ _ tG)
      refine thnF (pg1.run _ sG _ HG x u _ IGp rG (step x HG yG)) fun _ sH ⟨σH, HH, IH, wH, qH⟩ => ?_
      refine thnF (pt1.run _ sH σH HH _ IH qH) fun b sI ⟨HI, II, qI⟩ => ?_
      have next : ∀ {sz : Shared} {Hz : Hp}, Inv (X.blk sC HC sc e1 fp) ([] ++ pinsAt fp sG.heap) σH Hz sz → Nx Hz → ∃ m, m < n ∧ ∃ i Hz, Inv (X.blk sC HC sc e1 fp) [] (wipe σ (own.map (·.2))) Hz sz ∧ tn i sz.heap ∧ (∀ b ∈ fp, Hz b = none) ∧ Wm i m Hz := fun {sz Hz} Iz nx => by
        obtain ⟨m', lt, wz⟩ := less Hz nx
        have same : ∀ b ∈ fp, ∀ o, sG.heap.get? b = some o → sz.heap.get? b = some o ∧ Hz b = none := fun b hb o e =>
          let ⟨z1, z2, _⟩ := Iz.pin (b, o) (List.mem_append_right _ (List.mem_append_right _ (mem_pinsAt hb e)))
          ⟨z1, z2⟩
        refine ⟨m', lt, i + 1, Hz, (Iz.unpinned (pins := [])).weak (by rw [← wH, wipe_length]) (fun j v e => by rw [← wH] at e; exact (wipe_some e).1), Wk.keep _ _ _ tG fun b hb o e => (same b hb o e).1, fun b hb => ?_, wz⟩
        obtain ⟨o, e, _⟩ := Wk.obj _ _ tG b hb
        exact (same b hb o e).2
      cases b with
      | false => exact next II qI
      | true =>
        refine thnF (pe1.run _ sI σH HI _ II qI) fun z sJ ⟨y, HJ, IJ, rJ, k, S0, n0, ey, eJ, roomJ, nx⟩ => ?_
        subst ey
        obtain ⟨tk, rfl⟩ := rJ
        exact addI_ok (X := X.blk sC HC sc e1 fp) IJ eJ roomJ fun sK IK => next IK nx
  exact codeAny_compStart_set loop (Wk.self X.A 0 _ _ _ tD loop)
theorem pe_si {elt tg src : Expr} {ifs : List Expr} {sc : Scope} {own : List (Str × Nat)} {pos : Pos} {wi : TI} {g : TG} {tt : TT} {te : TE} (calm : X.calm = true) (nd : X.N.Nodup) (pi : PI X tg src wi) (blk : BlkOk X.N X.env.scope sc own)
    (pg : ∀ (sa : Shared) (Ha : Hp) (C : Addr) (cl : List (Str × Addr)) (fp : List Addr), PG (X.blk sa Ha sc (compEnvC sc cl C X.env) fp) tg g) (pt : ∀ (sa : Shared) (Ha : Hp) (C : Addr) (cl : List (Str × Addr)) (fp : List Addr), PTs (X.blk sa Ha sc (compEnvC sc cl C X.env) fp) ifs tt)
    (pe : ∀ (sa : Shared) (Ha : Hp) (C : Addr) (cl : List (Str × Addr)) (fp : List Addr), PE (X.blk sa Ha sc (compEnvC sc cl C X.env) fp) elt te) (plain : ∀ x, foldedSetIterable src X.env x = pure x := by intro _; rfl) :
    PE X (.SetComp elt [⟨tg, src, ifs, 0⟩] sc pos) (tSi X.w wi g tt te (own.map (·.2))) := ⟨fun pins s σ H Q I h => by
  rw [PpSet.eval_SetComp]
  refine si_core calm nd I pi blk pg pt pe plain h fun D C sz m Hz Iz q ns ok => ⟨m, ns, fun hh sb => ?_⟩
  obtain ⟨o0, o1, o2, o3, o4, o5⟩ := ok
  exact ⟨.ref D, Hz, Iz.turned (t' := sz.toks) (fun b o hb e => (sb.2 b hb).trans e) o0 o1 o3 o4 o5, rfl, q⟩⟩
end
end Fd
set_option Elab.async false
set_option linter.all false
set_option maxRecDepth 100000
set_option maxHeartbeats 4000000
namespace Fd
open PySem PySem.Spec PyProof.Rows L2 PpSet
/-! ## sorted distinct ints -/
def insS (k : Int) : List Int → List Int
  | [] => [k]
  | x :: xs => if k < x then k :: x :: xs else if k = x then x :: xs else x :: insS k xs
def sortS : List Int → List Int
  | [] => []
  | x :: xs => insS x (sortS xs)
theorem mem_insS {k j : Int} : ∀ {l : List Int}, j ∈ insS k l ↔ j = k ∨ j ∈ l
  | [] => by simp [insS]
  | x :: xs => by
    unfold insS
    split
    · simp
    · split
      · rename_i h; subst h; simp
      · simp [mem_insS (l := xs)]
        constructor
        · rintro (h | h | h) <;> simp [h]
        · rintro (h | h | h) <;> simp [h]
theorem mem_sortS {j : Int} : ∀ {l : List Int}, j ∈ sortS l ↔ j ∈ l
  | [] => Iff.rfl
  | x :: xs => by unfold sortS; rw [mem_insS, mem_sortS]; simp
theorem up_insS {k : Int} : ∀ {l : List Int}, l.Pairwise (· < ·) → (insS k l).Pairwise (· < ·)
  | [], _ => by simp [insS]
  | x :: xs, h => by
    obtain ⟨h1, h2⟩ := List.pairwise_cons.mp h
    unfold insS
    split
    · rename_i c
      refine List.pairwise_cons.mpr ⟨fun y hy => ?_, h⟩
      rcases List.mem_cons.mp hy with e | e
      · omega
      · have := h1 y e; omega
    · split
      · exact h
      · rename_i c1 c2
        refine List.pairwise_cons.mpr ⟨fun y hy => ?_, up_insS h2⟩
        rcases mem_insS.mp hy with e | e
        · omega
        · exact h1 y e
theorem up_sortS : ∀ l : List Int, (sortS l).Pairwise (· < ·)
  | [] => .nil
  | x :: xs => up_insS (up_sortS xs)
theorem up_eq : ∀ {a b : List Int}, a.Pairwise (· < ·) → b.Pairwise (· < ·) → (∀ k, k ∈ a ↔ k ∈ b) → a = b
  | [], [], _, _, _ => rfl
  | [], y :: ys, _, _, h => absurd ((h y).mpr (by simp)) (by simp)
  | x :: xs, [], _, _, h => absurd ((h x).mp (by simp)) (by simp)
  | x :: xs, y :: ys, ha, hb, h => by
    obtain ⟨a1, a2⟩ := List.pairwise_cons.mp ha
    obtain ⟨b1, b2⟩ := List.pairwise_cons.mp hb
    have e : x = y := by
      have h1 := (h x).mp (by simp)
      have h2 := (h y).mpr (by simp)
      rcases List.mem_cons.mp h1 with e | e
      · exact e
      · rcases List.mem_cons.mp h2 with f | f
        · exact f.symm
        · have := a1 y f; have := b1 x e; omega
    subst e
    have := up_eq a2 b2 fun k => by
      constructor
      · intro hk
        rcases List.mem_cons.mp ((h k).mp (by simp [hk])) with e | e
        · have := a1 k hk; omega
        · exact e
      · intro hk
        rcases List.mem_cons.mp ((h k).mpr (by simp [hk])) with e | e
        · have := b1 k hk; omega
        · exact e
    rw [this]
/-! ## sorted({elt for x in it if ..}) -/
open Classical in
noncomputable def siL (ok : S → Prop) (vs : List Nat) (f : SV → M Unit) (tt : M Bool) (me : M RV) : List SV → List Int → M (List Int)
  | [], acc => fun s => if ok s then .ok acc s else .bad
  | x :: xs, acc => fun s => if ok s then match f x s with
    | .ok _ s1 => match tt s1 with
      | .ok true s2 => match me s2 with
        | .ok (.sv (.dat (.int k))) s3 => if acc.length < 60 then siL ok vs f tt me xs (acc ++ [k]) (wipeS vs s3) else .bad
        | _ => .bad
      | .ok false s2 => siL ok vs f tt me xs acc (wipeS vs s2)
      | _ => .bad
    | _ => .bad
    else .bad
theorem siL_ne {ok : S → Prop} {vs : List Nat} {f : SV → M Unit} {tt : M Bool} {me : M RV} {x : Exn} : ∀ (xs : List SV) (acc : List Int) (s s' : S), siL ok vs f tt me xs acc s ≠ .exc x s'
  | [], acc, s, s', h => by
    unfold siL at h
    split at h <;> cases h
  | y :: xs, acc, s, s', h => by
    unfold siL at h
    split at h
    · split at h
      · split at h
        · split at h
          · split at h
            · exact siL_ne xs _ _ _ h
            · cases h
          · cases h
        · exact siL_ne xs _ _ _ h
        · cases h
      · cases h
    · cases h
noncomputable def ssM (mi : M Src) (vs : List Nat) (f : SV → M Unit) (tt : M Bool) (me : M RV) : M RV := bnd mi fun src s => bnd (siL src.Ok vs f tt me src.items []) (fun acc => pur (.new ((sortS acc).map fun k => .dat (.int k)))) (wipeS vs s)
theorem si_it {J : It} {n : Nat} {Gd : Hp → Prop} {Y : Nat → Hp → V → Hp → Prop} (wk : L2.Walk J n Gd Y) {w : World} {g : TG} {tt : TT} {te : TE} {vs : List Nat} {σ : L2.St} {Ha : Hp} {D : Addr} {Qd : Hp → Prop} (Pv : Nat → Hp → Prop) (h0 : Pv 0 (upd Ha D (SetO w D (fun _ => false) 0))) (hG : ∀ i H, i ≤ n → Pv i H → Gd H)
    (hs : ∀ i x H H', i < n → Pv i H → Y i H x H' → turnI w g tt te vs σ D (Pv (i + 1)) x H') (hd : ∀ H, Pv n H → Qd H) :
    ∃ Wm : Nat → Nat → Hp → Prop, (∃ m, Wm 0 m (upd Ha D (SetO w D (fun _ => false) 0))) ∧ ∀ i m Hb, Wm i m Hb → (J.stop i Hb ∧ Qd Hb) ∨ (J.go i Hb ∧ ∃ Nx : Hp → Prop, (∀ Hc, Nx Hc → ∃ m', m' < m ∧ Wm (i + 1) m' Hc) ∧ ∀ x Hc, J.yld i Hb x Hc → turnI w g tt te vs σ D Nx x Hc) := by
  refine ⟨fun i m H => m + i = n ∧ Pv i H, ⟨n, rfl, h0⟩, ?_⟩
  rintro i m H ⟨e, p⟩
  have q := hG i H (by omega) p
  cases m with
  | zero =>
    have e' : i = n := by omega
    subst e'
    exact .inl ⟨wk.stops H q, hd H p⟩
  | succ m => exact .inr ⟨wk.goes i H (by omega) q, Pv (i + 1), fun H' p' => ⟨m, Nat.lt_succ_self m, by omega, p'⟩, fun x H' y => hs i x H H' (by omega) p (wk.yields i H x H' (by omega) q y)⟩
section
variable {X : Cx} {ct : Nat → Addr} {W : WX} {pos p spos : Pos} {e : Expr} {tg : Expr}
theorem ss_sem {K : PySem.W.Frag} {w : World} {wi : TI} {mi : M Src} {is vs : List Nat} {f : SV → M Unit} {mt : M Bool} {me : M RV}
    (ri : ∀ σ H γ s (R : It → Hp → Prop), Rep K ct γ H σ s → (mi s).post (fun src s' => ∀ γ' H' J, Step γ γ' s s' H H' → Rep K ct γ' H' σ s' → WalkD K ct J src γ' s' H' → R J H') (GoodX K ct W σ γ s H) → wi σ H R)
    (hv : ∀ j ∈ is, j ∈ vs) {σ : L2.St} {H : Hp} {γ : G} {s : S} {Q : VK} (R : Rep K ct γ H σ s) (h : Good K ct W σ γ s H (ssM mi vs f mt me s) Q) :
    tSi w wi (tmG K ct is f) (tmT K ct WF mt) (tmE K ct WF me) vs σ H (fun v H1 => rSortedSet w [v] H1 Q) := by
  refine ri σ H γ s _ R (Out.post.imp (post_bnd h) (fun src s1 g γ1 H1 J t1 R1 wd => ?_) fun _ _ z => z)
  intro D hD
  obtain ⟨Gd, Y, wk, hG, hY⟩ := wd.ex
  have nfree : H D = none := free_of t1.there hD
  refine si_it wk (fun i H2 => ∃ γ2 s2 acc S n, Step γ1 γ2 s1 s2 H1 H2 ∧ Rep K ct γ2 H2 (wipe σ vs) s2 ∧ H2 D = some (SetO w D S n) ∧ ¬ Own γ2 s2 D ∧ (∀ k, S k = true ↔ k ∈ acc) ∧ n ≤ acc.length ∧ acc.length ≤ 60 ∧
    Good K ct W σ γ s H (bnd (siL src.Ok vs f mt me (src.items.drop i) acc) (fun acc => pur (.new ((sortS acc).map fun k => .dat (.int k)))) s2) Q) ?_ ?_ ?_ ?_
  · refine ⟨γ1, wipeS vs s1, [], _, 0, step_wipe.trans (Step.laid hD), rep_wipe (R1.laid hD), upd_same, R1.notOwn_free hD, fun k => by simp, Nat.le_refl _, Nat.zero_le _, ?_⟩
    rw [List.drop_zero]
    exact g
  · rintro i H2 hi ⟨γ2, s2, acc, S, n, t2, R2, _, _, _, _, _, g2⟩
    refine hG γ2 s2 H2 _ t2 R2 ?_
    unfold bnd at g2
    cases e : src.items.drop i with
    | nil =>
      rw [e] at g2
      by_cases c : src.Ok s2
      · exact c
      · unfold siL at g2; rw [if_neg c] at g2; exact False.elim g2
    | cons y ys =>
      rw [e] at g2
      by_cases c : src.Ok s2
      · exact c
      · unfold siL at g2; rw [if_neg c] at g2; exact False.elim g2
  · rintro i x H2 H3 hi ⟨γ2, s2, acc, S, n, t2, R2, eD, nD, hS, hn, hl, g2⟩ y
    rw [List.drop_eq_getElem_cons hi] at g2
    unfold bnd siL at g2
    by_cases c : src.Ok s2
    · rw [if_pos c] at g2
      obtain ⟨sm, rx⟩ := hY i γ2 s2 H2 _ x H3 src.items[i] t2 R2 c (by simp [hi]) y
      have R3 := R2.kept sm
      have t3 : Step γ2 γ2 s2 s2 H2 H3 := step_same sm
      refine ⟨γ2, s2, _, R3, rx, ?_⟩
      cases e1 : f src.items[i] s2 with
      | bad => rw [e1] at g2; exact False.elim g2
      | exc z s3 => rw [e1] at g2; exact False.elim g2
      | ok u s3 =>
        rw [e1] at g2
        try dsimp only at g2
        intro σ4 γ4 H4 t4 R4 a4 l4
        have wq : wipe σ4 vs = wipe σ vs := by
          have e1 : wipe σ4 vs = wipe (wipe σ vs) vs := wipe_eq l4 fun j hj => a4 j fun z => hj (hv j z)
          rw [e1]
          exact wipe_eq (by rw [wipe_length]) fun j hj => wipe_out hj
        refine ⟨wq, ?_⟩
        refine ⟨γ4, s3, R4, ?_⟩
        have tt : Step γ1 γ4 s1 s3 H1 H4 := (t2.trans t3).trans t4
        have stay : ∀ {γa γb sa sb Ha Hb}, Step γa γb sa sb Ha Hb → ∀ o, Ha D = some o → ¬ Own γa sa D → Hb D = some o ∧ ¬ Own γb sb D := fun {γa γb sa sb Ha Hb} st o e n => by
          refine ⟨st.keep _ _ e n, fun z => ?_⟩
          rcases st.own _ z with q | q
          · exact n q
          · rw [e] at q; cases q
        obtain ⟨e4, n4⟩ := stay (t3.trans t4) _ eD nD
        unfold GoodT
        cases e2 : mt s3 with
        | bad => rw [e2] at g2; exact False.elim g2
        | exc z s5 => rw [e2] at g2; exact False.elim g2
        | ok bb s5 =>
          rw [e2] at g2
          try dsimp only at g2
          intro γ5 H5 t5 R5
          obtain ⟨e5, n5⟩ := stay t5 _ e4 n4
          cases bb with
          | false =>
            rw [if_neg (by decide)]
            refine ⟨γ5, wipeS vs s5, acc, S, n, (tt.trans t5).trans step_wipe, ?_, e5, n5, hS, hn, hl, g2⟩
            rw [← wq]
            exact rep_wipe R5
          | true =>
            rw [if_pos rfl]
            dsimp only at g2
            refine ⟨γ5, s5, R5, ?_⟩
            unfold Good
            cases e3 : me s5 with
            | bad => rw [e3] at g2; exact False.elim g2
            | exc z s6 => rw [e3] at g2; exact False.elim g2
            | ok r s6 =>
              rw [e3] at g2
              try dsimp only at g2
              split at g2
              · rename_i a s' heq
                split at heq
                · rename_i k s7 e8
                  cases e8
                  by_cases cl : acc.length < 60
                  · rw [if_pos cl] at heq
                    intro v γ6 H6 t6 R6 q6
                    obtain ⟨e6, n6⟩ := stay t6 _ e5 n5
                    have q6' : v = .int k := rep_int q6
                    subst q6'
                    refine ⟨k, S, n, rfl, e6, Nat.lt_of_le_of_lt (show n + 1 ≤ 61 by omega) (by decide), ?_⟩
                    have away : ∀ z u, H6 z = some u → u ≠ SetO w D S n → upd H6 D (SetO w D (grow S k) (many S k n)) z = some u := fun z u ez nz => by
                      rw [upd_ne]
                      · exact ez
                      · rintro rfl; rw [e6] at ez; exact nz (Option.some.inj ez).symm
                    have ki : KeepI H6 (upd H6 D (SetO w D (grow S k) (many S k n))) := fun z u ez iz => away z u ez fun q => by rw [q] at iz; exact iz
                    have t16 := (tt.trans t5).trans t6
                    have ts : Step γ1 γ6 s1 s6 H1 (upd H6 D (SetO w D (grow S k) (many S k n))) := by
                      refine ⟨fun z u ez nz => ?_, t16.own, fun z u ez iz => ?_, fun z hz => there_upd z (t16.there z hz), t16.kp, t16.len, t16.ah, t16.fresh⟩
                      · rw [upd_ne (ne_of_none ez hD)]; exact t16.keep z u ez nz
                      · rw [upd_ne (ne_of_none ez hD)]; exact t16.imm z u ez iz
                    have m2 : ∀ {v x}, RepS K ct γ6 s6.mem.length H6 v x → RepS K ct γ6 s6.mem.length (upd H6 D (SetO w D (grow S k) (many S k n))) v x := fun {v x} r => by
                      cases x with
                      | dat d => exact RepD.mono ki r
                      | ref k => exact r
                      | hand => exact r
                      | fn c => exact r
                    have R7 : Rep K ct γ6 (upd H6 D (SetO w D (grow S k) (many S k n))) σ4 s6 := by
                      refine ⟨R6.len, fun i x ex => ?_, fun k xs ex => ?_, R6.inj, fun h ex => ?_, R6.hdk⟩
                      · obtain ⟨v, q, r⟩ := R6.env i x ex
                        exact ⟨v, q, m2 r⟩
                      · obtain ⟨us, q, r⟩ := R6.mem k xs ex
                        exact ⟨us, away _ _ q (fun z => by cases z), Paired.mapP r fun _ _ z => m2 z⟩
                      · refine RepHd.mono (fun b u q hb => ?_) ki (R6.hd h ex)
                        rw [upd_ne]
                        · exact q
                        · rintro rfl; exact n6 (.inr ⟨by rw [ex]; exact (fun z => by cases z), hb⟩)
                    refine ⟨γ6, wipeS vs s6, acc ++ [k], _, _, ts.trans step_wipe, ?_, upd_same, n6, fun j => ?_, ?_, by simp; omega, ?_⟩
                    · rw [← wq]
                      exact rep_wipe R7
                    · simp [grow, hS]
                    · unfold many
                      split <;> simp <;> omega
                    · unfold bnd
                      rw [heq]
                      exact g2
                  · rw [if_neg cl] at heq; cases heq
                · cases heq
              · rename_i x s' heq
                split at heq
                · rename_i k s7 e8
                  cases e8
                  by_cases cl : acc.length < 60
                  · rw [if_pos cl] at heq
                    exact absurd heq (siL_ne _ _ _ _)
                  · rw [if_neg cl] at heq; cases heq
                · cases heq
              · exact False.elim g2
    · rw [if_neg c] at g2; exact False.elim g2
  · rintro H2 ⟨γ2, s2, acc, S, n, t2, R2, eD, nD, hS, hn, hl, g2⟩
    rw [List.drop_length] at g2
    unfold bnd siL at g2
    by_cases c : src.Ok s2
    · rw [if_pos c] at g2
      refine ⟨D, S, n, rfl, eD, by omega, fun ns q u1 u2 u3 hq => ?_⟩
      have e : ns = sortS acc := up_eq u1 (up_sortS _) fun k => by rw [u2, hS, mem_sortS]
      subst e
      have pr : ∀ l : List Int, Paired (RepS K ct γ2 s2.mem.length H2) (l.map V.int) (l.map fun k => SV.dat (.int k)) := fun l => by
        induction l with
        | nil => exact .nil
        | cons a l ih => exact .cons (RepD.int a) ih
      exact good_new (rep_unwipe R2) (pr _) (Good.step (t1.trans t2) g2) q hq
    · rw [if_neg c] at g2; exact False.elim g2
theorem ed_sortedSC {elt it : Expr} {ifs : List Expr} {scope : Scope} {own : List (Str × Nat)} {mi : M Src} {is : List Nat} {f : SV → M Unit} {mt : M Bool} {me : M RV} (calm : X.calm = true) (nd : X.N.Nodup) (hgs : Gl X "sorted") (hms : X.mg "sorted" = none) (hi : ID X ct W tg it mi) (blk : BlkOk X.N X.env.scope scope own) (hv : ∀ j ∈ is, j ∈ own.map (·.2))
    (hg : ∀ (s : Shared) (H : Hp) (C : Addr) (cl : List (Str × Addr)) (fp : List Addr), GD (X.blk s H scope (compEnvC scope cl C X.env) fp) ct tg is f) (ht : ∀ (s : Shared) (H : Hp) (C : Addr) (cl : List (Str × Addr)) (fp : List Addr), IfsD (X.blk s H scope (compEnvC scope cl C X.env) fp) ct ifs mt)
    (he : ∀ (s : Shared) (H : Hp) (C : Addr) (cl : List (Str × Addr)) (fp : List Addr), ED (X.blk s H scope (compEnvC scope cl C X.env) fp) ct WF elt me) (hs : ∀ x, foldedSetIterable it X.env x = pure x := by intro _; rfl) :
    ED X ct W (.Call (.Name "sorted" p) [.SetComp elt [⟨tg, it, ifs, 0⟩] scope spos] [] pos) (ssM mi (own.map (·.2)) f mt me) := by
  obtain ⟨wi, pi, ri⟩ := hi.ex
  refine ⟨_, pe_callB (cr_sortedSet calm) hgs hms PyProof.Rows.boot_sorted (pa_cons (pe_si (g := tmG X.K ct is f) (tt := tmT X.K ct WF mt) (te := tmE X.K ct WF me) calm nd pi blk (fun s H C cl fp => (hg s H C cl fp).pg) (fun s H C cl fp => (ht s H C cl fp).pts) (fun s H C cl fp => (he s H C cl fp).pe) hs) pa_nil), fun σ H γ s Q R h => ?_⟩
  exact ss_sem (w := X.w) ri hv R h
end
end Fd
set_option Elab.async false
set_option linter.all false
set_option maxRecDepth 100000
set_option maxHeartbeats 4000000
namespace PySem
open Sem (wp)
/-- enumerate(v) of one argument -/
theorem meets_enum1 {v : Value} {o : Obj} {Hd : Heap → Prop} (B : Begins v o Hd) : Meets (Builtin.«enumerate.__new__» ⟨[.type "enumerate", v], []⟩) (fun _ R s => Hd s.heap ∧
    R (.ok (.ret (.ref (s.heap.push o).objs.size))) { s with heap := (s.heap.push o).push { cls := .type "enumerate", data := .fields #[.none, .bool false, .ref s.heap.objs.size, rawInt 0, .none, .none] } }) :=
  .of_wp fun prog w A R s both => by
    obtain ⟨hp, g, d, tk, os⟩ := s
    obtain ⟨hB, fin⟩ := both
    have hsub := sub_enumerate
    have itr : ∀ {Ab : Around} {Ex : Value → Shared → Prop} {Qv : Value → Shared → Prop}, Qv (.ref hp.objs.size) ⟨hp.push o, g, d, tk, os⟩ → wpAny (model prog w) Ab (pyIter v) Qv Ex ⟨hp, g, d, tk, os⟩ := fun q => B.iter prog w _ _ ⟨hp, g, d, tk, os⟩ _ hB q
    wp_walk using itr
    refine wpAny_stack_any fun st => wpAny_pure ?_
    split
    · rename_i c _ _ _ _ _
      cases (c == Value.type "enumerate") <;> (wp_walk using itr; exact ⟨_, rfl, fin⟩)
    · wp_walk using itr
      exact ⟨_, rfl, fin⟩
section
variable {prog : Program} {w : World} {A : Around} {Ex : Value → Shared → Prop} {s : Shared}
theorem enum1_begins {v : Value} {o : Obj} {Hd : Heap → Prop} {Qv : Value → Shared → Prop} (B : Begins v o Hd) (hB : Hd s.heap)
    (fin : ∀ hb, IsEnum hb (s.heap.objs.size + 1) s.heap.objs.size 0 .none → hb.get? s.heap.objs.size = some o → hb.objs.size = s.heap.objs.size + 2 → (∀ b u, s.heap.get? b = some u → hb.get? b = some u) → Qv (.ref (s.heap.objs.size + 1)) { s with heap := hb }) :
    wpAny (model prog w) A (call (.type "enumerate") [v]) Qv Ex s := by
  refine callType_new F.called_enumerate (by decide) (F.typeCall_enumerate_1 _) (F.newCall_enumerate_1 _) (fun obj => F.args_object_init_2 obj _) F.entry_enumerate_new (meets_enum1 B) ⟨hB, ?_⟩
  have sz : (s.heap.push o).objs.size = s.heap.objs.size + 1 := Heap.size_push ..
  show _ ∧ _
  rw [sz]
  have hE : IsEnum ((s.heap.push o).push { cls := .type "enumerate", data := .fields #[.none, .bool false, .ref s.heap.objs.size, rawInt 0, .none, .none] }) (s.heap.objs.size + 1) s.heap.objs.size 0 .none := by
    have q := Heap.get?_push_size (s.heap.push o) (o := { cls := .type "enumerate", data := .fields #[.none, .bool false, .ref s.heap.objs.size, rawInt 0, .none, .none] }) rfl
    rw [sz] at q; exact q
  exact ⟨⟨_, hE, rfl⟩, fin _ hE (Heap.get?_push_of_some _ (Heap.get?_push_size _ B.free)) (by rw [Heap.size_push, sz]) fun b u q => Heap.get?_push_of_some _ (Heap.get?_push_of_some _ q)⟩
end
end PySem
namespace Fd
open PySem PySem.Spec PyProof.Rows L2
/-- the tuple at a, each item in a new pair -/
def Itet (K : PySem.W.Frag) (a : Addr) : It :=
  ⟨fun i H => ∃ (xs : List V) (x : V), SqT K H a xs ∧ xs[i]? = some x, fun i H v H' => ∃ T x, v = .ref T ∧ H T = none ∧ H' = upd H T (.tup [.int (i : Nat), x]) ∧ ∀ xs, SqT K H a xs → xs[i]? = some x, fun i H => ∃ xs : List V, SqT K H a xs ∧ xs.length = i⟩
theorem turn_enumT {P : Program} {w : World} {K : PySem.W.Frag} {elts : List Expr} {kk : Nat} {tpos : Pos} (a e it : Addr) :
    Turn P w K (.Tuple elts kk tpos) (Itet K a) [e, it] e (fun i h => (∃ old, IsEnum h e it ((i : Nat) : Int) old) ∧ h.IsTupleIter it a i ∧ e ≠ it ∧ a ≠ it ∧ e ≠ a) where
  mem := by simp
  obj := fun i h st b hb => by
    obtain ⟨⟨old, he⟩, ⟨o, ho, hc, hd⟩, _⟩ := st
    rcases (show b = e ∨ b = it by simpa using hb) with rfl | rfl
    · exact ⟨_, he, fun v q => nomatch q⟩
    · exact ⟨o, ho, fun v q => by rw [hd] at q; cases q⟩
  keep := fun i h hb st k => let ⟨⟨old, he⟩, hi, far⟩ := st; ⟨⟨old, k e (by simp) _ he⟩, hi.at fun o q => k it (by simp) o q, far⟩
  item := by
    intro X hP hw hK hc i pins s σ H Ex I hf st hg
    subst hP hw hK
    obtain ⟨⟨old, he⟩, hit, hne, na, nea⟩ := st
    obtain ⟨xs, x, hq, hx⟩ := hg
    obtain ⟨its, rv, p, hz⟩ := I.tuple hq
    obtain ⟨u, hu, ru⟩ := rv.get hx
    have hel : e < s.heap.objs.size := Heap.lt_size he
    have hil : it < s.heap.objs.size := by obtain ⟨_, q, _⟩ := hit; exact Heap.lt_size q
    have hlt : i < its.toArray.size := by
      have := (List.getElem?_eq_some_iff.mp hu).1
      simpa using this
    have D := Draws.tuple (prog := X.prog) (w := X.w) (A := X.A.in1) (I.ok.hd hc) it a na its.toArray
    refine wpAny_pyNext_enum_itemD D he ⟨hit, p⟩ hlt hne (by simp [hne, nea]) fun y hb tk ey out stb eT szb kb => ?_
    have ey2 : y = u := by
      have q : its.toArray[i]? = some y := ey
      rw [List.getElem?_toArray, hu] at q
      exact (Option.some.inj q).symm
    subst ey2
    refine ⟨_, rfl, wpAny_letOwnedTupleGo_enum (s := { s with heap := hb, toks := tk + 1 }) out fun hc2 he2 sb => ?_⟩
    have eT2 : hc2.get? s.heap.objs.size = some { cls := .type "tuple", data := .seq #[.int i tk, y] } := (sb.2 _ (Nat.ne_of_gt hel)).trans eT
    have pair : ObjOk X.prog X.w (upd H s.heap.objs.size (.tup [.int (i : Nat), x])) hc2 s.heap.objs.size (.tup [.int (i : Nat), x]) := ⟨by show 2 ≤ sizeLine; decide, [.int i tk, y], .cons ⟨_, rfl⟩ (.cons ru .nil), ⟨_, eT2, rfl, _, rfl⟩⟩
    have I2 : Inv X pins σ (upd H s.heap.objs.size (.tup [.int (i : Nat), x])) { s with heap := hc2, toks := tk + 1 } :=
      I.turnedNew (ch := [e, it]) (fun b ob ne q => (sb.2 b (fun z => ne (by simp [z]))).trans (kb b ob (fun z => ne (by simp [z])) (fun z => ne (by simp [z])) q)) hf (Nat.le_refl _) pair
    refine ⟨.ref s.heap.objs.size, _, I2, rfl, ⟨_, x, rfl, I.hok.fresh (Nat.le_refl _), rfl, fun ys hy => by rw [I.tuple_inj hy hq]; exact hx⟩, ⟨⟨y, ?_⟩, stb.1.at fun o q => (sb.2 it (Ne.symm hne)).trans q, hne, na, nea⟩, fun b bm => ?_⟩
    · rw [show ((i + 1 : Nat) : Int) = (i : Int) + 1 by omega]; exact he2
    · have lt : b < s.heap.objs.size := by
        rcases (show b = e ∨ b = it by simpa using bm) with z | z
        · rw [z]; exact hel
        · rw [z]; exact hil
      rw [upd_ne (Nat.ne_of_lt lt)]
      exact (hf b bm).1
  done := by
    intro X hP hw hK hc i pins s σ H Ex I hf st hg
    subst hP hw hK
    obtain ⟨⟨old, he⟩, hit, hne, na, nea⟩ := st
    obtain ⟨xs, hq, hx⟩ := hg
    obtain ⟨its, rv, p, hz⟩ := I.tuple hq
    obtain ⟨o0, o1, o2, o3, o4, o5⟩ := hf it (by simp)
    have hl := rv.length
    have D := Draws.tuple (prog := X.prog) (w := X.w) (A := X.A.in1) (I.ok.hd hc) it a na its.toArray
    have st2 : its.toArray.size = i := by rw [List.size_toArray, ← hl, hx]
    subst hx
    rw [hl, ← List.size_toArray] at hit
    exact wpAny_pyNext_enum_endD D he ⟨hit, p⟩ fun hb eb => ⟨rfl, I.turned (t' := s.toks) (fun b o ne q => eb b o ne q) o0 o1 o3 o4 o5⟩
  self := fun A i s Q Ex st h => let ⟨⟨_, he⟩, _⟩ := st; wpAny_pyIter_enum he h
def iEnumA (K : PySem.W.Frag) (ta : TA) : TI := fun σ H R => ta σ H fun vs Ha => ∃ a, vs = [.ref a] ∧ ((∃ xs, SqL K Ha a xs ∧ R (Ite K a) Ha) ∨ (∃ xs, SqT K Ha a xs ∧ R (Itet K a) Ha))
theorem pi_enumA {X : Cx} {e : Expr} {ta : TA} {p pos tpos : Pos} {elts : List Expr} {kk : Nat} (hg : Gl X "enumerate") (hm : X.mg "enumerate" = none) (ha : PA X [e] ta) (hs : starEach [e] X.env = [(false, eval e X.env)] := by rfl) :
    PI X (.Tuple elts kk tpos) (.Call (.Name "enumerate" p) [e] [] pos) (iEnumA X.K ta) := by
  refine ⟨fun pins s σ H R I h => Call_ (ld_blt I hg hm boot_enumerate (PyProof.Rows.callWith_type1 (thn (ha.run pos pins s σ H _ I h) fun us sa ⟨vs, Ha, Ia, rs, a, ev, q⟩ => ?_) hs rfl))⟩
  subst ev
  have ea := Vals.ref1 rs
  subst ea
  have fresh2 : ∀ hb : Heap, hb.objs.size = sa.heap.objs.size + 2 → ∀ b ∈ [sa.heap.objs.size + 1, sa.heap.objs.size], FpOk X pins Ha b := fun hb _ b bm => by
    have le : sa.heap.objs.size ≤ b := by
      rcases (show b = sa.heap.objs.size + 1 ∨ b = sa.heap.objs.size by simpa using bm) with z | z <;> omega
    exact Ia.fpOk le (Ia.hok.fresh le)
  rcases q with ⟨xs, hq, q⟩ | ⟨xs, hq, q⟩
  · obtain ⟨its, rv, pl, hz⟩ := Ia.list hq
    refine enum1_begins (begins_list a its.toArray) pl.isList fun hb hE hI sz kk2 => wpAny_pyIter_enum hE ?_
    refine ⟨sa.heap.objs.size + 1, [sa.heap.objs.size + 1, sa.heap.objs.size], _, _, Ha, rfl, Ia.kept (t' := sa.toks) kk2, turn_enum a (sa.heap.objs.size + 1) sa.heap.objs.size, ⟨⟨.none, hE⟩, ⟨_, hI, rfl, rfl⟩, Nat.succ_ne_self _⟩, fresh2 hb sz, q⟩
  · obtain ⟨its, rv, pt, hz⟩ := Ia.tuple hq
    have lt : a < sa.heap.objs.size := by obtain ⟨_, z, _⟩ := pt; exact Heap.lt_size z
    refine enum1_begins (begins_tuple a its.toArray) (show sa.heap.IsTuple a its.toArray from pt) fun hb hE hI sz kk2 => wpAny_pyIter_enum hE ?_
    exact ⟨sa.heap.objs.size + 1, [sa.heap.objs.size + 1, sa.heap.objs.size], _, _, Ha, rfl, Ia.kept (t' := sa.toks) kk2, turn_enumT a (sa.heap.objs.size + 1) sa.heap.objs.size, ⟨⟨.none, hE⟩, ⟨_, hI, rfl, rfl⟩, Nat.succ_ne_self _, Nat.ne_of_lt lt, Nat.ne_of_gt (Nat.lt_succ_of_lt lt)⟩, fresh2 hb sz, q⟩
theorem walk_enumT {K : PySem.W.Frag} {a : Addr} {xs : List V} : L2.Walk (Itet K a) xs.length (fun H => SqT K H a xs) (YPair (fun i => some (.int (i : Nat))) (fun i => xs[i]?)) :=
  ⟨fun i H hi q => ⟨xs, xs[i], q, by simp [hi]⟩, fun H q => ⟨xs, q, rfl⟩, fun i H x H2 hi q y => by
    obtain ⟨T, z, e1, e2, e3, e4⟩ := y
    exact ⟨T, .int (i : Nat), z, e1, e2, e3, rfl, e4 xs q⟩⟩
end Fd
set_option Elab.async false
set_option linter.all false
set_option maxRecDepth 100000
set_option maxHeartbeats 4000000
namespace Fd
open PySem PySem.Spec PyProof.Rows L2
/-! ## an own list is changed -/
theorem own_step {K : PySem.W.Frag} {ct : Nat → Addr} {γ : G} {s : S} {H : Hp} {σ : L2.St} (R : Rep K ct γ H σ s) {k : Nat} {xs ys : List SV} (e : s.mem[k]? = some (some xs)) {us : List V} (p : Paired (RepS K ct γ s.mem.length H) us ys) :
    Step γ γ s { s with mem := s.mem.set k (some ys) } H (upd H (γ.kp k) (.lst us)) ∧ Rep K ct γ (upd H (γ.kp k) (.lst us)) σ { s with mem := s.mem.set k (some ys) } := by
  obtain ⟨vs, ek, _⟩ := R.mem k xs e
  have lk : Live s k := ⟨xs, e⟩
  have hk : k < s.mem.length := lk.lt
  have live : ∀ j, Live { s with mem := s.mem.set k (some ys) } j → Live s j := fun j ⟨zs, ez⟩ => by
    by_cases hj : k = j
    · subst hj; exact lk
    · have ez' : (s.mem.set k (some ys))[j]? = some (some zs) := ez
      rw [List.getElem?_set_ne hj] at ez'
      exact ⟨zs, ez'⟩
  have ki : KeepI H (upd H (γ.kp k) (.lst us)) := fun x u ex i => by
    rw [upd_ne]
    · exact ex
    · rintro rfl; rw [ek] at ex; cases ex; exact i
  have st : Step γ γ s { s with mem := s.mem.set k (some ys) } H (upd H (γ.kp k) (.lst us)) := by
    refine ⟨fun x u ex n => ?_, fun x z => ?_, ki, fun x z => there_upd x z, fun _ _ => rfl, by simp, rfl, fun j h1 h2 => by simp at h2; omega⟩
    · rw [upd_ne]
      · exact ex
      · rintro rfl; exact n (.inl ⟨k, lk, rfl⟩)
    · rcases z with ⟨j, lj, rfl⟩ | z
      · exact .inl (.inl ⟨j, live j lj, rfl⟩)
      · exact .inl (.inr z)
  refine ⟨st, R.len, fun i x ex => ?_, fun j zs ez => ?_, fun i j li lj => R.inj i j (live i li) (live j lj), fun h eh => ?_, fun z j lj => R.hdk z j (live j lj)⟩
  · obtain ⟨v, q, r⟩ := R.env i x ex
    exact ⟨v, q, r.mono st⟩
  · have ez' : (s.mem.set k (some ys))[j]? = some (some zs) := ez
    by_cases hj : k = j
    · subst hj
      rw [List.getElem?_set_self hk] at ez'
      cases ez'
      exact ⟨us, upd_same, RepSs.mono st p⟩
    · rw [List.getElem?_set_ne hj] at ez'
      obtain ⟨ws, q, r⟩ := R.mem j zs ez'
      refine ⟨ws, ?_, RepSs.mono st r⟩
      rw [upd_ne]
      · exact q
      · exact fun z => hj (R.inj j k ⟨zs, ez'⟩ lk z).symm
  · refine RepHd.mono (fun b u q hb => ?_) ki (R.hd h eh)
    rw [upd_ne]
    · exact q
    · rintro rfl
      have := R.hdk (by rw [show s.hd = some h from eh]; exact fun z => by cases z) k lk
      rcases hb with z | z
      · exact this.1 z
      · exact this.2 z

section
variable {X : Cx} {ct : Nat → Addr} {W : WX} {pos p apos : Pos} {a b c e o i : Expr} {m mo mi ma mb mc : M RV}
/-- x.append(e) on an own list -/
def appM (mo me : M RV) : M RV := bnd mo fun x => match x with
  | .sv (.ref k) => fun s0 => match s0.mem[k]? with
    | some (some _) => bnd me (fun y => match y with
      | .sv d => fun s => match s.mem[k]? with
        | some (some xs) => if xs.length < 100000 then .ok RN { s with mem := s.mem.set k (some (xs ++ [d])) } else .bad
        | _ => .bad
      | _ => stuck) s0
    | _ => .bad
  | _ => stuck
theorem ed_append (ho : ED X ct W o mo) (he : ED X ct W e m) (hs : starEach [e] X.env = [(false, eval e X.env)] := by rfl) (hbase : attributeBase o "append" X.env (eval o X.env) = eval o X.env := by rfl) (hline : (apos.endLine == pos.line) = true := by rfl)
    (hfew : ((backTo pos (starEach [e] X.env)).all (fun x => !x.1) && (backToKw pos (keywordEach [] X.env)).all (fun x => x.1.isSome) && decide ([e].length + ([] : List Keyword).length + (if ([] : List Keyword).isEmpty then 0 else 1) < 30)) = true := by rfl) :
    ED X ct W (.Call (.Attribute o "append" apos) [e] [] pos) (appM mo m) := by
  obtain ⟨to, po, ro⟩ := ho.ex
  obtain ⟨te, pe, re⟩ := he.ex
  refine ⟨_, pe_bm PySem.F.plainAttrs_list PySem.F.slot_list_append PySem.F.type_list_append mt_append po (pa_cons pe pa_nil hs) hbase hfew hline hs rfl, fun σ H γ s Q R h => ?_⟩
  refine ro σ H γ s _ R (use_e h (fun _ _ z => z) fun x s1 v γ1 H1 t1 R1 q1 g => ?_)
  split at g
  · rename_i k
    have q1' : k < s1.mem.length ∧ v = .ref (γ1.kp k) := q1
    obtain ⟨hk, rfl⟩ := q1'
    split at g
    · rename_i xs0 e0
      obtain ⟨vs0, ek0, _⟩ := R1.mem k xs0 e0
      refine ⟨.inl ⟨rfl, vs0, SqL.of ek0⟩, ?_⟩
      refine re σ H1 γ1 s1 _ R1 (use_e (Good.step t1 g) (fun _ _ z => z) fun y s2 w γ2 H2 t2 R2 q2 g2 => ?_)
      cases y with
      | new _ => exact False.elim g2
      | sv d =>
        dsimp only at g2
        cases e1 : s2.mem[k]? with
        | none => simp only [e1] at g2; exact False.elim g2
        | some ox =>
          cases ox with
          | none => simp only [e1] at g2; exact False.elim g2
          | some xs =>
            simp only [e1] at g2
            by_cases cl : xs.length < 100000
            · rw [if_pos cl] at g2
              obtain ⟨vs, ek, pr⟩ := R2.mem k xs e1
              have kp : γ2.kp k = γ1.kp k := t2.kp k hk
              obtain ⟨st, R3⟩ := own_step R2 e1 (RepDs.appendS pr (.cons q2 .nil))
              rw [kp] at st R3 ek
              exact ⟨_, vs, w, rfl, rfl, ek, by rw [Paired.length pr]; exact Nat.lt_of_lt_of_le cl (by decide), g2 _ γ2 _ (t2.trans st) R3 RepD.non⟩
            · rw [if_neg cl] at g2; exact False.elim g2
    · exact False.elim g
  · exact False.elim g
/-- x[i] = v on an own list -/
def setIx (x : RV) (j : RV) (d : SV) : M Unit := match x, j with
  | .sv (.ref k), .sv (.dat (.int n)) => fun s => match s.mem[k]? with
    | some (some xs) => match ixN xs.length n with
      | some q => .ok () { s with mem := s.mem.set k (some (xs.set q d)) }
      | none => .bad
    | _ => .bad
  | _, _ => stuck
def subG (mo mi : M RV) (d : SV) : M Unit := fun s => match mo s with
  | .ok x s1 => match mi s1 with
    | .ok j s2 => setIx x j d s2
    | _ => .bad
  | _ => .bad
theorem paired_set {α β : Type} {F : α → β → Prop} : ∀ {l : List α} {m : List β} {q : Nat} {u : α} {v : β}, Paired F l m → F u v → Paired F (l.set q u) (m.set q v)
  | _, _, _, _, _, .nil, _ => .nil
  | _, _, 0, _, _, .cons r t, h => .cons h t
  | _, _, q + 1, _, _, .cons r t, h => .cons r (paired_set t h)
theorem gd_sub (ho : ED X ct WF o mo) (hi : ED X ct WF i mi) (ha : ∀ v, assign (.Subscript o i pos) X.env v = (do
      let ov ← holding [v] (eval o X.env)
      let iv ← holding [v, ov] (eval i X.env)
      standAt pos
      holding [v, ov, iv] (setItem ov iv v)
      release [v, ov, iv] []) := by intros; rfl) : GD X ct (.Subscript o i pos) [] (subG mo mi) := by
  obtain ⟨to, po, ro⟩ := ho.ex
  obtain ⟨ti, pi, ri⟩ := hi.ex
  refine ⟨_, pg_sub po pi set_list ha, fun σ H γ s v d Q R q h => ?_⟩
  unfold subG at h
  refine ro σ H γ s _ R ?_
  unfold Good
  cases e1 : mo s with
  | bad => rw [e1] at h; exact False.elim h
  | exc z s1 => rw [e1] at h; exact False.elim h
  | ok x s1 =>
    rw [e1] at h
    intro ov γ1 H1 t1 R1 q1
    refine ri σ H1 γ1 s1 _ R1 ?_
    unfold Good
    dsimp only at h
    cases e2 : mi s1 with
    | bad => rw [e2] at h; exact False.elim h
    | exc z s2 => rw [e2] at h; exact False.elim h
    | ok j s2 =>
      rw [e2] at h
      intro iv γ2 H2 t2 R2 q2
      dsimp only at h
      unfold setIx at h
      split at h
      · rename_i k n
        split at h
        · rename_i xs e3
          split at h
          · rename_i jj e4
            have q1' : k < s1.mem.length ∧ ov = .ref (γ1.kp k) := q1
            obtain ⟨hk, rfl⟩ := q1'
            obtain ⟨vs, ek, pr⟩ := R2.mem k xs e3
            have kp : γ2.kp k = γ1.kp k := t2.kp k hk
            have tt := t1.trans t2
            obtain ⟨st, R3⟩ := own_step R2 e3 (paired_set (q := jj) pr (q.mono tt))
            rw [kp] at st R3 ek
            exact ⟨_, vs, n, jj, rfl, rep_int q2, ek, by rw [Paired.length pr]; exact e4, h σ γ2 _ (tt.trans st) R3 (fun _ _ => rfl) rfl⟩
          · exact False.elim h
        · exact False.elim h
      · exact False.elim h
/-- list * int -/
def repLM : RV → RV → M RV
  | .new xs, .sv (.dat (.int n)) => fun s => if 0 ≤ n ∧ n ≤ 1000 ∧ xs.length ≤ 100 then .ok (.new (List.replicate n.toNat xs).flatten) s else .bad
  | _, _ => stuck
theorem paired_app {α β : Type} {F : α → β → Prop} {l l2 : List α} {m m2 : List β} (h : Paired F l m) (k : Paired F l2 m2) : Paired F (l ++ l2) (m ++ m2) := by
  induction h with
  | nil => exact k
  | cons r t ih => exact .cons r ih
theorem paired_rep {α β : Type} {F : α → β → Prop} {l : List α} {m : List β} (h : Paired F l m) : ∀ n : Nat, Paired F (List.replicate n l).flatten (List.replicate n m).flatten
  | 0 => .nil
  | n + 1 => by rw [List.replicate_succ, List.flatten_cons, List.replicate_succ, List.flatten_cons]; exact paired_app h (paired_rep h n)
theorem repLM_ok : BinOk X ct rRep repLM := by
  intro W σ γ s H Ha Hb x y r1 r2 Q R q1 q2 h
  unfold repLM at h
  split at h
  · rename_i xs n
    by_cases cc : 0 ≤ n ∧ n ≤ 1000 ∧ xs.length ≤ 100
    · rw [if_pos cc] at h
      obtain ⟨a, vs, rfl, e0, ea, na, p⟩ := q1
      have hl := Paired.length p
      have hm : vs.length * n.toNat ≤ 100 * 1000 := Nat.mul_le_mul (by omega) (by omega)
      exact ⟨a, n, vs, rfl, rep_int q2, ea, by omega, by omega, Nat.le_trans hm (by decide), good_new R (paired_rep p _) h⟩
    · rw [if_neg cc] at h; exact False.elim h
  · exact False.elim h
theorem ed_repL (ha : ED X ct W a ma) (hb : ED X ct W b mb) : ED X ct W (.BinOp a .Mult b pos) (m2 ma mb repLM) := ed_bin op_rep repLM_ok ha hb
end
end Fd
set_option Elab.async false
set_option linter.all false
set_option maxRecDepth 100000
set_option maxHeartbeats 4000000
namespace Fd
open PySem PySem.Spec PyProof.Rows L2
section
variable {X : Cx} {ct : Nat → Addr} {W : WX} {pos p : Pos} {a b c e tg : Expr} {m ma mb mc : M RV}
/-! ## a op b op c -/
def chainM (f g : RV → RV → M RV) (ma mb mc : M RV) : M RV := bnd ma fun x => bnd mb fun y => bnd (f x y) fun z => bnd (asB z) fun k => if k = true then bnd mc (fun w => g y w) else pur (RB false)
theorem chain_sem {r r' : R2} {f g : RV → RV → M RV} (hf : BinOk X ct r f) (hg : BinOk X ct r' g) {ta tb tc : TE} (ra : ∀ σ H γ s Q, Rep X.K ct γ H σ s → Good X.K ct W σ γ s H (ma s) Q → ta σ H Q) (rb : ∀ σ H γ s Q, Rep X.K ct γ H σ s → Good X.K ct W σ γ s H (mb s) Q → tb σ H Q) (rc : ∀ σ H γ s Q, Rep X.K ct γ H σ s → Good X.K ct W σ γ s H (mc s) Q → tc σ H Q)
    {σ : L2.St} {H : Hp} {γ : G} {s : S} {Q : VK} (R : Rep X.K ct γ H σ s) (h : Good X.K ct W σ γ s H (chainM f g ma mb mc s) Q) : tChain r r' ta tb tc σ H Q := by
  refine ra σ H γ s _ R (use_e h (fun _ _ z => z) fun x s1 v γ1 H1 t1 R1 q1 g1 => ?_)
  refine rb σ H1 γ1 s1 _ R1 (use_e (Good.step t1 g1) (fun _ _ z => z) fun y s2 u γ2 H2 t2 R2 q2 g2 => ?_)
  refine hf W σ γ2 s2 H2 _ _ v u x y _ R2 (q1.mono t2) q2 (use_e (Good.step t2 g2) (fun _ _ z => z) fun z s3 w γ3 H3 t3 R3 q3 g3 => ?_)
  unfold asB at g3
  split at g3
  · rename_i k
    refine ⟨k, rep_bl q3, ?_⟩
    cases k with
    | true =>
      rw [if_pos rfl]
      have g4 : Good X.K ct W σ γ2 s2 H2 (bnd mc (fun w => g y w) s3) Q := g3
      refine rc σ H3 γ3 s3 _ R3 (use_e (Good.step t3 g4) (fun _ _ z => z) fun z s4 w' γ4 H4 t4 R4 q4 g5 => ?_)
      exact hg W σ γ4 s4 H4 _ _ u w' y z _ R4 ((q2.mono t3).mono t4) q4 (Good.step t4 g5)
    | false =>
      rw [if_neg (by decide)]
      exact g3 (.bl false) γ3 H3 t3 R3 (repB _)
  · exact False.elim g3
theorem ed_chain {o1 o2 : CmpOp} {r r' : R2} {f g : RV → RV → M RV} (h1 : OpR X (compareOp o1) r) (h2 : OpR X (compareOp o2) r') (hf : BinOk X ct r f) (hg : BinOk X ct r' g) (ha : ED X ct W a ma) (hb : ED X ct W b mb) (hc : ED X ct W c mc)
    (hm : lastMarks [o1, o2] [b, c] = false := by with_unfolding_all rfl) : ED X ct W (.Compare a [o1, o2] [b, c] pos) (chainM f g ma mb mc) := by
  obtain ⟨ta, pa, ra⟩ := ha.ex
  obtain ⟨tb, pb, rb⟩ := hb.ex
  obtain ⟨tc, pc, rc⟩ := hc.ex
  exact ⟨_, pe_chain h1 h2 pa pb pc hm, fun σ H γ s Q R h => chain_sem hf hg ra rb rc R h⟩
theorem td_chain {o1 o2 : CmpOp} {r r' : R2} {f g : RV → RV → M RV} (h1 : OpR X (compareOp o1) r) (h2 : OpR X (compareOp o2) r') (hf : BinOk X ct r f) (hg : BinOk X ct r' g) (ha : ED X ct W a ma) (hb : ED X ct W b mb) (hc : ED X ct W c mc)
    (hm : lastMarks [o1, o2] [b, c] = false := by with_unfolding_all rfl) : TD X ct W (.Compare a [o1, o2] [b, c] pos) (bnd (chainM f g ma mb mc) asB) := by
  obtain ⟨ta, pa, ra⟩ := ha.ex
  obtain ⟨tb, pb, rb⟩ := hb.ex
  obtain ⟨tc, pc, rc⟩ := hc.ex
  refine ⟨_, pt_chain h1 h2 pa pb pc hm, fun σ H γ s Q R h => ?_⟩
  have h' : Good X.K ct W σ γ s H (chainM f g ma mb mc s) (fun x H' => ∃ k, x = .bl k ∧ Q k H') := use_e h (fun _ _ z => z) fun r s1 v γ1 H1 t1 R1 r1 g => by
    unfold asB at g
    split at g
    · exact ⟨_, rep_bl r1, g γ1 H1 t1 R1⟩
    · exact False.elim g
  exact chain_sem hf hg ra rb rc R h'
theorem ltOk : BinOk X ct (rI0 fun i j => .bl (decide (i < j))) ltM := int2_ok fun i j _ _ _ _ _ => repB _
theorem leOk : BinOk X ct (rI0 fun i j => .bl (decide (i ≤ j))) leM := int2_ok fun i j _ _ _ _ _ => repB _
/-! ## enumerate -/
def enumF : Nat → List D → List SV
  | _, [] => []
  | i, d :: r => .dat (.tup [.int (i : Nat), d]) :: enumF (i + 1) r
theorem enumF_len : ∀ (ds : List D) (i : Nat), (enumF i ds).length = ds.length
  | [], _ => rfl
  | d :: r, i => by unfold enumF; simp [enumF_len r]
theorem enumF_at : ∀ (ds : List D) (k i : Nat) (y : SV), (enumF k ds)[i]? = some y → ∃ d, ds[i]? = some d ∧ y = .dat (.tup [.int ((k + i : Nat) : Int), d])
  | [], k, i, y, h => by simp [enumF] at h
  | d :: r, k, 0, y, h => by
    simp [enumF] at h
    exact ⟨d, rfl, h.symm⟩
  | d :: r, k, i + 1, y, h => by
    simp [enumF] at h
    obtain ⟨d', e1, e2⟩ := enumF_at r (k + 1) i y h
    exact ⟨d', by simpa using e1, by rw [e2, show k + 1 + i = k + (i + 1) by omega]⟩
def enumM : List RV → M Src
  | [.sv (.dat (.tup ds))] => pur ⟨enumF 0 ds, none⟩
  | [.sv (.dat (.lst ds))] => pur ⟨enumF 0 ds, none⟩
  | [.new xs] => match datL xs with
    | some ds => pur ⟨enumF 0 ds, none⟩
    | none => stuck
  | _ => stuck
theorem pair_rep {K : PySem.W.Frag} {ct : Nat → Addr} {γ : G} {s : S} {H : Hp} {vs : List V} {ds : List D} {i : Nat} {x : V} {H2 : Hp} {y : SV} (p : RepDs K ct H vs ds) (e : (enumF 0 ds)[i]? = some y) (h : YPair (fun i => some (.int (i : Nat))) (fun i => vs[i]?) i H x H2) : Same H H2 ∧ RepS K ct γ s.mem.length H2 x y := by
  obtain ⟨d, e1, rfl⟩ := enumF_at ds 0 i y e
  obtain ⟨T, u, z, rfl, hT, rfl, e2, e3⟩ := h
  obtain ⟨v, ev, rv⟩ := p.get e1
  have ez : vs[i]? = some z := e3
  rw [ev] at ez; cases ez
  cases e2
  refine ⟨fun a o ha => by rw [upd_ne (ne_of_none ha hT)]; exact ha, ?_⟩
  rw [Nat.zero_add]
  exact RepD.tup (SqT.of upd_same) (.cons (.int _) (.cons (RepD.mono (keepI_new hT) rv) .nil))
theorem walkD_enumL {K : PySem.W.Frag} {γ : G} {s : S} {H : Hp} {a : Addr} {vs : List V} {ds : List D} (h : ∀ γ1 s1 H1, Step γ γ1 s s1 H H1 → SqL K H1 a vs) (p : RepDs K ct H vs ds) : WalkD K ct (Ite K a) ⟨enumF 0 ds, none⟩ γ s H := by
  refine ⟨_, _, by rw [show (Src.mk (enumF 0 ds) none).items.length = vs.length by show (enumF 0 ds).length = _; rw [enumF_len, p.length]]; exact walk_enum (xs := vs), fun γ1 s1 H1 σ1 st R1 _ => h γ1 s1 H1 st, ?_⟩
  rintro i γ1 s1 H1 σ1 x H2 y st R1 ok e yy
  exact pair_rep (RepDs.mono st.imm p) e yy
theorem walkD_enumT {K : PySem.W.Frag} {γ : G} {s : S} {H : Hp} {a : Addr} {vs : List V} {ds : List D} (h : SqT K H a vs) (p : RepDs K ct H vs ds) : WalkD K ct (Itet K a) ⟨enumF 0 ds, none⟩ γ s H := by
  refine ⟨_, _, by rw [show (Src.mk (enumF 0 ds) none).items.length = vs.length by show (enumF 0 ds).length = _; rw [enumF_len, p.length]]; exact walk_enumT (xs := vs), fun γ1 s1 H1 σ1 st R1 _ => sqT_mono st.imm h, ?_⟩
  rintro i γ1 s1 H1 σ1 x H2 y st R1 ok e yy
  exact pair_rep (RepDs.mono st.imm p) e yy
variable {mB : M (List RV)} {elts : List Expr} {kk : Nat} {tpos : Pos}
theorem id_enum (hg : Gl X "enumerate") (hm : X.mg "enumerate" = none) (ha : BD X ct W [a] mB) (hs : starEach [a] X.env = [(false, eval a X.env)] := by rfl) : ID X ct W (.Tuple elts kk tpos) (.Call (.Name "enumerate" p) [a] [] pos) (bnd mB enumM) := by
  obtain ⟨t, pt, r⟩ := ha.ex
  refine ⟨_, pi_enumA hg hm pt hs, fun σ H γ s R0 R h => ?_⟩
  refine r σ H γ s _ R (Out.post.imp (post_bnd h) (fun xs s1 g vs γ1 H1 t1 R1 q1 => ?_) fun _ _ z => z)
  unfold enumM at g
  split at g
  · rename_i ds
    cases q1 with
    | cons q1 q2 =>
      cases q2
      obtain ⟨p1, vs1, rfl, h1, w1⟩ := tup_rep q1
      exact ⟨p1, rfl, .inr ⟨vs1, h1, g γ1 H1 _ t1 R1 (walkD_enumT h1 w1)⟩⟩
  · rename_i ds
    cases q1 with
    | cons q1 q2 =>
      cases q2
      have q' : RepD X.K ct H1 _ (.lst ds) := q1
      cases q' with
      | lst hq w1 => exact ⟨_, rfl, .inl ⟨_, hq.sq, g γ1 H1 _ t1 R1 (walkD_enumL (fun γ2 s2 H2 st => (hq.mono st.imm).sq) w1)⟩⟩
  · rename_i xs
    cases e1 : datL xs with
    | none => rw [e1] at g; exact False.elim g
    | some ds =>
      rw [e1] at g
      cases q1 with
      | cons q1 q2 =>
        cases q2
        obtain ⟨a, vs, rfl, e0, ea, na, rp⟩ := q1
        exact ⟨a, rfl, .inl ⟨vs, SqL.of ea, g γ1 H1 _ t1 R1 (walkD_enumL (fun γ2 s2 H2 st => SqL.of (st.keep a _ ea na)) (datL_rep e1 rp))⟩⟩
  · exact False.elim g
/-! ## range(i, j, -1) -/
def downL (i : Int) (n : Nat) : List SV := (List.range n).map fun k => .dat (.int (i + (k : Nat) * (-1)))
noncomputable def rng3 : List RV → M Src
  | [.sv (.dat (.int i)), .sv (.dat (.int j)), .sv (.dat (.int c))] => fun s => ifC (c = -1 ∧ -(2 ^ 62) ≤ i ∧ i < 2 ^ 62 ∧ -(2 ^ 62) ≤ j ∧ j < 2 ^ 62) (.ok ⟨downL i (i - j).toNat, none⟩ s) .bad
  | _ => stuck
theorem walkD_down {K : PySem.W.Frag} {γ : G} {s : S} {H : Hp} {lo : Int} {n : Nat} : WalkD K ct (Itc lo (-1) n) ⟨downL lo n, none⟩ γ s H := by
  refine ⟨_, _, by rw [show (Src.mk (downL lo n) none).items.length = n by simp [downL]]; exact walk_rangeC, fun _ _ _ _ _ _ _ => trivial, ?_⟩
  rintro i γ1 s1 H1 σ1 x H2 y st R1 ok e ⟨rfl, rfl⟩
  have e' : ((List.range n).map fun k => (SV.dat (.int (lo + (k : Nat) * (-1)))))[i]? = some y := e
  rw [List.getElem?_map] at e'
  by_cases hi : i < n
  · rw [List.getElem?_range hi] at e'
    cases e'
    exact ⟨Same.refl _, RepD.int _⟩
  · rw [List.getElem?_eq_none (by simpa using hi)] at e'
    cases e'
theorem id_range3 (hg : Gl X "range") (hm : X.mg "range" = none) (ha : BD X ct W [a, b, c] mB) (hs : starEach [a, b, c] X.env = (false, eval a X.env) :: starEach [b, c] X.env := by rfl) (hpl : (backTo pos (starEach [b, c] X.env)).any (·.1) = false := by rfl) : ID X ct W tg (.Call (.Name "range" p) [a, b, c] [] pos) (bnd mB rng3) := by
  obtain ⟨t, pt, r⟩ := ha.ex
  refine ⟨_, pi_range3 hg hm pt hs hpl, fun σ H γ s R0 R h => ?_⟩
  refine r σ H γ s _ R (Out.post.imp (post_bnd h) (fun xs s1 g vs γ1 H1 t1 R1 q1 => ?_) fun _ _ z => z)
  unfold rng3 at g
  split at g
  · rename_i i j k
    cases q1 with
    | cons q1 q2 =>
      cases q2 with
      | cons q2 q3 =>
        cases q3 with
        | cons q3 q4 =>
          cases q4
          by_cases cc : k = -1 ∧ -(2 ^ 62) ≤ i ∧ i < 2 ^ 62 ∧ -(2 ^ 62) ≤ j ∧ j < 2 ^ 62
          · rw [ifC_pos cc] at g
            obtain ⟨rfl, c1, c2, c3, c4⟩ := cc
            exact ⟨i, j, -1, _, by rw [rep_int q1, rep_int q2, rep_int q3], RgC.neg c1 c2 c3 c4, g γ1 H1 _ t1 R1 walkD_down⟩
          · rw [ifC_neg cc] at g; exact False.elim g
  · exact False.elim g
/-! ## max(xs), min(xs) -/
def intsL : List SV → Option (List Int)
  | [] => some []
  | .dat (.int i) :: r => match intsL r with
    | some is => some (i :: is)
    | none => none
  | _ => none
def maxL : List Int → Int
  | [] => 0
  | [x] => x
  | x :: y :: r => if maxL (y :: r) ≤ x then x else maxL (y :: r)
def minL : List Int → Int
  | [] => 0
  | [x] => x
  | x :: y :: r => if x ≤ minL (y :: r) then x else minL (y :: r)
theorem maxL_is : ∀ {l : List Int}, l ≠ [] → maxL l ∈ l ∧ ∀ y ∈ l, y ≤ maxL l
  | [x], _ => by simp [maxL]
  | x :: y :: r, _ => by
    obtain ⟨h1, h2⟩ := maxL_is (l := y :: r) (by simp)
    unfold maxL
    split
    · rename_i c
      refine ⟨by simp, fun z hz => ?_⟩
      rcases List.mem_cons.mp hz with e | e
      · omega
      · have := h2 z e; omega
    · rename_i c
      refine ⟨List.mem_cons_of_mem _ h1, fun z hz => ?_⟩
      rcases List.mem_cons.mp hz with e | e
      · omega
      · exact h2 z e
theorem minL_is : ∀ {l : List Int}, l ≠ [] → minL l ∈ l ∧ ∀ y ∈ l, minL l ≤ y
  | [x], _ => by simp [minL]
  | x :: y :: r, _ => by
    obtain ⟨h1, h2⟩ := minL_is (l := y :: r) (by simp)
    unfold minL
    split
    · rename_i c
      refine ⟨by simp, fun z hz => ?_⟩
      rcases List.mem_cons.mp hz with e | e
      · omega
      · have := h2 z e; omega
    · rename_i c
      refine ⟨List.mem_cons_of_mem _ h1, fun z hz => ?_⟩
      rcases List.mem_cons.mp hz with e | e
      · omega
      · exact h2 z e
theorem intsL_rep {K : PySem.W.Frag} {γ : G} {n : Nat} {H : Hp} : ∀ {xs : List SV} {is : List Int} {vs : List V}, intsL xs = some is → Paired (RepS K ct γ n H) vs xs → vs = is.map V.int := by
  intro xs
  induction xs with
  | nil => intro is vs e h; cases h; cases e; rfl
  | cons x xs ih =>
    intro is vs e h
    cases h with
    | cons q t =>
      cases x with
      | ref k => cases e
      | hand => cases e
      | fn c => cases e
      | dat d =>
        cases d with
        | int i =>
          unfold intsL at e
          cases e1 : intsL xs with
          | none => rw [e1] at e; cases e
          | some js =>
            rw [e1] at e
            cases e
            have q' : RepD K ct H _ (.int i) := q
            cases q'
            rw [ih e1 t]; rfl
        | _ => cases e
def maxM : List RV → M RV
  | [x] => fun s => match seqL s x with
    | some xs => match intsL xs with
      | some is => if is.isEmpty = true then .bad else .ok (RI (maxL is)) s
      | none => .bad
    | none => .bad
  | _ => stuck
def minM : List RV → M RV
  | [x] => fun s => match seqL s x with
    | some xs => match intsL xs with
      | some is => if is.isEmpty = true then .bad else .ok (RI (minL is)) s
      | none => .bad
    | none => .bad
  | _ => stuck
theorem maxM_ok : CallOk X ct (rMax X.K) maxM := by
  intro W σ γ s H Ha vs rs Q R q h
  unfold maxM at h
  split at h
  · rename_i x
    cases q with
    | cons q1 q2 =>
      cases q2
      split at h
      · rename_i xs e1
        split at h
        · rename_i is e2
          by_cases c : is.isEmpty = true
          · rw [if_pos c] at h; exact False.elim h
          · rw [if_neg c] at h
            obtain ⟨a, us, rfl, hq, pr⟩ := seqL_rep R e1 q1
            have eu := intsL_rep e2 pr
            subst eu
            have ne : is ≠ [] := fun z => c (by rw [z]; rfl)
            refine ⟨a, is, rfl, hq, List.length_pos_iff.mpr ne, fun m h1 h2 => ?_⟩
            obtain ⟨m1, m2⟩ := maxL_is ne
            have : m = maxL is := by have := h2 _ m1; have := m2 _ h1; omega
            rw [this]
            exact h _ γ H Step.refl R (repI _)
        · exact False.elim h
      · exact False.elim h
  · exact False.elim h
theorem minM_ok : CallOk X ct (rMin X.K) minM := by
  intro W σ γ s H Ha vs rs Q R q h
  unfold minM at h
  split at h
  · rename_i x
    cases q with
    | cons q1 q2 =>
      cases q2
      split at h
      · rename_i xs e1
        split at h
        · rename_i is e2
          by_cases c : is.isEmpty = true
          · rw [if_pos c] at h; exact False.elim h
          · rw [if_neg c] at h
            obtain ⟨a, us, rfl, hq, pr⟩ := seqL_rep R e1 q1
            have eu := intsL_rep e2 pr
            subst eu
            have ne : is ≠ [] := fun z => c (by rw [z]; rfl)
            refine ⟨a, is, rfl, hq, List.length_pos_iff.mpr ne, fun m h1 h2 => ?_⟩
            obtain ⟨m1, m2⟩ := minL_is ne
            have : m = minL is := by have := h2 _ m1; have := m2 _ h1; omega
            rw [this]
            exact h _ γ H Step.refl R (repI _)
        · exact False.elim h
      · exact False.elim h
  · exact False.elim h
/-! ## list(range(..)) -/
noncomputable def lrM (x y : RV) : M RV := match x, y with
  | .sv (.dat (.int i)), .sv (.dat (.int j)) => fun s => ifC (-(2 ^ 62) ≤ i ∧ i < 2 ^ 62 ∧ -(2 ^ 62) ≤ j ∧ j < 2 ^ 62 ∧ (j - i).toNat ≤ 100000) (.ok (.new (rangeL i (j - i).toNat)) s) .bad
  | _, _ => stuck
theorem rangeL_rep {K : PySem.W.Frag} {γ : G} {n : Nat} {H : Hp} {i j : Int} : Paired (RepS K ct γ n H) (rgV i j) (rangeL i (j - i).toNat) := by
  unfold rgV rangeL
  generalize List.range (j - i).toNat = l
  induction l with
  | nil => exact .nil
  | cons x l ih => exact .cons (RepD.int _) ih
theorem ed_listRg {p2 pos2 : Pos} (calm : X.calm = true) (hg : Gl X "list") (hm : X.mg "list" = none) (hgr : Gl X "range") (hmr : X.mg "range" = none) (ha : ED X ct W a ma) (hb : ED X ct W b mb)
    (na : starEach [.Call (.Name "range" p2) [a, b] [] pos2] X.env = (false, eval (.Call (.Name "range" p2) [a, b] [] pos2) X.env) :: starEach [] X.env := by rfl)
    (n1 : starEach [a, b] X.env = (false, eval a X.env) :: starEach [b] X.env := by rfl) (n2 : starEach [b] X.env = (false, eval b X.env) :: starEach [] X.env := by rfl) (hp : (backTo pos2 (starEach [b] X.env)).any (·.1) = false := by rfl) :
    ED X ct W (.Call (.Name "list" p) [.Call (.Name "range" p2) [a, b] [] pos2] [] pos) (m2 ma mb lrM) := by
  obtain ⟨ta, pa, ra⟩ := ha.ex
  obtain ⟨tb, pb, rb⟩ := hb.ex
  refine ⟨_, pe_listRg calm hg hm (prg_2 hgr hmr pa pb n1 n2 hp) na, fun σ H γ s Q R h => ?_⟩
  refine ra σ H γ s _ R (use_e h (fun _ _ z => z) fun x s1 v γ1 H1 t1 R1 q1 g1 => ?_)
  refine rb σ H1 γ1 s1 _ R1 (use_e (Good.step t1 g1) (fun _ _ z => z) fun y s2 u γ2 H2 t2 R2 q2 g2 => ?_)
  unfold lrM at g2
  split at g2
  · rename_i i j
    by_cases cc : -(2 ^ 62) ≤ i ∧ i < 2 ^ 62 ∧ -(2 ^ 62) ≤ j ∧ j < 2 ^ 62 ∧ (j - i).toNat ≤ 100000
    · rw [ifC_pos cc] at g2
      exact ⟨i, j, rep_int q1, rep_int q2, ⟨cc.1, cc.2.1, cc.2.2.1, cc.2.2.2.1, Nat.le_trans cc.2.2.2.2 (by decide)⟩, good_new R2 rangeL_rep (Good.step t2 g2)⟩
    · rw [ifC_neg cc] at g2; exact False.elim g2
  · exact False.elim g2
end
end Fd
set_option Elab.async false
set_option linter.all false
set_option maxRecDepth 100000
set_option maxHeartbeats 4000000
namespace Fd
open PySem PySem.Spec PyProof.Rows L2
/-! ## return (n.f, n.g) in an except clause -/
def fieldsH2 (f g : Str) (x : Exn) : M Fl := match x.fs.lookup f, x.fs.lookup g with
  | some d, some e => pur (.rt (RT [d, e]))
  | _, _ => stuck
section
variable {X : Cx} {ct : Nat → Addr} {W : WX}
theorem hd_field2 {c i k2 : Nat} {n f g : Str} {np np2 p2 p4 p3 pt : Pos} {C : Addr} (hct : ct c = C) (T : XfC X.K C) (hf0 : PySem.W.findIn X.K (.ref C) f = some none) (hg0 : PySem.W.findIn X.K (.ref C) g = some none)
    (hp : ∀ a oe pn, PE (X.suite a ((a, oe) :: pn)) (.Name n np) (tVar i)) (hp2 : ∀ a oe pn, PE (X.suite a ((a, oe) :: pn)) (.Name n np2) (tVar i))
    (hb : attributeBase (.Name n np) f X.env (eval (.Name n np) X.env) = eval (.Name n np) X.env := by rfl) (hb2 : attributeBase (.Name n np2) g X.env (eval (.Name n np2) X.env) = eval (.Name n np2) X.env := by rfl)
    (s1 : starEach [.Attribute (.Name n np) f p2, .Attribute (.Name n np2) g p4] X.env = (false, eval (.Attribute (.Name n np) f p2) X.env) :: starEach [.Attribute (.Name n np2) g p4] X.env := by rfl)
    (s2 : starEach [.Attribute (.Name n np2) g p4] X.env = (false, eval (.Attribute (.Name n np2) g p4) X.env) :: starEach [] X.env := by rfl) :
    HD X ct c i [.Return (some (.Tuple [.Attribute (.Name n np) f p2, .Attribute (.Name n np2) g p4] k2 pt)) p3] (fieldsH2 f g) := by
  refine ⟨fun a oe cls d pn hz hf => ⟨_, pss_one (ps_ret (pe_tup (pa_cons (pe_xf T hf0 hz hf (hp a oe pn) hb) (pa_cons (pe_xf T hg0 hz hf (hp2 a oe pn) hb2) pa_nil s2) s1))), fun N σ H γ s x R hσ hx hxc q => ?_⟩⟩
  unfold fieldsH2 at q
  cases e : x.fs.lookup f with
  | none => simp only [e] at q; exact False.elim q
  | some df =>
    cases e0 : x.fs.lookup g with
    | none => simp only [e, e0] at q; exact False.elim q
    | some dg =>
      simp only [e, e0] at q
      obtain ⟨e1, e2⟩ := hx
      rcases e2 with ⟨e3, _⟩ | ⟨dx, fs, e3, e4, e5, e6⟩
      · rw [e3] at e; cases e
      · obtain ⟨v, lv, rv⟩ := lookup_rep e5 e6 e
        obtain ⟨u, lu, ru⟩ := lookup_rep e5 e6 e0
        refine ⟨_, hσ, rfl, by rw [e1, hxc, hct], dx, fs, v, e3, e4, lv, _, hσ, rfl, by rw [e1, hxc, hct], dx, fs, u, e3, e4, lu, by show 2 ≤ sizeLine; decide, fun p hp => ?_⟩
        exact q (.ref p) σ γ _ (Step.laid hp) (R.laid hp) (RepD.tup (SqT.of upd_same) (.cons (RepD.mono (keepI_new hp) rv) (.cons (RepD.mono (keepI_new hp) ru) .nil)))
end
/-! ## {k: v} as data -/
def tLk (t : TE) : TE := fun σ H Q => t σ H fun v H1 => ∃ a u, v = .ref a ∧ H1 a = some u ∧ Mut (some u) ∧ ∀ o, Q v (upd H1 a (.frz o u))
theorem pe_lk {X : Cx} {e : Expr} {t : TE} (h : PE X e t) : PE X e (tLk t) := ⟨fun pins s σ H Q I hw =>
  thn (h.run pins s σ H _ I hw) fun w s1 ⟨v, H1, I1, r1, a, u, ev, ea, mu, q⟩ => by
    subst ev
    obtain ⟨o, I2⟩ := I1.lock ea mu
    exact ⟨_, _, I2, r1, q o⟩⟩
/-- an object that is new and not owned is changed -/
theorem updN {K : PySem.W.Frag} {ct : Nat → Addr} {γ γ0 : G} {s s0 : S} {H H0 : Hp} {σ : L2.St} {a : Addr} {o u : HO} (R : Rep K ct γ H σ s) (t : Step γ0 γ s0 s H0 H) (e : H a = some o) (ni : ¬ Imm o) (n0 : H0 a = none) (no : ¬ Own γ s a) :
    KeepI H (upd H a u) ∧ Step γ0 γ s0 s H0 (upd H a u) ∧ Rep K ct γ (upd H a u) σ s := by
  have ki : KeepI H (upd H a u) := fun x w ex i => by
    rw [upd_ne]
    · exact ex
    · rintro rfl; rw [e] at ex; cases ex; exact ni i
  have m1 : ∀ {v x}, RepS K ct γ s.mem.length H v x → RepS K ct γ s.mem.length (upd H a u) v x := fun {v x} r => by
    cases x with
    | dat d => exact RepD.mono ki r
    | ref k => exact r
    | hand => exact r
    | fn c => exact r
  refine ⟨ki, ⟨fun x w ex n => ?_, t.own, fun x w ex i => ?_, fun x z => there_upd x (t.there x z), t.kp, t.len, t.ah, t.fresh⟩, R.len, fun i x ex => ?_, fun k xs ex => ?_, R.inj, fun h ex => ?_, R.hdk⟩
  · rw [upd_ne (ne_of_none ex n0)]; exact t.keep x w ex n
  · rw [upd_ne (ne_of_none ex n0)]; exact t.imm x w ex i
  · obtain ⟨v, q, r⟩ := R.env i x ex
    exact ⟨v, q, m1 r⟩
  · obtain ⟨us, q, r⟩ := R.mem k xs ex
    refine ⟨us, ?_, Paired.mapP r fun _ _ z => m1 z⟩
    rw [upd_ne]
    · exact q
    · rintro rfl; exact no (.inl ⟨k, ⟨xs, ex⟩, rfl⟩)
  · refine RepHd.mono (fun b w q hb => ?_) ki (R.hd h ex)
    rw [upd_ne]
    · exact q
    · rintro rfl; exact no (.inr ⟨by rw [ex]; exact (fun z => by cases z), hb⟩)
def keyM : RV → Option Key
  | .sv (.dat (.int i)) => some (.inl i)
  | .sv (.dat (.str z)) => some (.inr z)
  | _ => none
def dct1M (mk mv : M RV) : M RV := bnd mk fun x => bnd mv fun y => match keyM x, y with
  | some k, .sv (.dat d) => pur (RD (.dct [(k, d)]))
  | _, _ => stuck
section
variable {X : Cx} {ct : Nat → Addr} {W : WX} {pos : Pos} {k v : Expr} {mk mv : M RV}
theorem ed_dct1 (hk : ED X ct W k mk) (hv : ED X ct W v mv) : ED X ct W (.Dict [some k] [v] pos) (dct1M mk mv) := by
  obtain ⟨tk, pk, rk⟩ := hk.ex
  obtain ⟨tv, pv, rv⟩ := hv.ex
  refine ⟨_, pe_lk (pe_disp (pps_cons pk pv pps_nil) rfl rfl (by simp) (by simp)), fun σ H γ s Q R h p hp => ?_⟩
  have R0 := R.laid (o := .dK []) hp
  have t0 : Step γ γ s s H (upd H p (.dK [])) := Step.laid hp
  refine rk σ _ γ s _ R0 (Out.post.imp (post_bnd h) (fun x s1 g1 u γ1 H1 t1 R1 q1 => ?_) fun x s1 z => GoodX.step t0 z)
  refine rv σ H1 γ1 s1 _ R1 (Out.post.imp (post_bnd g1) (fun y s2 g2 w γ2 H2 t2 R2 q2 => ?_) fun x s2 z => GoodX.step (t0.trans t1) z)
  have t12 := t1.trans t2
  have tt := t0.trans t12
  have no0 : ¬ Own γ s p := R.notOwn_free hp
  have ep : H2 p = some (.dK []) := t12.keep p _ upd_same no0
  have no1 : ∀ z, Own γ2 s2 z → z ≠ p := fun z hz e => by
    rw [e] at hz
    rcases t12.own p hz with q3 | q3
    · exact no0 q3
    · rw [upd_same] at q3; cases q3
  have no2 : ¬ Own γ2 s2 p := fun z => no1 p z rfl
  cases ek : keyM x with
  | none => rw [ek] at g2; exact False.elim g2
  | some kk =>
    rw [ek] at g2
    have key : u = kV kk := by
      unfold keyM at ek
      split at ek
      · cases ek; exact rep_int q1
      · cases ek; exact rep_str q1
      · cases ek
    cases y with
    | new _ => exact False.elim g2
    | sv yv =>
      cases yv with
      | ref _ => exact False.elim g2
      | hand => exact False.elim g2
      | fn c => exact False.elim g2
      | dat d =>
        refine ⟨ep, [(kk, w)], by rw [key]; rfl, by simp, ?_⟩
        have e3 : mergeK [] [(kk, w)] = [(kk, w)] := rfl
        rw [e3]
        refine ⟨p, .dK [(kk, w)], rfl, upd_same, True.intro, fun o => ?_⟩
        rw [upd_upd]
        obtain ⟨ki, st, R3⟩ := updN (u := .frz o (.dK [(kk, w)])) R2 tt ep (fun z => z) hp no2
        exact g2 (.ref p) γ2 _ st R3 (show RepD X.K ct _ (.ref p) (.dct [(kk, d)]) from .dct upd_same rfl (.cons (RepD.mono ki q2) .nil))
end
/-! ## own len -/
structure OkL (P : Program) (w : World) (K : PySem.W.Frag) (mg : Str → Option Value) (base : Heap) (ct : Nat → Addr) (c0 k : Nat) (F : List D → Res) : Prop where
  ex : ∃ (f : Addr) (fd : FuncData) (ps : List Str), PySem.W.findIn K (.ref (ct c0)) "__len__" = some (some (.ref f)) ∧ PySem.W.isFn K (.ref f) = true ∧ FnOk P w K mg base (L2.CX P w) k f fd ps (spP K ct 1 F) ∧ Binds K fd ps []
section
variable {X : Cx} {ct : Nat → Addr} {W : WX} {c0 k : Nat} {F : List D → Res}
def rLenI (K : PySem.W.Frag) (ct : Nat → Addr) (c0 : Nat) (F : List D → Res) : List V → Hp → VK → Prop := fun xs H Q => ∃ a dx fs ds, xs = [.ref a] ∧ H a = some (.ins (ct c0) dx fs) ∧ RepDs K ct H xs ds ∧ ∃ n : Int, F ds = .ret (.dat (.int n)) ∧ 0 ≤ n ∧ n < 2 ^ 63 ∧ ∀ H', Same H H' → Q (.int n) H'
theorem call_lenI (O : OkL X.prog X.w X.K X.mg X.base ct c0 k F) (hr : Room (k + 1) X.A) : CallR X (.builtin "len") (rLenI X.K ct c0 F) := by
  intro pins s σ H xs us Q I r h
  obtain ⟨a, dx, fs, ds, rfl, ea, rp, n, en, n0, n1, q⟩ := h
  obtain ⟨f, fd, ps, hs, hf, FK, hb⟩ := O.ex
  have eu := Vals.ref1 r
  subst eu
  obtain ⟨mA, J0, _⟩ := ins_get I.hok ea
  obtain ⟨od, J, _⟩ := J0.look
  obtain ⟨m, hF⟩ := I.fr
  refine PySem.W.len_K hF I.ok.mod.kin J hs hf ?_
  have sp : spP X.K ct 1 F [.ref a] H (fun z H' => z = .int n ∧ Same H H') (WE WF σ) := ⟨rfl, ds, rp, by rw [en]; exact fun z H' k r => ⟨by cases r; rfl, k⟩⟩
  refine wpAny_mono (run_okAt (vs := [.ref a]) (us := [.ref a]) FK hr.in1 I.env0.in1 hb (passAt takes0 σ) I (.cons (show RelV (.ref a) (.ref a) from rfl) .nil) sp) (fun w s' z => ?_) fun _ _ x => x
  obtain ⟨z', H', I', rz, rfl, kk⟩ := z
  obtain ⟨t, rfl⟩ := rz
  exact ⟨⟨n0, n1⟩, V.int n, H', I'.tok _, ⟨_, rfl⟩, q H' kk⟩
noncomputable def lenOwnM (c0 : Nat) (F : List D → Res) : List RV → M RV
  | [.sv (.dat (.obj c ds))] => fun s => if c = c0 then match F [.obj c ds] with
    | .ret (.dat (.int n)) => ifC (0 ≤ n ∧ n < 2 ^ 62) (.ok (RI n) s) .bad
    | _ => .bad
    else .bad
  | _ => stuck
theorem lenOwnM_ok : CallOk X ct (rLenI X.K ct c0 F) (lenOwnM c0 F) := by
  intro W σ γ s H Ha vs rs Q R q h
  unfold lenOwnM at h
  split at h
  · rename_i c ds
    cases q with
    | cons q1 q2 =>
      cases q2
      by_cases cc : c = c0
      · rw [if_pos cc] at h
        subst cc
        have q1' : RepD X.K ct H _ (.obj c ds) := q1
        cases q1' with
        | obj ea nz en rp =>
          split at h
          · rename_i n e
            by_cases c2 : 0 ≤ n ∧ n < 2 ^ 62
            · rw [ifC_pos c2] at h
              exact ⟨_, _, _, _, rfl, ea, .cons (.obj ea nz en rp) .nil, n, e, c2.1, by omega, fun H' k => h _ γ H' (step_same k) (R.kept k) (repI _)⟩
            · rw [ifC_neg c2] at h; exact False.elim h
          · exact False.elim h
      · rw [if_neg cc] at h; exact False.elim h
  · exact False.elim h
end
/-! ## defs of classes -/
structure MthT (K : PySem.W.Frag) (ct : Nat → Addr) (c : Nat) (m q : Str) (st : Stmt) (dvs : List V) : Prop where
  ex : ∃ (f : Addr) (fd : FuncData), Meth K (ct c) m f ∧ FunD K m q (defArgs st) (defBody st) (defScope st) dvs [] f fd
structure MkT (K : PySem.W.Frag) (mg : Str → Option Value) (ct : Nat → Addr) (c : Nat) (x : Str) : Prop where
  makes : PySem.W.makesIn K (ct c) = true
  kp : PySem.W.keepIn K (.ref (ct c)) = true
  mg : mg x = some (.ref (ct c))
section
variable {P : Program} {w : World} {K : PySem.W.Frag} {mg : Str → Option Value} {base : Heap} {ct : Nat → Addr} {c k : Nat} {mn q x : Str} {st : Stmt} {N ps : List Str} {m : M Fl}
theorem okM (T : MthT K ct c mn q st []) (S : FnScope N ps (defScope st))
    (hbd : ∀ (kV doc pm : Value) (an : Option Addr) (cdv ct : Value) (us : List Value), us.length = ps.length → bindArgs (PySem.W.fnOf mn q (defArgs st) (defBody st) (defScope st) .none kV doc pm an cdv ct) ⟨us, []⟩ = pure (ps.zip us))
    (hb : ∀ (f : Addr) (cdv : Value) (A : Around) (outer : List Env) (s : Shared) (H : Hp) (E : XK), Room k (A.deeper (envOfC q (defScope st) s.heap.objs.size f cdv)) →
      SDs (cxOf (L2.CX P w) P w K mg base N q (defScope st) f cdv A outer s H E) ct (fun cls d _ H => E cls d H) (defBody st) m) : OkM P w K mg base ct c mn ps.length (k + 1) (runP N.length m) [] := by
  obtain ⟨f, fd, hm, F⟩ := T.ex
  exact ⟨f, fd, ps, [], [], rfl, hm, fnP F S (hb f), F.bindsN hbd, .nil, fun _ => .nil⟩
theorem okI (T : MthT K ct c "__init__" q st []) (M : MkT K mg ct c x) (S : FnScope N ps (defScope st)) {n : Nat} (hn : ps.length = n + 1)
    (hbd : ∀ (kV doc pm : Value) (an : Option Addr) (cdv ct : Value) (us : List Value), us.length = ps.length → bindArgs (PySem.W.fnOf "__init__" q (defArgs st) (defBody st) (defScope st) .none kV doc pm an cdv ct) ⟨us, []⟩ = pure (ps.zip us))
    (hb : ∀ (f : Addr) (cdv : Value) (A : Around) (outer : List Env) (s : Shared) (H : Hp) (E : XK), Room k (A.deeper (envOfC q (defScope st) s.heap.objs.size f cdv)) →
      SDs (cxOf (L2.CX P w) P w K mg base N q (defScope st) f cdv A outer s H E) ct (fun cls d _ H => E cls d H) (defBody st) m) : OkI P w K mg base ct x c n (k + 1) (runI N.length c m) [] := by
  obtain ⟨f, fd, hm, F⟩ := T.ex
  exact ⟨f, fd, ps, [], [], ⟨M.makes, hm.at_, hm.fn, M.kp⟩, M.mg, fnI F S hn (hb f), F.bindsN hbd, .nil, fun _ => .nil⟩
theorem okE (T : MthT K ct c "__eq__" q st []) (ne : PySem.W.findIn K (.ref (ct c)) "__ne__" = some (some (.builtin "object.__ne__"))) (S : FnScope N ps (defScope st)) (h2 : ps.length = 2)
    (hbd : ∀ (kV doc pm : Value) (an : Option Addr) (cdv ct : Value) (us : List Value), us.length = ps.length → bindArgs (PySem.W.fnOf "__eq__" q (defArgs st) (defBody st) (defScope st) .none kV doc pm an cdv ct) ⟨us, []⟩ = pure (ps.zip us))
    (hb : ∀ (f : Addr) (cdv : Value) (A : Around) (outer : List Env) (s : Shared) (H : Hp) (E : XK), Room k (A.deeper (envOfC q (defScope st) s.heap.objs.size f cdv)) →
      SDs (cxOf (L2.CX P w) P w K mg base N q (defScope st) f cdv A outer s H E) ct (fun cls d _ H => E cls d H) (defBody st) m) : OkE P w K mg base ct c (k + 1) (runP N.length m) := by
  obtain ⟨f, fd, hm, F⟩ := T.ex
  exact ⟨⟨f, fd, ps, hm.at_, hm.fn, by have := fnP F S (hb f); rwa [h2] at this, F.bindsN hbd⟩, ne⟩
theorem okLen (T : MthT K ct c "__len__" q st []) (S : FnScope N ps (defScope st)) (h1 : ps.length = 1)
    (hbd : ∀ (kV doc pm : Value) (an : Option Addr) (cdv ct : Value) (us : List Value), us.length = ps.length → bindArgs (PySem.W.fnOf "__len__" q (defArgs st) (defBody st) (defScope st) .none kV doc pm an cdv ct) ⟨us, []⟩ = pure (ps.zip us))
    (hb : ∀ (f : Addr) (cdv : Value) (A : Around) (outer : List Env) (s : Shared) (H : Hp) (E : XK), Room k (A.deeper (envOfC q (defScope st) s.heap.objs.size f cdv)) →
      SDs (cxOf (L2.CX P w) P w K mg base N q (defScope st) f cdv A outer s H E) ct (fun cls d _ H => E cls d H) (defBody st) m) : OkL P w K mg base ct c (k + 1) (runP N.length m) := by
  obtain ⟨f, fd, hm, F⟩ := T.ex
  exact ⟨f, fd, ps, hm.at_, hm.fn, by have := fnP F S (hb f); rwa [h1] at this, F.bindsN hbd⟩
/-- the bottom of a def that calls itself -/
theorem okBad (T : FnT K mg x st []) (S : FnScope N ps (defScope st))
    (hbd : ∀ (kV doc pm : Value) (an : Option Addr) (cdv ct : Value) (us : List Value), us.length = ps.length → bindArgs (PySem.W.fnOf x x (defArgs st) (defBody st) (defScope st) .none kV doc pm an cdv ct) ⟨us, []⟩ = pure (ps.zip us)) : OkP P w K mg base ct x ps.length (k + 1) (fun _ => .bad) [] := by
  obtain ⟨f, fd, hm, F⟩ := T.ex
  refine ⟨f, fd, ps, [], [], rfl, hm, F.kp, F.ok (k := k) S (fun vs H Q E h => h.1) fun cdv A outer s H vs Q E hr h => ?_, F.bindsN hbd, .nil, fun _ => .nil⟩
  obtain ⟨_, ds, _, g⟩ := h
  exact False.elim g
end
end Fd
set_option Elab.async false
set_option linter.all false
set_option maxRecDepth 100000
set_option maxHeartbeats 4000000
namespace Fd
open PySem PySem.Spec PyProof.Rows L2
/-! ## an own list as an argument: locked for the call alone -/
mutual
def D.noL : D → Bool
  | .lst _ => false
  | .tup ds => D.noLs ds
  | .obj _ fs => D.noLf fs
  | .dct kds => D.noLd kds
  | .dcp kds => D.noLp kds
  | _ => true
def D.noLs : List D → Bool
  | [] => true
  | d :: ds => d.noL && D.noLs ds
def D.noLf : List (Str × D) → Bool
  | [] => true
  | (_, d) :: ds => d.noL && D.noLf ds
def D.noLd : List (Key × D) → Bool
  | [] => true
  | (_, d) :: ds => d.noL && D.noLd ds
def D.noLp : List (List Key × D) → Bool
  | [] => true
  | (_, d) :: ds => d.noL && D.noLp ds
end
theorem noLf_map : ∀ fs : List (Str × D), D.noLf fs = D.noLs (fs.map (·.2))
  | [] => by simp [D.noLf, D.noLs]
  | (_, d) :: r => by simp [D.noLf, D.noLs, noLf_map r]
theorem noLp_map : ∀ fs : List (List Key × D), D.noLp fs = D.noLs (fs.map (·.2))
  | [] => by simp [D.noLp, D.noLs]
  | (_, d) :: r => by simp [D.noLp, D.noLs, noLp_map r]
theorem noLd_map : ∀ fs : List (Key × D), D.noLd fs = D.noLs (fs.map (·.2))
  | [] => by simp [D.noLd, D.noLs]
  | (_, d) :: r => by simp [D.noLd, D.noLs, noLd_map r]
section
variable {K : PySem.W.Frag} {ct : Nat → Addr} {H : Hp} {a : Addr} {o : Obj} {ws : List V}
mutual
theorem RepD.unlk (e : H a = some (.frz o (.lst ws))) : ∀ {v : V} {d : D}, RepD K ct H v d → d.noL = true → RepD K ct (upd H a (.lst ws)) v d
  | _, _, .non, _ => .non
  | _, _, .bl b, _ => .bl b
  | _, _, .int i, _ => .int i
  | _, _, .str x, _ => .str x
  | _, _, .tup h r, n => by
    have ne : ∀ b u, H b = some u → (∀ xs, u ≠ .frz o (.lst xs)) → upd H a (.lst ws) b = some u := fun b u eb nu => by
      rw [upd_ne]
      · exact eb
      · rintro rfl; rw [e] at eb; exact nu ws (Option.some.inj eb).symm
    refine .tup ?_ (RepDs.unlk e r (by simpa [D.noL] using n))
    rcases h with (h | ⟨ob, h⟩) | h
    · exact .inl (.inl (ne _ _ h fun xs z => by cases z))
    · exact .inl (.inr ⟨ob, ne _ _ h fun xs z => by cases z⟩)
    · exact .inr h
  | _, _, .lst h r, n => by simp [D.noL] at n
  | _, _, .obj h z q r, n => by
    have h2 : upd H a (.lst ws) _ = some _ := (upd_ne (fun y => by rw [y, e] at h; cases h)).trans h
    exact .obj h2 z q (RepDs.unlk e r (by rw [← noLf_map]; simpa [D.noL] using n))
  | _, _, .dct h q r, n => by
    have h2 : upd H a (.lst ws) _ = some _ := (upd_ne (fun y => by rw [y, e] at h; cases h)).trans h
    exact .dct h2 q (RepDs.unlk e r (by rw [← noLd_map]; simpa [D.noL] using n))
  | _, _, .dcp h q r, n => by
    have h2 : upd H a (.lst ws) _ = some _ := (upd_ne (fun y => by rw [y, e] at h; cases h)).trans h
    exact .dcp h2 q (RepDs.unlk e r (by rw [← noLp_map]; simpa [D.noL] using n))
theorem RepDs.unlk (e : H a = some (.frz o (.lst ws))) : ∀ {vs : List V} {ds : List D}, RepDs K ct H vs ds → D.noLs ds = true → RepDs K ct (upd H a (.lst ws)) vs ds
  | _, _, .nil, _ => .nil
  | _, _, .cons r t, n => by
    rw [D.noLs, Bool.and_eq_true] at n
    exact .cons (RepD.unlk e r n.1) (RepDs.unlk e t n.2)
end
end
/-- the state while the own list k is locked as the data es -/
def frzS (k : Nat) (es : List D) (s : S) : S := { s with mem := s.mem.set k none, env := s.env.map (substR k es) }
theorem frz_step {K : PySem.W.Frag} {ct : Nat → Addr} {γ : G} {s : S} {H : Hp} {σ : L2.St} (R : Rep K ct γ H σ s) {k : Nat} {xs : List SV} {es : List D} (e : s.mem[k]? = some (some xs)) (ed : datL xs = some es) (o : Obj) : ∃ vs, H (γ.kp k) = some (.lst vs) ∧ RepDs K ct H vs es ∧
    Step γ γ s (frzS k es s) H (upd H (γ.kp k) (.frz o (.lst vs))) ∧ Rep K ct γ (upd H (γ.kp k) (.frz o (.lst vs))) σ (frzS k es s) := by
  obtain ⟨vs, ek, rp⟩ := R.mem k xs e
  refine ⟨vs, ek, datL_rep ed rp, ?_⟩
  have lk : Live s k := ⟨xs, e⟩
  have hk := lk.lt
  have live : ∀ j, Live (frzS k es s) j → Live s j ∧ j ≠ k := fun j ⟨ys, ey⟩ => by
    have ey' : (s.mem.set k none)[j]? = some (some ys) := ey
    by_cases hj : k = j
    · subst hj
      rw [List.getElem?_set_self hk] at ey'; cases ey'
    · rw [List.getElem?_set_ne hj] at ey'
      exact ⟨⟨ys, ey'⟩, fun z => hj z.symm⟩
  have ki : KeepI H (upd H (γ.kp k) (.frz o (.lst vs))) := fun x u ex i => by
    rw [upd_ne]
    · exact ex
    · rintro rfl; rw [ek] at ex; cases ex; exact i
  have st : Step γ γ s (frzS k es s) H (upd H (γ.kp k) (.frz o (.lst vs))) := by
    refine ⟨fun x u ex n => ?_, fun x z => ?_, ki, fun x z => there_upd x z, fun _ _ => rfl, by simp [frzS], rfl, fun j h1 h2 => by simp [frzS] at h2; omega⟩
    · rw [upd_ne]
      · exact ex
      · rintro rfl; exact n (.inl ⟨k, lk, rfl⟩)
    · rcases z with ⟨j, lj, rfl⟩ | z
      · exact .inl (.inl ⟨j, (live j lj).1, rfl⟩)
      · exact .inl (.inr z)
  have dk : RepD K ct (upd H (γ.kp k) (.frz o (.lst vs))) (.ref (γ.kp k)) (.lst es) := .lst ⟨o, upd_same⟩ (RepDs.mono ki (datL_rep ed rp))
  refine ⟨st, by simpa [frzS] using R.len, fun i x ex => ?_, fun j ys ey => ?_, fun i j li lj => R.inj i j (live i li).1 (live j lj).1, fun h eh => ?_, fun z j lj => R.hdk z j (live j lj).1⟩
  · have ex' : (s.env.map (substR k es))[i]? = some (some x) := ex
    rw [List.getElem?_map] at ex'
    cases e3 : s.env[i]? with
    | none => rw [e3] at ex'; cases ex'
    | some y =>
      rw [e3] at ex'
      have ex2 : substR k es y = some x := Option.some.inj ex'
      cases y with
      | none => cases ex2
      | some y =>
        obtain ⟨v, q, r⟩ := R.env i y e3
        refine ⟨v, q, ?_⟩
        cases y with
        | dat d => cases ex2; exact RepD.mono ki r
        | hand => cases ex2; exact r
        | fn c => cases ex2; exact r
        | ref j =>
          unfold substR at ex2
          obtain ⟨r1, rfl⟩ := r
          by_cases hj : j = k
          · simp only [hj, if_true] at ex2
            cases ex2
            rw [hj]
            exact dk
          · simp only [hj, if_false] at ex2
            cases ex2
            exact ⟨by simpa [frzS] using r1, rfl⟩
  · obtain ⟨lj, nj⟩ := live j ⟨ys, ey⟩
    have ey' : (s.mem.set k none)[j]? = some (some ys) := ey
    rw [List.getElem?_set_ne (Ne.symm nj)] at ey'
    obtain ⟨us, q, r⟩ := R.mem j ys ey'
    refine ⟨us, ?_, Paired.mapP r fun _ _ z => z.mono st⟩
    rw [upd_ne]
    · exact q
    · exact fun z => nj (R.inj j k lj lk z)
  · have eh' : s.hd = some h := eh
    refine RepHd.mono (fun b u q hb => ?_) ki (R.hd h eh')
    rw [upd_ne]
    · exact q
    · rintro rfl
      have := R.hdk (by rw [eh']; exact fun z => by cases z) k lk
      rcases hb with z | z
      · exact this.1 z
      · exact this.2 z
def noLX : SV → Bool
  | .dat d => d.noL
  | _ => true
/-- all other own lists hold no lists -/
def calmMem (k : Nat) (mem : List (Option (List SV))) : Prop := ∀ j ys, j ≠ k → mem[j]? = some (some ys) → ∀ y ∈ ys, noLX y = true
open Classical in
noncomputable def lockM (i : Nat) (m : M RV) : M RV := fun s => match s.env[i]? with
  | some (some (.ref k)) => match s.mem[k]? with
    | some (some xs) => match datL xs with
      | some es => match m (frzS k es s) with
        | .ok (.sv (.dat d)) s2 => if s2 = frzS k es s ∧ d.noL = true ∧ calmMem k s.mem ∧ (∀ z, (∀ h, z ≠ Hd.hand h) → s.hd ≠ some z) then .ok (RD d) s else .bad
        | _ => .bad
      | none => .bad
    | _ => .bad
  | _ => m s
section
variable {X : Cx} {ct : Nat → Addr} {W : WX} {e : Expr} {m : M RV}
theorem ed_lock (i : Nat) (h : ED X ct W e m) : ED X ct W e (lockM i m) := by
  obtain ⟨t, p, r⟩ := h.ex
  have pl := pe_lock p
  refine ⟨fun σ H Q => t σ H Q ∨ tLockE t σ H Q, ⟨fun pins s σ H Q I q => q.elim (p.run pins s σ H Q I) (pl.run pins s σ H Q I)⟩, fun σ H γ s Q R g => ?_⟩
  unfold lockM at g
  split at g
  · rename_i k e1
    split at g
    · rename_i xs e2
      split at g
      · rename_i es e3
        right
        obtain ⟨vs, ek, re, _⟩ := frz_step R e2 e3 default
        refine ⟨γ.kp k, .lst vs, ek, True.intro, fun o => ?_⟩
        obtain ⟨vs', ek', _, st, R2⟩ := frz_step R e2 e3 o
        rw [ek] at ek'; cases ek'
        refine r σ _ γ _ _ R2 ?_
        unfold Good
        split at g
        · rename_i d s2 e4
          rw [e4]
          split at g
          · rename_i cc
            obtain ⟨c1, c2, c3, c4⟩ := cc
            intro v γ' H' t' R' q'
            subst c1
            have eL : H' (γ.kp k) = some (.frz o (.lst vs)) := t'.imm _ _ upd_same True.intro
            have lk : Live s k := ⟨xs, e2⟩
            refine ⟨eL, ?_⟩
            have back : ∀ a u, H a = some u → a ≠ γ.kp k → upd H (γ.kp k) (.frz o (.lst vs)) a = some u := fun a u ea ne => by rw [upd_ne ne]; exact ea
            have hg : s.mem.length = (frzS k es s).mem.length := by simp [frzS]
            have kpk : ∀ j, j < s.mem.length → γ'.kp j = γ.kp j := fun j hj => t'.kp j (by rw [← hg]; exact hj)
            have liveF : ∀ j, Live s j → j ≠ k → Live (frzS k es s) j := fun j ⟨ys, ey⟩ ne => ⟨ys, by show (s.mem.set k none)[j]? = _; rw [List.getElem?_set_ne (Ne.symm ne)]; exact ey⟩
            have nn : s.hd ≠ none → γ.kp k ≠ γ'.ah ∧ γ.kp k ≠ γ'.g := fun nh => by
              have h0 := R.hdk nh k lk
              refine ⟨by rw [t'.ah]; exact h0.1, fun z => ?_⟩
              rcases t'.own γ'.g (.inr ⟨nh, .inr rfl⟩) with q | q
              · rcases q with ⟨j, lj, ej⟩ | ⟨_, q⟩
                · have lj' : Live s j ∧ j ≠ k := by
                    obtain ⟨ys, ey⟩ := lj
                    have ey' : (s.mem.set k none)[j]? = some (some ys) := ey
                    by_cases hj : k = j
                    · subst hj; rw [List.getElem?_set_self lk.lt] at ey'; cases ey'
                    · rw [List.getElem?_set_ne hj] at ey'; exact ⟨⟨ys, ey'⟩, Ne.symm hj⟩
                  exact lj'.2 (R.inj j k lj'.1 lk (ej.trans z.symm))
                · rcases q with q | q
                  · exact h0.1 (z.trans q)
                  · exact h0.2 (z.trans q)
              · rw [← z, upd_same] at q; cases q
            have st2 : Step γ γ' s s H (upd H' (γ.kp k) (.lst vs)) := by
              refine ⟨fun a u ea no => ?_, fun a z => ?_, fun a u ea im => ?_, fun a z => ?_, kpk, Nat.le_refl _, t'.ah, fun j h1 h2 => absurd h2 (Nat.not_lt.mpr h1)⟩
              · have ne : a ≠ γ.kp k := fun z => no (.inl ⟨k, lk, z.symm⟩)
                rw [upd_ne ne]
                refine t'.keep a u (back a u ea ne) fun z => no ?_
                rcases z with ⟨j, ⟨ys, ey⟩, ej⟩ | z
                · have ey' : (s.mem.set k none)[j]? = some (some ys) := ey
                  by_cases hj : k = j
                  · subst hj; rw [List.getElem?_set_self lk.lt] at ey'; cases ey'
                  · rw [List.getElem?_set_ne hj] at ey'; exact .inl ⟨j, ⟨ys, ey'⟩, ej⟩
                · exact .inr z
              · rcases z with ⟨j, lj, ej⟩ | ⟨nh, z⟩
                · exact .inl (.inl ⟨j, lj, by rw [← kpk j lj.lt]; exact ej⟩)
                · rcases t'.own a (.inr ⟨nh, z⟩) with q | q
                  · left
                    rcases q with ⟨j, ⟨ys, ey⟩, ej⟩ | q
                    · have ey' : (s.mem.set k none)[j]? = some (some ys) := ey
                      by_cases hj : k = j
                      · subst hj; rw [List.getElem?_set_self lk.lt] at ey'; cases ey'
                      · rw [List.getElem?_set_ne hj] at ey'; exact .inl ⟨j, ⟨ys, ey'⟩, ej⟩
                    · exact .inr q
                  · right
                    cases ea : H a with
                    | none => rfl
                    | some u =>
                      by_cases ne : a = γ.kp k
                      · rw [ne, upd_same] at q; cases q
                      · rw [back a u ea ne] at q; cases q
              · have ne : a ≠ γ.kp k := fun z => by rw [z, ek] at ea; cases ea; exact im
                rw [upd_ne ne]
                exact t'.imm a u (back a u ea ne) im
              · by_cases ne : a = γ.kp k
                · rw [ne, upd_same]; exact fun z => by cases z
                · rw [upd_ne ne]
                  exact t'.there a (by rw [upd_ne ne]; exact z)
            refine g v γ' _ st2 ⟨R.len, fun j x ex => ?_, fun j ys ey => ?_, fun a b la lb eab => R.inj a b la lb (by rw [← kpk a la.lt, ← kpk b lb.lt]; exact eab), fun hh eh => ?_, fun nh j lj => ?_⟩ (RepD.unlk eL q' c2)
            · obtain ⟨w, q, rr⟩ := R.env j x ex
              exact ⟨w, q, rr.mono st2⟩
            · by_cases hj : j = k
              · subst hj
                rw [e2] at ey; cases ey
                obtain ⟨us, eu, ru⟩ := R.mem j xs e2
                rw [ek] at eu; cases eu
                exact ⟨vs, by rw [kpk j lk.lt, upd_same], RepSs.mono st2 ru⟩
              · have lj : Live s j := ⟨ys, ey⟩
                have ey' : (frzS k es s).mem[j]? = some (some ys) := by show (s.mem.set k none)[j]? = _; rw [List.getElem?_set_ne (Ne.symm hj)]; exact ey
                obtain ⟨us, eu, ru⟩ := R'.mem j ys ey'
                have ne : γ'.kp j ≠ γ.kp k := by rw [kpk j lj.lt]; exact fun z => hj (R.inj j k lj lk z)
                refine ⟨us, by rw [upd_ne ne]; exact eu, ?_⟩
                have all := c3 j ys hj ey
                clear eu ey ey'
                induction ru with
                | nil => exact .nil
                | cons r1 r2 ih =>
                  refine .cons ?_ (ih fun y hy => all y (by simp [hy]))
                  rename_i w y _ _
                  have ny := all y (by simp)
                  cases y with
                  | dat d2 => exact RepD.unlk eL r1 ny
                  | ref k2 => exact ⟨by rw [hg]; exact r1.1, r1.2⟩
                  | hand => exact r1
                  | fn c => exact r1
            · have q2 := R'.hd hh eh
              have nh : s.hd ≠ none := by rw [eh]; exact fun z => by cases z
              obtain ⟨n1, n2⟩ := nn nh
              cases hh with
              | hand h0 => exact HandAt.mono (fun a u ea hb => by
                  rw [upd_ne]
                  · exact ea
                  · rintro rfl; rcases hb with z | z
                    · exact n1 z
                    · exact n2 z) q2
              | me c fs => exact absurd eh (c4 _ fun _ z => by cases z)
              | dic kds => exact absurd eh (c4 _ fun _ z => by cases z)
            · rw [kpk j lj.lt]
              by_cases hj : j = k
              · subst hj; exact nn nh
              · have := R'.hdk nh j (liveF j lj hj)
                rw [kpk j lj.lt] at this
                exact this
          · exact False.elim g
        · exact False.elim g
      · exact False.elim g
    · exact False.elim g
  · exact .inl (r σ H γ s Q R g)
end
end Fd
set_option Elab.async false
set_option linter.all false
set_option maxRecDepth 100000
set_option maxHeartbeats 4000000
namespace Fd
open PySem PySem.Spec PyProof.Rows L2
/-- a new list becomes the state's own -/
theorem own_new {K : PySem.W.Frag} {ct : Nat → Addr} {γ γ1 : G} {s s1 : S} {H H1 : Hp} {σ : L2.St} {xs : List SV} {v : V} (t1 : Step γ γ1 s s1 H H1) (R1 : Rep K ct γ1 H1 σ s1) (r1 : RepR K ct γ1 s1 H H1 v (.new xs)) :
    ∃ γ2, Step γ γ2 s { s1 with mem := s1.mem ++ [some xs] } H H1 ∧ Rep K ct γ2 H1 σ { s1 with mem := s1.mem ++ [some xs] } ∧ RepS K ct γ2 (s1.mem ++ [some xs]).length H1 v (.ref s1.mem.length) := by
  obtain ⟨a, vs, rfl, e0, ea, na, rp⟩ := r1
  let γ2 : G := { γ1 with kp := fun j => if j = s1.mem.length then a else γ1.kp j }
  let s2 : S := { s1 with mem := s1.mem ++ [some xs] }
  have kp1 : ∀ k, k < s1.mem.length → γ2.kp k = γ1.kp k := fun k h => if_neg (Nat.ne_of_lt h)
  have kp2 : γ2.kp s1.mem.length = a := if_pos rfl
  have live : ∀ k, Live s2 k → (Live s1 k ∧ γ2.kp k = γ1.kp k) ∨ (k = s1.mem.length ∧ γ2.kp k = a) := fun k ⟨ys, ey⟩ => by
    have ey' : (s1.mem ++ [some xs])[k]? = some (some ys) := ey
    by_cases hk : k < s1.mem.length
    · rw [List.getElem?_append_left hk] at ey'
      exact .inl ⟨⟨ys, ey'⟩, kp1 k hk⟩
    · have hk2 : k < (s1.mem ++ [some xs]).length := (List.getElem?_eq_some_iff.mp ey').1
      simp at hk2
      have : k = s1.mem.length := by omega
      exact .inr ⟨this, by rw [this]; exact kp2⟩
  have own2 : ∀ x, Own γ2 s2 x → Own γ1 s1 x ∨ x = a := fun x z => by
    rcases z with ⟨k, lk, rfl⟩ | z
    · rcases live k lk with ⟨l, q⟩ | ⟨_, q⟩
      · exact .inl (.inl ⟨k, l, q.symm⟩)
      · exact .inr q
    · exact .inl (.inr z)
  have m1 : ∀ {v x}, RepS K ct γ1 s1.mem.length H1 v x → RepS K ct γ2 s2.mem.length H1 v x := fun {v x} r => by
    cases x with
    | dat d => exact r
    | ref k => exact ⟨by show k < (s1.mem ++ [some xs]).length; have := r.1; simp; omega, by rw [kp1 k r.1]; exact r.2⟩
    | hand => exact r
    | fn c => exact r
  refine ⟨γ2, ⟨t1.keep, fun x z => ?_, t1.imm, t1.there, fun k hk => (kp1 k (Nat.lt_of_lt_of_le hk t1.len)).trans (t1.kp k hk), by show s.mem.length ≤ (s1.mem ++ [some xs]).length; have := t1.len; simp; omega, t1.ah, fun k h1 h2 => ?_⟩,
    ⟨R1.len, fun i x ex => ?_, fun k ys ey => ?_, fun i j li lj eij => ?_, fun h eh => R1.hd h eh, fun z k lk => ?_⟩, ⟨by show s1.mem.length < (s1.mem ++ [some xs]).length; simp, by rw [kp2]⟩⟩
  · rcases own2 x z with z | z
    · exact t1.own x z
    · rw [z]; exact .inr e0
  · have h3 : k < (s1.mem ++ [some xs]).length := h2
    simp at h3
    by_cases hk : k < s1.mem.length
    · rw [kp1 k hk]; exact t1.fresh k h1 hk
    · have : k = s1.mem.length := by omega
      rw [this, kp2]; exact e0
  · obtain ⟨v, q, r⟩ := R1.env i x ex
    exact ⟨v, q, m1 r⟩
  · have ey' : (s1.mem ++ [some xs])[k]? = some (some ys) := ey
    by_cases hk : k < s1.mem.length
    · rw [List.getElem?_append_left hk] at ey'
      obtain ⟨us, q, r⟩ := R1.mem k ys ey'
      exact ⟨us, by rw [kp1 k hk]; exact q, Paired.mapP r fun _ _ z => m1 z⟩
    · have hk2 : k < (s1.mem ++ [some xs]).length := (List.getElem?_eq_some_iff.mp ey').1
      simp at hk2
      have hk3 : k = s1.mem.length := by omega
      subst hk3
      simp at ey'
      subst ey'
      exact ⟨vs, by rw [kp2]; exact ea, Paired.mapP rp fun _ _ z => m1 z⟩
  · rcases live i li with ⟨l1, q1⟩ | ⟨l1, q1⟩ <;> rcases live j lj with ⟨l2, q2⟩ | ⟨l2, q2⟩
    · exact R1.inj i j l1 l2 (by rw [← q1, ← q2]; exact eij)
    · exact absurd (.inl ⟨i, l1, by rw [← q1, eij, q2]⟩) na
    · exact absurd (.inl ⟨j, l2, by rw [← q2, ← eij, q1]⟩) na
    · rw [l1, l2]
  · rcases live k lk with ⟨l1, q1⟩ | ⟨l1, q1⟩
    · rw [q1]; exact R1.hdk z k l1
    · rw [q1]
      exact ⟨fun y => na (.inr ⟨z, .inl y⟩), fun y => na (.inr ⟨z, .inr y⟩)⟩
section
variable {X : Cx} {ct : Nat → Addr} {W : WX} {pos : Pos} {tg : Expr}
/-- x = [..] on one line, an own list -/
noncomputable def setLcO (i : Nat) (mi : M Src) (vs : List Nat) (f : SV → M Unit) (tt : M Bool) (me : M RV) : M Fl := bnd (lcM mi vs f tt me) fun r s => match r with
  | .new xs => .ok .nx { s with mem := s.mem ++ [some xs], env := s.env.set i (some (.ref s.mem.length)) }
  | _ => .bad
theorem sd_setLcO {i : Nat} {y : Str} {py spos : Pos} {elt it : Expr} {ifs : List Expr} {scope : Scope} {own : List (Str × Nat)} {mi : M Src} {is : List Nat} {f : SV → M Unit} {mt : M Bool} {me : M RV} (hc : X.calm = true) (hN : X.N.Nodup) (hy : X.N[i]? = some y) (hyl : X.env.scope.names.lookup y = some .local)
    (hsw : swapsWith (.ListComp elt [⟨tg, it, ifs, 0⟩] scope pos) (some (.Name y py)) spos.line X.env = pure true) (hi : ID X ct W tg it mi) (ok : BlkOk X.N X.env.scope scope own) (hv : ∀ j ∈ is, j ∈ own.map (·.2))
    (hg : ∀ (s : Shared) (H : Hp) (C : Addr) (cl : List (Str × Addr)) (fp : List Addr), GD (X.blk s H scope (compEnvC scope cl C X.env) fp) ct tg is f) (ht : ∀ (s : Shared) (H : Hp) (C : Addr) (cl : List (Str × Addr)) (fp : List Addr), IfsD (X.blk s H scope (compEnvC scope cl C X.env) fp) ct ifs mt)
    (he : ∀ (s : Shared) (H : Hp) (C : Addr) (cl : List (Str × Addr)) (fp : List Addr), ED (X.blk s H scope (compEnvC scope cl C X.env) fp) ct WF elt me) (hs : ∀ x, foldedSetIterable it X.env x = pure x := by intro _; rfl) :
    SD X ct W (.Assign [.Name y py] (.ListComp elt [⟨tg, it, ifs, 0⟩] scope pos) spos) (setLcO i mi (own.map (·.2)) f mt me) := by
  obtain ⟨wi, pi, ri⟩ := hi.ex
  refine ⟨_, ps_setLc (g := tmG X.K ct is f) (tt := tmT X.K ct WF mt) (te := tmE X.K ct WF me) hc hN hy hyl hsw pi ok (fun s H C cl fp => (hg s H C cl fp).pg) (fun s H C cl fp => (ht s H C cl fp).pts) (fun s H C cl fp => (he s H C cl fp).pe) hs, fun N σ H γ s R h => ?_⟩
  show tLc wi (tmG X.K ct is f) (tmT X.K ct WF mt) (tmE X.K ct WF me) (own.map (·.2)) σ H (fun x H1 => gName i x σ H1 N.nx)
  refine lc_sem ri hv R (use_e h (fun _ _ z => z.at) fun r s1 v γ1 H1 t1 R1 q1 g => ?_)
  cases r with
  | sv x => exact False.elim g
  | new xs =>
    obtain ⟨γ2, st, R2, r2⟩ := own_new t1 R1 q1
    exact g _ γ2 _ (st.trans step_env) (rep_set R2 r2)
end
/-! ## defs with the hand and defaults -/
structure OkHd (P : Program) (w : World) (K : PySem.W.Frag) (mg : Str → Option Value) (base : Heap) (ct : Nat → Addr) (x : Str) (n : Nat) (k : Nat) (F : List SV → Hand → Res × Hand) (dd : List D) : Prop where
  ex : ∃ (f : Addr) (fd : FuncData) (ps : List Str) (ds : List Value) (dvs : List V), ps.length = n ∧ mg x = some (.ref f) ∧ PySem.W.keepIn K (.ref f) = true ∧ FnOk P w K mg base (L2.CX P w) k f fd ps (spH K ct n F) ∧ Binds K fd ps ds ∧ Vals dvs ds ∧ ∀ H, RepDs K ct H dvs dd
section
variable {X : Cx} {ct : Nat → Addr} {W : WX} {pos p : Pos} {x : Str} {e : Expr} {es : List Expr} {mA : M (List SV)} {k n : Nat} {FH : List SV → Hand → Res × Hand} {dd : List D}
theorem ed_callHd (O : OkHd X.prog X.w X.K X.mg X.base ct x n k FH dd) (hr : Room k X.A) (tk : Takes X W) (ha : AD X ct W (e :: es) mA) (hg : Gl X x := by rfl) (hdb : (x == ("__debug__" : Str)) = false := by decide) (he : starEach (e :: es) X.env = (false, eval e X.env) :: starEach es X.env := by rfl) (hpl : (backTo pos (starEach es X.env)).any (·.1) = false := by rfl) :
    ED X ct W (.Call (.Name x p) (e :: es) [] pos) (bnd mA (callH n FH dd)) := by
  obtain ⟨f, fd, ps, ds, dvs, rfl, hm, hk, FK, hb, hd, hdd⟩ := O.ex
  exact ed_callH FK hr hg hm hk hb hd hdd tk ha hdb he hpl
end
section
variable {P : Program} {w : World} {K : PySem.W.Frag} {mg : Str → Option Value} {base : Heap} {x : Str} {dvs : List V}
theorem okHf {st : Stmt} {N ps : List Str} {k : Nat} {ct : Nat → Addr} {m : M Fl} {dd : List D} (T : FnT K mg x st dvs) (S : FnScope N ps (defScope st)) (n j : Nat) (hd : dvs ≠ []) (hn : n + (dvs.length - j) = ps.length) (hdd : ∀ H, RepDs K ct H dvs dd)
    (hbd : ∀ (T : Addr) (kV doc pm : Value) (an : Option Addr) (cdv ct : Value) (us its : List Value), us.length = n → its.length = dvs.length →
      ∃ k, bindArgs (PySem.W.fnOf x x (defArgs st) (defBody st) (defScope st) (.ref T) kV doc pm an cdv ct) ⟨us, []⟩ = seqItems? (.ref T) >>= k ∧ k (some its.toArray) = pure (ps.zip (us ++ its.drop j)))
    (hb : ∀ (f : Addr) (cdv : Value) (A : Around) (outer : List Env) (s : Shared) (H : Hp) (E : XK), Room k (A.deeper (envOfC x (defScope st) s.heap.objs.size f cdv)) →
      SDs (cxOf (L2.CX P w) P w K mg base N x (defScope st) f cdv A outer s H E) ct (fun cls d _ H => E cls d H) (defBody st) m) : OkHd P w K mg base ct x ps.length (k + 1) (runH N.length m) (dd.drop j) := by
  obtain ⟨f, fd, hm, F⟩ := T.ex
  obtain ⟨ds, rv, bb⟩ := F.binds1 n j hd hn hbd
  exact ⟨f, fd, ps, ds, _, rfl, hm, F.kp, fnH F S (hb f), bb, rv, fun H => RepDs.drop j (hdd H)⟩
end
end Fd
set_option Elab.async false
set_option linter.all false
set_option maxRecDepth 100000
set_option maxHeartbeats 4000000
namespace Fd
open PySem PySem.Spec PyProof.Rows L2
def nilG : List SV → M Unit := fun xs => match xs with
  | [] => pur ()
  | _ => stuck
theorem gds_nilG {X : Cx} {ct : Nat → Addr} : GDs X ct [] [] nilG := gds_nil
@[simp] theorem e_nilG (s : S) : nilG [] s = .ok () s := rfl
/-! ## simp rules of the newer combinators -/
section
variable {s : S} {α : Type}
@[simp] theorem e_fldO (cs : List Nat) (f : Str) (c : Nat) (ds : List (Str × D)) : fldM cs f (RD (.obj c ds)) s = if cs.contains c = true then match ds.lookup f with
  | some d => .ok (RD d) s
  | none => .bad
  else .bad := rfl
@[simp] theorem e_fldH (cs : List Nat) (f : Str) : fldM cs f (.sv .hand) s = match s.hd with
  | some (.me c ds) => if cs.contains c = true then match ds.lookup f with
    | some d => .ok (RD d) s
    | none => .bad
    else .bad
  | _ => .bad := rfl
@[simp] theorem e_setMe (c0 i : Nat) (f : Str) (m : M RV) : setMe c0 i f m s = match m s with
  | .ok (.sv (.dat d)) s1 => (match s1.env[i]? with
    | some (some .hand) => (match s1.hd with
      | some (.me c ds) => if c = c0 ∧ ds.length < 900 then .ok .nx { s1 with hd := some (.me c (putD f d ds)) } else .bad
      | _ => .bad)
    | _ => .bad)
  | .ok _ _ => .bad
  | .exc x s' => .exc x s'
  | .bad => .bad := by
  conv => lhs; unfold setMe bnd
  cases m s with
  | exc => rfl
  | bad => rfl
  | ok x s1 =>
    cases x with
    | new => rfl
    | sv y => cases y with
      | ref => rfl
      | hand => rfl
      | fn c => rfl
      | dat d =>
        dsimp only
        unfold getV
        cases s1.env[i]? with
        | none => rfl
        | some o => cases o with
          | none => rfl
          | some z => cases z <;> rfl
@[simp] theorem e_putD0 (f : Str) (v : D) : putD f v [] = [(f, v)] := rfl
@[simp] theorem e_putD1 (f g : Str) (v x : D) (r : List (Str × D)) : putD f v ((g, x) :: r) = if g = f then (g, v) :: r else (g, x) :: putD f v r := rfl
@[simp] theorem e_altM (m1 m2 : M α) : altM m1 m2 s = match m1 s with
  | .bad => m2 s
  | o => o := rfl
@[simp] theorem e_startI (n c : Nat) (ds : List D) : startI n c ds = ⟨(SV.hand :: ds.map SV.dat).map some ++ List.replicate (n - (ds.length + 1)) none, [], some (.me c [])⟩ := rfl
@[simp] theorem e_runI (n c : Nat) (m : M Fl) (ds : List D) : runI n c m ds = resI (m (startI n c ds)) := rfl
@[simp] theorem e_resI1 (s : S) : resI (.ok .nx s) = match s.hd with
  | some (.me c fs) => if fs.isEmpty = true then .bad else .ret (.dat (.obj c fs))
  | _ => .bad := rfl
@[simp] theorem e_resI2 (x : Exn) : resI (.exc x s) = .exc x := rfl
@[simp] theorem e_datRes (F : List D → Res) (ds : List D) : datRes F ds = match F ds with
  | .ret (.new _) => .bad
  | r => r := rfl
@[simp] theorem e_isGO (kt kc) (c : Nat) (ds : List (Str × D)) : isiG kt kc (RD (.obj c ds)) s = match kc c with
  | some b => .ok (RB b) s
  | none => .bad := rfl
@[simp] theorem e_isG0 (kt kc) : isiG kt kc RN s = match kt .none with
  | some b => .ok (RB b) s
  | none => .bad := rfl
@[simp] theorem e_isG1 (kt kc) (b : Bool) : isiG kt kc (RB b) s = match kt .bool with
  | some b => .ok (RB b) s
  | none => .bad := rfl
@[simp] theorem e_isG2 (kt kc) (b : Int) : isiG kt kc (RI b) s = match kt .int with
  | some b => .ok (RB b) s
  | none => .bad := rfl
@[simp] theorem e_isG3 (kt kc) (b : Str) : isiG kt kc (RS b) s = match kt .str with
  | some b => .ok (RB b) s
  | none => .bad := rfl
@[simp] theorem e_isG4 (kt kc) (b : List D) : isiG kt kc (RT b) s = match kt .tuple with
  | some b => .ok (RB b) s
  | none => .bad := rfl
@[simp] theorem e_isG5 (kt kc) (b : List D) : isiG kt kc (RD (.lst b)) s = match kt .list with
  | some b => .ok (RB b) s
  | none => .bad := rfl
@[simp] theorem e_isG6 (kt kc) (b) : isiG kt kc (RD (.dct b)) s = match kt .dict with
  | some b => .ok (RB b) s
  | none => .bad := rfl
@[simp] theorem e_isG7 (kt kc) (b : List SV) : isiG kt kc (.new b) s = match kt .list with
  | some b => .ok (RB b) s
  | none => .bad := rfl
@[simp] theorem e_isG8 (kt kc) (k : Nat) : isiG kt kc (.sv (.ref k)) s = match tyR s (.sv (.ref k)) with
  | some t => match kt t with
    | some b => .ok (RB b) s
    | none => .bad
  | none => .bad := rfl
@[simp] theorem e_ktOwn (t : Ty) : ktOwn t = some false := rfl
@[simp] theorem e_ktB (u t : Ty) : ktB u t = some (subTy t u) := rfl
@[simp] theorem e_kcOwn (lo hi d c : Nat) : kcOwn lo hi d c = if inR lo hi c = true then some (c == d) else none := rfl
@[simp] theorem e_kcB (lo hi c : Nat) : kcB lo hi c = if inR lo hi c = true then some false else none := rfl
@[simp] theorem e_inR (lo hi c : Nat) : inR lo hi c = (decide (lo ≤ c) && decide (c < hi)) := rfl
@[simp] theorem e_methM (c0 : Nat) (mn : Str) (n : Nat) (F dd mo mA) : methM c0 mn n F dd mo mA s = match mo s with
  | .ok (.sv (.dat (.obj c ds))) s1 => if c = c0 ∧ (ds.lookup mn).isNone = true then bnd mA (fun xs => callM n F dd (.dat (.obj c ds) :: xs)) s1 else .bad
  | .ok _ _ => .bad
  | .exc x s' => .exc x s'
  | .bad => .bad := by
  conv => lhs; unfold methM bnd
  cases mo s with
  | exc => rfl
  | bad => rfl
  | ok x s1 =>
    cases x with
    | new => rfl
    | sv y => cases y with
      | ref => rfl
      | hand => rfl
      | fn c => rfl
      | dat d => cases d with
        | obj c ds =>
          dsimp only
          split <;> rfl
        | _ => rfl
@[simp] theorem e_eqOwn (lo hi c0 : Nat) (F neg) (c : Nat) (ds : List (Str × D)) (y : D) : eqOwnM lo hi c0 F neg (RD (.obj c ds)) (RD y) s = if c = c0 ∧ okT lo hi y = true then match F [.obj c ds, y] with
    | .ret (.dat (.bl b)) => .ok (RB (b != neg)) s
    | _ => .bad
    else .bad := rfl
@[simp] theorem e_okT0 (lo hi) : okT lo hi .non = true := rfl
@[simp] theorem e_okT1 (lo hi a) : okT lo hi (.bl a) = true := rfl
@[simp] theorem e_okT2 (lo hi a) : okT lo hi (.int a) = true := rfl
@[simp] theorem e_okT3 (lo hi a) : okT lo hi (.str a) = true := rfl
@[simp] theorem e_okT4 (lo hi a) : okT lo hi (.tup a) = true := rfl
@[simp] theorem e_okT5 (lo hi a) : okT lo hi (.lst a) = true := rfl
@[simp] theorem e_okT6 (lo hi a) : okT lo hi (.dct a) = true := rfl
@[simp] theorem e_okT7 (lo hi c a) : okT lo hi (.obj c a) = inR lo hi c := rfl
@[simp] theorem e_chainM (f g ma mb mc) : chainM f g ma mb mc s = bnd ma (fun x => bnd mb fun y => bnd (f x y) fun z => bnd (asB z) fun k => if k = true then bnd mc (fun w => g y w) else pur (RB false)) s := rfl
@[simp] theorem e_enumT (ds : List D) : enumM [RT ds] s = .ok ⟨enumF 0 ds, none⟩ s := rfl
@[simp] theorem e_enumL (ds : List D) : enumM [RD (.lst ds)] s = .ok ⟨enumF 0 ds, none⟩ s := rfl
@[simp] theorem e_enumN (xs : List SV) : enumM [.new xs] s = match datL xs with
  | some ds => .ok ⟨enumF 0 ds, none⟩ s
  | none => .bad := by
  show (match datL xs with | some ds => pur (Src.mk (enumF 0 ds) none) | none => stuck) s = _
  cases datL xs <;> rfl
@[simp] theorem e_rng3 (i j : Int) : rng3 [RI i, RI j, RI (-1)] s = ifC (-(2 ^ 62) ≤ i ∧ i < 2 ^ 62 ∧ -(2 ^ 62) ≤ j ∧ j < 2 ^ 62) (.ok ⟨downL i (i - j).toNat, none⟩ s) .bad := by
  show ifC ((-1 : Int) = -1 ∧ _) _ _ = _
  simp
@[simp] theorem e_intsL0 : intsL [] = some [] := rfl
@[simp] theorem e_intsL1 (i : Int) (r : List SV) : intsL (.dat (.int i) :: r) = match intsL r with
    | some is => some (i :: is)
    | none => none := rfl
@[simp] theorem e_maxM (x : RV) : maxM [x] s = match seqL s x with
    | some xs => match intsL xs with
      | some is => if is.isEmpty = true then .bad else .ok (RI (maxL is)) s
      | none => .bad
    | none => .bad := rfl
@[simp] theorem e_minM (x : RV) : minM [x] s = match seqL s x with
    | some xs => match intsL xs with
      | some is => if is.isEmpty = true then .bad else .ok (RI (minL is)) s
      | none => .bad
    | none => .bad := rfl
@[simp] theorem e_seqLN (xs : List SV) : seqL s (.new xs) = some xs := rfl
@[simp] theorem e_seqLL (ds : List D) : seqL s (RD (.lst ds)) = some (ds.map SV.dat) := rfl
@[simp] theorem e_seqLR (k : Nat) : seqL s (.sv (.ref k)) = match s.mem[k]? with
    | some (some xs) => some xs
    | _ => none := rfl
@[simp] theorem e_lrM (i j : Int) : lrM (RI i) (RI j) s = ifC (-(2 ^ 62) ≤ i ∧ i < 2 ^ 62 ∧ -(2 ^ 62) ≤ j ∧ j < 2 ^ 62 ∧ (j - i).toNat ≤ 100000) (.ok (.new (rangeL i (j - i).toNat)) s) .bad := rfl
@[simp] theorem e_appM (mo me : M RV) : appM mo me s = bnd mo (fun x => match x with
  | .sv (.ref k) => fun s0 => match s0.mem[k]? with
    | some (some _) => bnd me (fun y => match y with
      | .sv d => fun s => match s.mem[k]? with
        | some (some xs) => if xs.length < 100000 then .ok RN { s with mem := s.mem.set k (some (xs ++ [d])) } else .bad
        | _ => .bad
      | _ => stuck) s0
    | _ => .bad
  | _ => stuck) s := rfl
@[simp] theorem e_setIx (k : Nat) (n : Int) (d : SV) : setIx (.sv (.ref k)) (RI n) d s = match s.mem[k]? with
    | some (some xs) => match ixN xs.length n with
      | some q => .ok () { s with mem := s.mem.set k (some (xs.set q d)) }
      | none => .bad
    | _ => .bad := rfl
@[simp] theorem e_subG (mo mi : M RV) (d : SV) : subG mo mi d s = match mo s with
  | .ok x s1 => match mi s1 with
    | .ok j s2 => setIx x j d s2
    | _ => .bad
  | _ => .bad := rfl
@[simp] theorem e_repLM (xs : List SV) (n : Int) : repLM (.new xs) (RI n) s = if 0 ≤ n ∧ n ≤ 1000 ∧ xs.length ≤ 100 then .ok (.new (List.replicate n.toNat xs).flatten) s else .bad := rfl
@[simp] theorem e_keyI (i : Int) : keyM (RI i) = some (.inl i) := rfl
@[simp] theorem e_keyS (i : Str) : keyM (RS i) = some (.inr i) := rfl
@[simp] theorem e_dct1M (mk mv : M RV) : dct1M mk mv s = bnd mk (fun x => bnd mv fun y => match keyM x, y with
  | some k, .sv (.dat d) => pur (RD (.dct [(k, d)]))
  | _, _ => stuck) s := rfl
@[simp] theorem e_lenOwn (c0 : Nat) (F) (c : Nat) (ds : List (Str × D)) : lenOwnM c0 F [RD (.obj c ds)] s = if c = c0 then match F [.obj c ds] with
    | .ret (.dat (.int n)) => ifC (0 ≤ n ∧ n < 2 ^ 62) (.ok (RI n) s) .bad
    | _ => .bad
    else .bad := rfl
@[simp] theorem e_ownD (d : D) : own (RD d) s = .ok (RD d) s := rfl
@[simp] theorem e_ownN (xs : List SV) : own (.new xs) s = .ok (.sv (.ref s.mem.length)) { s with mem := s.mem ++ [some xs] } := rfl
@[simp] theorem e_fieldsH2 (f g : Str) (x : Exn) : fieldsH2 f g x s = match x.fs.lookup f, x.fs.lookup g with
  | some d, some e => .ok (.rt (RT [d, e])) s
  | _, _ => .bad := by
  unfold fieldsH2
  cases x.fs.lookup f with
  | none => rfl
  | some _ => cases x.fs.lookup g <;> rfl
@[simp] theorem e_ssM (mi vs f tt me) : ssM mi vs f tt me s = bnd mi (fun src s => bnd (siL src.Ok vs f tt me src.items []) (fun acc => pur (.new ((sortS acc).map fun k => .dat (.int k)))) (wipeS vs s)) s := rfl
@[simp] theorem e_tyD (b) : tyR s (RD (.dct b)) = some .dict := rfl
theorem lockM_dat {i : Nat} {m : M RV} {d : D} (h : s.env[i]? = some (some (.dat d))) : lockM i m s = m s := by
  unfold lockM
  rw [h]
theorem lockM_ref {i k : Nat} {m : M RV} {xs : List SV} {es : List D} {d : D} (h : s.env[i]? = some (some (.ref k))) (h2 : s.mem[k]? = some (some xs)) (h3 : datL xs = some es) (h4 : m (frzS k es s) = .ok (RD d) (frzS k es s)) (h5 : d.noL = true) (h6 : calmMem k s.mem) (h7 : ∀ z, (∀ h, z ≠ Hd.hand h) → s.hd ≠ some z) : lockM i m s = .ok (RD d) s := by
  unfold lockM
  simp only [h, h2, h3, h4]
  rw [if_pos ⟨rfl, h5, h6, h7⟩]
@[simp] theorem e_setLcO (i mi vs f tt me) : setLcO i mi vs f tt me s = bnd (lcM mi vs f tt me) (fun r s => match r with
  | .new xs => .ok .nx { s with mem := s.mem ++ [some xs], env := s.env.set i (some (.ref s.mem.length)) }
  | _ => .bad) s := rfl
end
end Fd
set_option Elab.async false
set_option linter.all false
set_option maxRecDepth 100000
set_option maxHeartbeats 4000000
namespace Fd
open PySem PySem.Spec PyProof.Rows L2
/-! ## the facts of classes, by their parts -/
section
variable {K : PySem.W.Frag} {ct : Nat → Addr} {c : Nat} {C f : Addr} {mn q : Str} {st : Stmt}
theorem mthT0 {oc : Value} {od an : Option Addr} {osl : Array (Option Value)} {kV doc pm cdv ct1 : Value} (hct : ct c = C) (a : PySem.W.findIn K (.ref C) mn = some (some (.ref f))) (t : PySem.W.typeIn K (.ref f) = some (.type "function")) (kp : PySem.W.keepIn K (.ref f) = true)
    (l : K.lookup f = some ⟨oc, od, .func (PySem.W.fnOf mn q (defArgs st) (defBody st) (defScope st) .none kV doc pm an cdv ct1), osl⟩) (cd : PySem.W.codeIn K cdv q = true) : MthT K ct c mn q st [] := by
  subst hct
  exact ⟨f, _, ⟨a, by unfold PySem.W.isFn; rw [t]; rfl, kp⟩, ⟨⟨oc, od, _, kV, doc, pm, an, cdv, ct1, osl, rfl, l, cd, .inl ⟨rfl, rfl⟩, .inl rfl⟩, kp⟩⟩
theorem clsT0 (hct : ct c = C) (pg : PySem.W.plainGet K C Str.empty = true) (hd : PySem.W.hasDictIn K C = true) (po : PySem.W.plainOver K C = true) (sa : PySem.W.findIn K (.ref C) "__setattr__" = some (some (.builtin "object.__setattr__")))
    (ca : PySem.W.findIn K (.ref C) "__class__" = some (some (.builtin "object.__class__"))) (cn : PySem.W.specialIn K (.builtin "object.__class__") "__get__" = some (some (.builtin "getset_descriptor.__get__"))) (tk : PySem.W.takesIn K (.builtin "object.__class__") = some true) (cm : PySem.W.mroIn K C (.type "object") = some true) : ClsT K ct c := by
  subst hct
  exact ⟨⟨pg, hd, po, sa⟩, ca, cn, tk, cm⟩
theorem mkT0 {mg : Str → Option Value} {x : Str} {h : Heap} (KX : K.In h) (G : h.Ns mainGlobals mg) (hct : ct c = C) (m : PySem.W.makesIn K C = true) (k : PySem.W.keepIn K (.ref C) = true) (e : PySem.W.nsIn K mainGlobals x = some (some (.ref C))) : MkT K mg ct c x := by
  subst hct
  exact ⟨m, k, PySem.W.mg_of KX G e⟩
theorem tyAll {p : Ty → Prop} (h0 : p .int) (h1 : p .bool) (h2 : p .str) (h3 : p .tuple) (h4 : p .list) (h5 : p .dict) (h6 : p .none) : ∀ t, p t := fun t => by cases t <;> assumption
theorem tyAllN {p : Ty → Prop} (h0 : p .int) (h1 : p .bool) (h2 : p .str) (h3 : p .tuple) (h4 : p .list) (h5 : p .dict) : ∀ t, t ≠ .none → p t := fun t h => by cases t <;> first | assumption | exact absurd rfl h
end
end Fd
set_option Elab.async false
set_option linter.all false
set_option maxRecDepth 100000
set_option maxHeartbeats 4000000
namespace Fd
open PySem PySem.Spec PyProof.Rows L2
/-! ## an own list that is let go -/
def dropS (i : Nat) (s : S) : S := match s.env[i]? with
  | some (some (.ref k)) => { s with mem := s.mem.set k none }
  | _ => s
def dropM {α : Type} (i : Nat) (m : M α) : M α := fun s => m (dropS i s)
theorem let_go {K : PySem.W.Frag} {ct : Nat → Addr} {γ : G} {s : S} {H : Hp} {σ : L2.St} (R : Rep K ct γ H σ s) (k : Nat) : Step γ γ s { s with mem := s.mem.set k none } H H ∧ Rep K ct γ H σ { s with mem := s.mem.set k none } := by
  have live : ∀ j, Live { s with mem := s.mem.set k none } j → Live s j := fun j ⟨ys, ey⟩ => by
    have ey' : (s.mem.set k none)[j]? = some (some ys) := ey
    by_cases hj : k = j
    · subst hj
      by_cases hk : k < s.mem.length
      · rw [List.getElem?_set_self hk] at ey'; cases ey'
      · rw [List.getElem?_eq_none (by simpa using hk)] at ey'; cases ey'
    · rw [List.getElem?_set_ne hj] at ey'
      exact ⟨ys, ey'⟩
  have ln : (s.mem.set k none).length = s.mem.length := List.length_set
  refine ⟨⟨fun _ _ e _ => e, fun x z => .inl ?_, KeepI.refl, fun _ z => z, fun _ _ => rfl, Nat.le_of_eq ln.symm, rfl, fun j h1 h2 => ?_⟩, ?_⟩
  · rcases z with ⟨j, lj, e⟩ | z
    · exact .inl ⟨j, live j lj, e⟩
    · exact .inr z
  · have h2' : j < (s.mem.set k none).length := h2
    rw [ln] at h2'
    omega
  · refine ⟨R.len, fun i x e => ?_, fun j ys ey => ?_, fun i j li lj => R.inj i j (live i li) (live j lj), R.hd, fun z j lj => R.hdk z j (live j lj)⟩
    · show ∃ v, σ[i]? = some (some v) ∧ RepS K ct γ (s.mem.set k none).length H v x
      rw [ln]
      exact R.env i x e
    · obtain ⟨us, eu⟩ := live j ⟨ys, ey⟩
      have ey' : (s.mem.set k none)[j]? = some (some ys) := ey
      have : s.mem[j]? = some (some ys) := by
        by_cases hj : k = j
        · subst hj
          have hk : k < s.mem.length := by
            by_cases hk : k < s.mem.length
            · exact hk
            · rw [List.getElem?_eq_none (by omega)] at eu; cases eu
          rw [List.getElem?_set_self hk] at ey'; cases ey'
        · rwa [List.getElem?_set_ne hj] at ey'
      show ∃ vs, H (γ.kp j) = some (.lst vs) ∧ Paired (RepS K ct γ (s.mem.set k none).length H) vs ys
      rw [ln]
      exact R.mem j ys this
theorem drop_step {K : PySem.W.Frag} {ct : Nat → Addr} {γ : G} {s : S} {H : Hp} {σ : L2.St} (R : Rep K ct γ H σ s) (i : Nat) : Step γ γ s (dropS i s) H H ∧ Rep K ct γ H σ (dropS i s) := by
  unfold dropS
  split
  · exact let_go R _
  · exact ⟨Step.refl, R⟩
section
variable {X : Cx} {ct : Nat → Addr} {W : WX} {e : Expr} {m : M RV} {s : S}
theorem ed_drop (i : Nat) (h : ED X ct W e m) : ED X ct W e (dropM i m) := by
  obtain ⟨t, p, r⟩ := h.ex
  refine ⟨t, p, fun σ H γ s Q R g => ?_⟩
  obtain ⟨st, R2⟩ := drop_step R i
  exact r σ H γ _ _ R2 (Good.step st g)
@[simp] theorem drop_non {i : Nat} {m : M RV} (h : s.env[i]? = some none) : dropM i m s = m s := by
  unfold dropM dropS
  rw [h]
@[simp] theorem drop_dat {i : Nat} {m : M RV} {d : D} (h : s.env[i]? = some (some (.dat d))) : dropM i m s = m s := by
  unfold dropM dropS
  rw [h]
@[simp] theorem drop_ref {i k : Nat} {m : M RV} (h : s.env[i]? = some (some (.ref k))) : dropM i m s = m { s with mem := s.mem.set k none } := by
  unfold dropM dropS
  rw [h]
end
/-! ## more rules -/
theorem lcL_map {l : List SV} {vs : List Nat} {f : SV → M Unit} {tt : M Bool} {me : M RV} {st : S} (g : SV → SV) : ∀ (xs acc : List SV), acc.length + xs.length ≤ 100000 →
    (∀ x ∈ xs, ∃ s1 s2 s3, f x st = .ok () s1 ∧ tt s1 = .ok true s2 ∧ me s2 = .ok (.sv (g x)) s3 ∧ wipeS vs s3 = st) → lcL (Src.mk l none).Ok vs f tt me xs acc st = .ok (.new (acc ++ xs.map g)) st := by
  intro xs
  induction xs with
  | nil => intro acc _ _; rw [List.map_nil, List.append_nil]; exact if_pos trivial
  | cons x xs ih =>
    intro acc hl h
    obtain ⟨s1, s2, s3, h1, h2, h3, h4⟩ := h x (by simp)
    unfold lcL
    rw [if_pos src_ok, h1]
    simp only [h2, h3, h4]
    rw [if_pos (by simp at hl; omega), ih (acc ++ [g x]) (by simp at hl ⊢; omega) fun y hy => h y (by simp [hy])]
    simp
theorem siL_filter {l : List SV} {vs : List Nat} {f : SV → M Unit} {tt : M Bool} {me : M RV} {st : S} (p : SV → Bool) (g : SV → Int) : ∀ (xs : List SV) (acc : List Int), acc.length + xs.length ≤ 60 →
    (∀ x ∈ xs, ∃ s1 s2, f x st = .ok () s1 ∧ tt s1 = .ok (p x) s2 ∧ (p x = true → ∃ s3, me s2 = .ok (RI (g x)) s3 ∧ wipeS vs s3 = st) ∧ (p x = false → wipeS vs s2 = st)) → siL (Src.mk l none).Ok vs f tt me xs acc st = .ok (acc ++ (xs.filter p).map g) st := by
  intro xs
  induction xs with
  | nil => intro acc _ _; rw [List.filter_nil, List.map_nil, List.append_nil]; exact if_pos trivial
  | cons x xs ih =>
    intro acc hl h
    obtain ⟨s1, s2, h1, h2, h3, h4⟩ := h x (by simp)
    unfold siL
    rw [if_pos src_ok, h1]
    cases c : p x with
    | true =>
      obtain ⟨s3, h5, h6⟩ := h3 c
      simp only [h2, c, h5, h6]
      rw [if_pos (by simp at hl; omega), ih (acc ++ [g x]) (by simp at hl ⊢; omega) fun y hy => h y (by simp [hy]), List.filter_cons_of_pos c]
      simp
    | false =>
      simp only [h2, c, h4 c]
      rw [ih acc (by simp at hl ⊢; omega) fun y hy => h y (by simp [hy]), List.filter_cons_of_neg (by simp [c])]
theorem lcL_step {l : List SV} {vs : List Nat} {f : SV → M Unit} {tt : M Bool} {me : M RV} {st s1 s2 s3 : S} {x y : SV} {xs acc : List SV} (h1 : f x st = .ok () s1) (h2 : tt s1 = .ok true s2) (h3 : me s2 = .ok (.sv y) s3) (hl : acc.length < 100000) :
    lcL (Src.mk l none).Ok vs f tt me (x :: xs) acc st = lcL (Src.mk l none).Ok vs f tt me xs (acc ++ [y]) (wipeS vs s3) := by
  conv => lhs; unfold lcL
  rw [if_pos src_ok, h1]
  simp only [h2, h3]
  rw [if_pos hl]
theorem ixN_nat {n k : Nat} (h : k < n) : ixN n (k : Int) = some k := by
  unfold ixN
  simp
  omega
theorem atI_nat {α : Type} {xs : List α} {k : Nat} (h : k < xs.length) : atI xs (k : Int) = some xs[k] := by
  unfold atI
  rw [ixN_nat h]
  simp [h]
theorem downL0 (i : Int) : downL i 0 = [] := rfl
theorem downL_cons (i : Int) (n : Nat) : downL i (n + 1) = .dat (.int i) :: downL (i - 1) n := by
  unfold downL
  rw [List.range_succ_eq_map, List.map_cons, List.map_map]
  congr 1
  · simp
  · apply List.map_congr_left
    intro k _
    simp
    omega
section
variable {s : S}
@[simp] theorem e_ixR (k : Nat) (i : Int) : ixM (.sv (.ref k)) (RI i) s = match s.mem[k]? with
  | some (some xs) => match atI xs i with
    | some y => .ok (.sv y) s
    | none => .bad
  | _ => .bad := by
  show (match seqL s (.sv (.ref k)) with | some xs => (match atI xs i with | some y => Out.ok (RV.sv y) s | none => .bad) | none => .bad) = _
  rw [e_seqLR]
  cases s.mem[k]? with
  | none => rfl
  | some o => cases o <;> rfl
@[simp] theorem e_resPR (k : Nat) : resP (.ok (.rt (.sv (.ref k))) s) = match s.mem[k]? with
  | some (some xs) => match datL xs with
    | some ds => .ret (.new ds)
    | none => .bad
  | _ => .bad := by
  show (match resV s (.sv (.ref k)) with | some x => Res.ret x | none => .bad) = _
  unfold resV
  cases h : s.mem[k]? with
  | none => simp [h]
  | some o => cases o with
    | none => simp [h]
    | some xs =>
      simp only [h]
      unfold datsR
      cases datL xs <;> rfl
@[simp] theorem e_tupleR (k : Nat) : tupleM [.sv (.ref k)] s = match s.mem[k]? with
  | some (some xs) => match datL xs with
    | some ds => .ok (RT ds) s
    | none => .bad
  | _ => .bad := by
  show (match seqL s (.sv (.ref k)) with | some xs => (match datL xs with | some ds => Out.ok (RT ds) s | none => .bad) | none => .bad) = _
  rw [e_seqLR]
  cases s.mem[k]? with
  | none => rfl
  | some o => cases o <;> rfl
@[simp] theorem e_listN (xs : List SV) : listM [.new xs] s = .ok (.new xs) s := rfl
@[simp] theorem e_min2 (i j : Int) : min2M [RI i, RI j] s = .ok (RI (if j < i then j else i)) s := rfl
end
theorem forL_step {l : List SV} {f : SV → M Unit} {b : M Fl} {x : SV} {xs : List SV} {s s1 s2 : S} (h1 : f x s = .ok () s1) (h2 : b s1 = .ok .nx s2) : forL (Src.mk l none).Ok f b (x :: xs) s = forL (Src.mk l none).Ok f b xs s2 := by
  rw [forL1, h1]
  simp only [h2]
theorem copy_row {l : List SV} {env : List (Option SV)} {mem : List (Option (List SV))} {hd : Option Hd} {k : Nat} (ds : List D) (hk : k < env.length) (he : env[k]? = some none) (hb : ds.length ≤ 100000) :
    lcL (Src.mk l none).Ok [k] (setV k) (pur true) (getV k) (ds.map SV.dat) [] ⟨env, mem, hd⟩ = .ok (.new (ds.map SV.dat)) ⟨env, mem, hd⟩ := by
  have q := lcL_map (l := l) (vs := [k]) (f := setV k) (tt := pur true) (me := getV k) (st := ⟨env, mem, hd⟩) id (ds.map SV.dat) [] (by simpa using hb) (fun x hx => by
    refine ⟨⟨env.set k (some x), mem, hd⟩, ⟨env.set k (some x), mem, hd⟩, ⟨env.set k (some x), mem, hd⟩, rfl, rfl, ?_, ?_⟩
    · simp [hk]
    · have : (env.set k (some x)).set k none = env := by
        rw [List.set_set]
        apply List.ext_getElem?
        intro i
        by_cases c : k = i
        · subst c
          rw [List.getElem?_set_self hk, he]
        · rw [List.getElem?_set_ne c]
      simp [wipeS, this])
  rw [q, List.nil_append, List.map_id]
theorem at_cases {α : Type} {xs : List α} {t : Int} (h0 : 0 ≤ t) (h1 : t < xs.length) : ∃ x ∈ xs, atI xs t = some x := by
  obtain ⟨k, rfl⟩ := Int.eq_ofNat_of_zero_le h0
  have : k < xs.length := by omega
  exact ⟨_, List.getElem_mem this, atI_nat this⟩
section
variable {s : S}
@[simp] theorem e_m3 (m : M RV) (ml mh : M (Option Int)) : m3 m ml mh s = bnd m (fun x => bnd ml fun lo => bnd mh fun hi => slM x lo hi) s := rfl
@[simp] theorem e_slT (ds : List D) (lo hi) : slM (RT ds) lo hi s = .ok (RT (cutD ds lo hi)) s := rfl
@[simp] theorem e_slL (ds : List D) (lo hi) : slM (RD (.lst ds)) lo hi s = .ok (.new (cutD (ds.map SV.dat) lo hi)) s := rfl
@[simp] theorem e_slN (xs : List SV) (lo hi) : slM (.new xs) lo hi s = .ok (.new (cutD xs lo hi)) s := rfl
end
theorem cut_to {α : Type} {xs : List α} {k : Nat} (h : k ≤ xs.length) : cutD xs none (some (k : Int)) = xs.take k := by
  unfold cutD
  rw [HT.sIx_none, HT.sIx_nat, List.drop_zero, Nat.sub_zero, Nat.min_eq_left h]
theorem cut_from {α : Type} {xs : List α} {k : Nat} (h : k ≤ xs.length) : cutD xs (some (k : Int)) none = xs.drop k := by
  unfold cutD
  rw [HT.sIx_none, HT.sIx_nat, Nat.min_eq_left h]
  exact List.take_of_length_le (by simp)
theorem cut_last {α : Type} {xs : List α} (h : 1 ≤ xs.length) : cutD xs none (some (-1)) = xs.take (xs.length - 1) := by
  unfold cutD
  rw [HT.sIx_none]
  have : HT.sIx xs.length xs.length (some (-1)) = xs.length - 1 := by
    show (if (-1 : Int) < 0 then ((-1 : Int) + (xs.length : Int)).toNat else min (-1 : Int).toNat xs.length) = _
    rw [if_pos (by decide)]
    omega
  rw [this, List.drop_zero, Nat.sub_zero]
/-- a call with an own list, locked for it -/
theorem lock_call {i k : Nat} {F : List D → Res} {es : List D} {d : D} {s : S} (h : s.env[i]? = some (some (.ref k))) (h2 : s.mem[k]? = some (some (es.map SV.dat))) (h3 : F [.lst es] = .ret (.dat d)) (h5 : d.noL = true) (h6 : calmMem k s.mem) (h7 : ∀ z, (∀ h, z ≠ Hd.hand h) → s.hd ≠ some z) :
    lockM i (bnd (consA (getV i) (pur [])) (callM 1 F [])) s = .ok (RD d) s := by
  refine lockM_ref h h2 (datL_map es) ?_ h5 h6 h7
  have e : (frzS k es s).env[i]? = some (some (.dat (.lst es))) := by
    show (s.env.map (substR k es))[i]? = _
    rw [List.getElem?_map, h]
    show some (substR k es (some (.ref k))) = _
    unfold substR
    simp
  simp [e, h3]
/-- one own list, all earlier ones let go -/
theorem calm_one {N : List (Option (List SV))} {l : List SV} (h : ∀ o ∈ N, o = none) : calmMem N.length (N ++ [some l]) := fun j ys ne e y hy => by
  by_cases c : j < N.length
  · rw [List.getElem?_append_left c] at e
    have := h _ (List.mem_of_getElem? e)
    cases this
  · rw [List.getElem?_eq_none (by simp; omega)] at e
    cases e
end Fd
set_option Elab.async false
set_option linter.all false
set_option maxRecDepth 100000
set_option maxHeartbeats 4000000
namespace Fd
open PySem PySem.Spec PyProof.Rows L2
/-! ## errors without fields -/
section
variable {X : Cx}
theorem bare_end {pins : List (Addr × Obj)} {σ : L2.St} {H H' : Hp} {Q : XK} {hp hq h' : Heap} {g g' : Array GenState} {dr dr' : Drawn} {t t' : Nat} {os os' : OsState} {a C : Addr} (T : Raises X (.ref C)) (I : Inv X pins σ H ⟨hp, g, dr, t, os⟩)
    (ha : hp.objs.size ≤ a) (k : ∀ b o, hp.get? b = some o → hq.get? b = some o) (u : Un (frs X.stack) [] (upd H a (exo a C none)) H' hq h') (ok : HOk X.prog X.w H' h') (eo : os' = os) (hb : AllBare g')
    (ea : H' a = some (exo a C none)) (q : Q (.ref C) none (del H' a)) : MkP X pins σ Q (.ref a) ⟨h', g', dr', t', os'⟩ := by
  obtain ⟨t0, ho⟩ := exo_at ok ea
  have fr : H a = none := I.hok.fresh ha
  obtain ⟨G, r1, r2⟩ := restrict h' fun b => decide (b ≠ a)
  have same : ∀ {b}, b ≠ a → G.get? b = h'.get? b := fun n => r1 _ (decide_eq_true n)
  have gone : G.get? a = none := r2 a (by simp)
  have old : ∀ {b : Addr} {o : Obj}, hp.get? b = some o → b ≠ a := fun e => Nat.ne_of_lt (Nat.lt_of_lt_of_le (Heap.lt_size e) ha)
  have free : ∀ {b : Addr}, b ≠ a → H b = none → upd H a (exo a C none) b = none := fun n e => (upd_ne n).trans e
  have un : Un (frs X.stack) [] H (del H' a) hp G := by
    refine ⟨fun b o e n f x => ?_, fun b o e n f x => ?_, fun b o e n x => ?_, fun b o e x => ?_, fun b xs e => ?_, fun b o v e => ?_, fun b ps e => ?_⟩
    · exact (same (old e)).trans (u.keep b o (k b o e) (free (old e) n) f x)
    · obtain ⟨sl, w⟩ := u.slot b o (k b o e) (free (old e) n) f x
      exact ⟨sl, (same (old e)).trans w⟩
    · exact (del_ne (old e)).trans (u.free b o (k b o e) (free (old e) n) x)
    · obtain ⟨o', w⟩ := u.there b o (k b o e) x
      exact ⟨o', (same (old e)).trans w⟩
    · exact (del_ne (ne_of_none e fr)).trans (u.tups b xs ((upd_ne (ne_of_none e fr)).trans e))
    · exact (del_ne (ne_of_none e fr)).trans (u.frzs b o v ((upd_ne (ne_of_none e fr)).trans e))
    · obtain ⟨more, w⟩ := u.tbls b ps ((upd_ne (ne_of_none e fr)).trans e)
      exact ⟨more, (del_ne (ne_of_none e fr)).trans w⟩
  have hok : HOk X.prog X.w (del H' a) G := fun b o e => by
    have nb : b ≠ a := fun z => by rw [z, del_same] at e; cases e
    rw [del_ne nb] at e
    have no : ∀ {c : Addr}, H' c = some (.own b) → c ≠ a := fun hc => at_ne ea hc exo_own
    refine (ok b o e).stay (fun c v hc y => ?_) (fun c hc => (del_ne (no hc)).trans hc) (fun c xs hc => (del_ne (at_ne ea hc exo_tup)).trans hc)
    have nc : c ≠ a := hc.elim (fun z => by rw [z]; exact nb) no
    exact (same nc).trans y
  have J : Inv X pins σ (del H' a) ⟨G, g', dr', t', os'⟩ := I.call' (ch := []) eo un hok hb fun b z => absurd z (by simp)
  refine ⟨a, _, _, ⟨G, g', dr', t', os'⟩, _, .ref C, none, rfl, J, fun b o e => ?_, gone, ho, ⟨rfl, rfl⟩, rfl, rfl, del_same, rfl, hb, T, q⟩
  have nb : b ≠ a := fun z => by rw [z, gone] at e; cases e
  exact (same nb).symm.trans e
def spX0 (K : PySem.W.Frag) (C : Addr) : Sp := fun vs H Q _ => ∃ a, vs = [.ref a] ∧ OexC K C ∧ H a = some (exo a C none) ∧ Q .non H
section
variable {X : Cx} {ct : Nat → Addr} {W : WX} {pos pos2 p : Pos} {x : Str} {C fI : Addr} {k : Nat} {fd : FuncData} {ps : List Str}
theorem pmk_bare {CX : CXT} {sp : Sp} (T : OexC X.K C) (iC : PySem.W.findIn X.K (.ref C) "__init__" = some (some (.ref fI))) (tI : PySem.W.typeIn X.K (.ref fI) = some (.type "function"))
    (F1 : FnOk X.prog X.w X.K X.mg X.base CX k fI fd ps sp) (hr : Room (k + 1) X.A) (hb : Binds X.K fd ps []) (hx : Passes CX X (fun _ _ _ => False)) (hg : Gl X x) (hm : X.mg x = some (.ref C)) (hdb : (x == ("__debug__" : Str)) = false := by decide) :
    PMk X (.Call (.Name x p) [] [] pos) (fun _ H Q => ∀ a, H a = none → sp [.ref a] (upd H a (exo a C none)) (fun v H2 => v = .non ∧ H2 a = some (exo a C none) ∧ Q (.ref C) none (del H2 a)) fun _ _ _ => False) := by
  intro pins ⟨hp, g, dr, tk, os⟩ σ H Q I h
  obtain ⟨_, _, _, _, bm, _, _, _, _, _, _, _, _, _, _, hC, hbm⟩ := T.cls
  refine wpAny_Call_Name_kw (ld_glob I hg hm ?_ hdb)
  refine PySem.W.callWith_K0 I.kIn T.kC ?_
  obtain ⟨a, ha⟩ : ∃ a : Addr, hp.objs.size + 1 = a := ⟨_, rfl⟩
  obtain ⟨G, hG⟩ : ∃ G : Heap, (hp.push (PySem.W.kdv_tup [])).push (PySem.HandSPX.excO C hp.objs.size) = G := ⟨_, rfl⟩
  have le : hp.objs.size ≤ a := by rw [← ha]; exact Nat.le_succ _
  have q := h a (I.hok.fresh le)
  have keep : ∀ b o, hp.get? b = some o → G.get? b = some o := fun b o e => by
    rw [← hG]
    exact Heap.get?_push_of_some _ (Heap.get?_push_of_some _ e)
  have at_a : G.get? a = some (PySem.HandSPX.excO C hp.objs.size) := by
    rw [← hG, ← ha]
    heap_get
  have J : Inv X pins σ (upd H a (exo a C none)) ⟨G, g, dr, tk, os⟩ := I.laid (t' := tk) (a := a) (o := exo a C none) (h' := G) keep le (exo_ok at_a)
  have one : Vals [V.ref a] [Value.ref a] := .cons rfl .nil
  have ln : ([Value.ref a] : List Value).length = ps.length := by rw [← F1.len _ _ _ _ q]; rfl
  subst ha
  subst hG
  refine wpAny_call (PySem.HandSPX.call_own F.excBase_ValueError (fun Y => PySem.HandSPX.refsVE_contains Y bm hbm) (I.kIn _ _ hC) (PySem.W.looks_findIn I.kIn iC) (fun self => PySem.W.bind_fn I.kIn self tI) (Nat.zero_le _)
    (codeAny_mono (F1.run _ X.stack _ _ ⟨[Value.ref (hp.objs.size + 1)], []⟩ [Value.ref (hp.objs.size + 1)] _ _ (fun _ _ _ => False) (hr.make C [] []) (J.env0.make C [] []) (by simpa using hb _ [Value.ref (hp.objs.size + 1)] J.kIn (by simpa using ln)) one q) fun r s' z => ?_))
  cases r with
  | error er => exact hx pins σ _ _ er s' J z
  | ok fl => cases fl with
    | ret u =>
      obtain ⟨v, H2, eo, bare, un, ok, rv, ev, ea, z⟩ := z
      subst ev
      exact ⟨rv, bare_end (raises_own T.exC T.tyC) I le keep un ok eo bare ea z⟩
    | next => exact False.elim z
    | brk => exact False.elim z
    | cont => exact False.elim z
def raise0F (c : Nat) : M Fl := fun s => .exc ⟨c, []⟩ s
theorem sd_raise0 {c : Nat} (hc : X.calm = true) (tk : Takes X W) (T : OexC X.K C) (hct : ct c = C) (iC : PySem.W.findIn X.K (.ref C) "__init__" = some (some (.ref fI))) (tI : PySem.W.typeIn X.K (.ref fI) = some (.type "function"))
    (F1 : FnOk X.prog X.w X.K X.mg X.base (L2.CX X.prog X.w) k fI fd ps (spX0 X.K C)) (hr : Room (k + 1) X.A) (hb : Binds X.K fd ps []) (hg : Gl X x) (hm : X.mg x = some (.ref C)) (hdb : (x == ("__debug__" : Str)) = false := by decide) :
    SD X ct W (.Raise (some (.Call (.Name x p) [] [] pos)) none pos2) (raise0F c) := by
  refine ⟨_, ps_raise hc tk (pmk_bare T iC tI F1 hr hb passL hg hm hdb), fun N σ H γ s R g => ?_⟩
  intro a na
  refine ⟨a, rfl, T, upd_same, rfl, upd_same, ?_⟩
  have sm : Same H (del (upd H a (exo a C none)) a) := fun b u eb => by
    have nb := ne_of_none eb na
    rw [del_ne nb, upd_ne nb]
    exact eb
  exact g _ _ σ γ _ (step_same sm) (R.kept sm) ⟨by rw [hct], .inl ⟨rfl, rfl⟩⟩
end
section
open PySem.W
variable {P : Program} {w : World} {K : PySem.W.Frag} {mg : Str → Option Value} {base : Heap} {ps : List Str} {name qual : Str} {params : Arguments} {scope : Scope} {dV kV doc pm ct oc ccl cl : Value} {an od cdd cld : Option Addr} {cc cda f C : Addr} {osl ccs csl : Array (Option Value)}
  {p0 p1 p2 p3 p4 : Pos} {e : Expr} {es : List Expr} {cvs : Array Value} {file : Str} {tf : Tok} {cdD : ClassData} {ar : Arg}
open FdX in
theorem fn_err0 (lk : K.lookup f = some ⟨oc, od, .func (fnS name qual params (bodyS p0 p1 p2 p3 p4 e es []) scope dV kV doc pm an (.ref cda) ct cc), osl⟩) (hcd : codeIn K (.ref cda) qual = true) (S : ScopeS ps scope)
    (har : (params.posonlyargs ++ params.args).head? = some ar) (hps : ps[0]? = some ar.arg) (T : OexC K C) (hcode : K.lookup cda = some ⟨ccl, cdd, .fields cvs, ccs⟩) (hvs : cvs[2]? = some (.str file tf)) (hfile : ((P.main.file : Str) == file) = true)
    (hcell : K.lookup cc = some ⟨cl, cld, .cell (some (.ref C)), csl⟩) (hD : clsIn K C = some cdD) (hsub : mroIn K C (.ref C) = some true) (hsuper : mg "super" = none) (htop : (P.main.scope.names.lookup ("super" : Str)).isSome = false) (hboot : bootBuiltins "super" = some (.type "super"))
    (hop : nsIn K cStatics "thirdparty.any" = some none) (hsu : ks_superIn K C C "__init__" = some (some (.builtin "ValueError.__init__"))) (hB : subIn K (.ref C) (.type "ValueError") = some true) (hpl : ps.length = 1) (hes : (e :: es).length ≤ 1000)
    (ha : ∀ (A : Around) (outer : List Env) (s : Shared) (H : Hp) (E : XK), PaK (cxS (L2.CX P w) P w K mg base ps (fnS name qual params (bodyS p0 p1 p2 p3 p4 e es []) scope dV kV doc pm an (.ref cda) ct cc) f A outer s H E) ps.length (e :: es))
    (hm1 : eval (.Call (.Attribute (.Call (.Name "super" p0) [] [] p1) "__init__" p2) (e :: es) [] p3) = fun env => (do
      let ov ← attributeBase (.Call (.Name "super" p0) [] [] p1) "__init__" env (eval (.Call (.Name "super" p0) [] [] p1) env)
      standAt p2.atName
      let (f, first) ← holding [ov] (getMethod ov "__init__" (pure false))
      callWith p3 f first (backTo p3 (starEach (e :: es) env)) []) := by rfl)
    (he : ∀ env, starEach (e :: es) env = (false, eval e env) :: starEach es env := by intro _; rfl) (hp3 : ∀ env, (backTo p3 (starEach es env)).any (·.1) = false := by intro _; rfl) :
    FnOk P w K mg base (L2.CX P w) 1 f (fnS name qual params (bodyS p0 p1 p2 p3 p4 e es []) scope dV kV doc pm an (.ref cda) ct cc) ps (spX0 K C) := by
  refine FdX.fn_sup (k := 0) lk hcd S har hps T hcode hvs hfile hcell hD hsub hsuper htop hboot hop hsu hB (fun vs H Q E h => ?_) (fun A outer s H vs Q E hr h => ?_) hm1 he hp3
  · obtain ⟨a, rfl, _⟩ := h
    exact hpl.symm
  · obtain ⟨a, rfl, T', h2, q⟩ := h
    obtain ⟨ta, pa, ra⟩ := pak_run (ha A outer s H E)
    exact ⟨a, [], ta, _, rfl, h2, pa, ra _ H _ (by simp [hpl]) fun zs hz => ⟨rfl, by omega⟩, pss_nil, q⟩
end
structure ErrX0 (P : Program) (w : World) (K : PySem.W.Frag) (mg : Str → Option Value) (base : Heap) (ct : Nat → Addr) (x : Str) (c : Nat) : Prop where
  ex : ∃ (fI : Addr) (fd : FuncData) (ps : List Str), OexC K (ct c) ∧ PySem.W.findIn K (.ref (ct c)) "__init__" = some (some (.ref fI)) ∧ PySem.W.typeIn K (.ref fI) = some (.type "function") ∧ FnOk P w K mg base (L2.CX P w) 1 fI fd ps (spX0 K (ct c)) ∧ L2.Binds K fd ps [] ∧ mg x = some (.ref (ct c))
section
variable {X : Cx} {ct : Nat → Addr} {W : WX} {pos pos2 p : Pos} {x : Str}
theorem sd_raiseE0 {c : Nat} (O : ErrX0 X.prog X.w X.K X.mg X.base ct x c) (hc : X.calm = true) (tk : Takes X W) (hr : Room 2 X.A) (hg : Gl X x := by rfl) (hdb : (x == ("__debug__" : Str)) = false := by decide) : SD X ct W (.Raise (some (.Call (.Name x p) [] [] pos)) none pos2) (raise0F c) := by
  obtain ⟨fI, fd, ps, T, iC, tI, F1, hb, hm⟩ := O.ex
  exact sd_raise0 hc tk T rfl iC tI F1 hr hb hg hm hdb
/-! ## except X: .. without a name -/
def tryO (mb : M Fl) (es : Nat → Option Bool) (mh : M Fl) : M Fl := fun s => match mb s with
  | .exc x s1 => match es x.c with
    | some true => match mh s1 with
      | .ok f s2 => .ok f s2
      | _ => .bad
    | some false => .exc x s1
    | none => .bad
  | o => o
theorem sd_tryO {c : Nat} {body suite : List Stmt} {b₀ : Stmt} {np pos' : Pos} {mb mh : M Fl} {exs : Nat → Option Bool} (O : ErrH X.K X.mg ct x c exs) (hs : X.stack = X.env :: X.outer) (hfr : X.env.frame = some X.env.locals) (tk : Takes X W)
    (hb : ∀ (W' : WX) (pn : List (Addr × Obj)) (xe : Value → Shared → Prop), Takes (X.tr pn xe) W' → PassesOwn (model X.prog X.w) X.A X.env xe → SDs (X.tr pn xe) ct W' body mb)
    (hh : ∀ a oe pn, SDs (X.suite a ((a, oe) :: pn)) ct WF (b₀ :: suite) mh) (hg : Gl X x := by rfl) (hdb : (x == ("__debug__" : Str)) = false := by decide) :
    SD X ct W (.Try body [.ExceptHandler (some (.Name x np)) none (b₀ :: suite) pos'] [] [] pos) (tryO mb exs mh) := by
  let tb : WX → TS := fun W' N σ H => ∃ γ s, Rep X.K ct γ H σ s ∧ GoodS X.K ct W' γ s H (mb s) N
  let th : Addr → Value → Option Addr → TS := fun _ _ _ N σ H => ∃ γ s, Rep X.K ct γ H σ s ∧ GoodS X.K ct WF γ s H (mh s) N
  have pb : ∀ (W' : WX) (pn : List (Addr × Obj)) (xe : Value → Shared → Prop), Takes (X.tr pn xe) W' → PassesOwn (model X.prog X.w) X.A X.env xe → PSs (X.tr pn xe) body (tb W') := fun W' pn xe t1 t2 => by
    obtain ⟨t, pt, r⟩ := (hb W' pn xe t1 t2).ex
    exact ⟨fun pins s σ H N I ⟨γ, s', R, g⟩ => pt.run pins s σ H N I (r N σ H γ s' R g)⟩
  have ph : ∀ (a : Addr) (oe : Obj) (cls : Value) (d : Option Addr) (pn : List (Addr × Obj)), Zc cls d oe → (∃ vs, oe.data = .fields vs) → PSs (X.suite a ((a, oe) :: pn)) (b₀ :: suite) (th a cls d) := fun a oe cls d pn _ _ => by
    obtain ⟨t, pt, r⟩ := (hh a oe pn).ex
    exact ⟨fun pins s σ H N I ⟨γ, s', R, g⟩ => pt.run pins s σ H N I (r N σ H γ s' R g)⟩
  refine ⟨_, ps_try_only hs hfr ⟨hg, hdb, .inl O.mg⟩ tk pb ph, fun N σ H γ s R h => ⟨γ, s, R, ?_⟩⟩
  unfold GoodS tryO at h
  unfold GoodS
  cases e1 : mb s with
  | bad => simp only [e1] at h; exact h
  | ok f s1 => simp only [e1] at h; exact h
  | exc y s1 =>
    simp only [e1] at h
    intro cl d σ' γ' H' st R' hx
    cases e2 : exs y.c with
    | none => simp only [e2] at h; exact False.elim h
    | some bb =>
      simp only [e2] at h
      refine ⟨bb, by rw [hx.1]; exact O.exm _ _ e2, fun e3 a na => ?_, fun e3 => ?_⟩
      · subst e3
        dsimp only at h
        refine ⟨γ', s1, R', GoodS.step st ?_⟩
        cases e4 : mh s1 with
        | bad => simp only [e4] at h; exact h
        | exc z s2 => simp only [e4] at h; exact False.elim h
        | ok f s2 => simp only [e4] at h; exact h
      · subst e3
        exact h cl d σ' γ' H' st R' hx
/-- return ('w', n.f) in an except clause -/
def fieldSH (w f : Str) (x : Exn) : M Fl := match x.fs.lookup f with
  | some d => pur (.rt (RT [.str w, d]))
  | none => stuck
theorem hd_fieldS {c i k2 j : Nat} {w n f : Str} {np p2 p5 p3 pt : Pos} {C : Addr} (hct : ct c = C) (T : XfC X.K C) (hf0 : PySem.W.findIn X.K (.ref C) f = some none) (hp : ∀ a oe pn, PE (X.suite a ((a, oe) :: pn)) (.Name n np) (tVar i))
    (hb : attributeBase (.Name n np) f X.env (eval (.Name n np) X.env) = eval (.Name n np) X.env := by rfl)
    (s1 : starEach [.Constant (.str w) j p5, .Attribute (.Name n np) f p2] X.env = (false, eval (.Constant (.str w) j p5) X.env) :: starEach [.Attribute (.Name n np) f p2] X.env := by rfl)
    (s2 : starEach [.Attribute (.Name n np) f p2] X.env = (false, eval (.Attribute (.Name n np) f p2) X.env) :: starEach [] X.env := by rfl) :
    HD X ct c i [.Return (some (.Tuple [.Constant (.str w) j p5, .Attribute (.Name n np) f p2] k2 pt)) p3] (fieldSH w f) := by
  refine ⟨fun a oe cls d pn hz hf => ⟨_, pss_one (ps_ret (pe_tup (pa_cons pe_str (pa_cons (pe_xf T hf0 hz hf (hp a oe pn) hb) pa_nil s2) s1))), fun N σ H γ s x R hσ hx hxc q => ?_⟩⟩
  unfold fieldSH at q
  cases e : x.fs.lookup f with
  | none => simp only [e] at q; exact False.elim q
  | some df =>
    simp only [e] at q
    obtain ⟨e1, e2⟩ := hx
    rcases e2 with ⟨e3, _⟩ | ⟨dx, fs, e3, e4, e5, e6⟩
    · rw [e3] at e; cases e
    · obtain ⟨v, lv, rv⟩ := lookup_rep e5 e6 e
      refine ⟨_, hσ, rfl, by rw [e1, hxc, hct], dx, fs, v, e3, e4, lv, by show 2 ≤ sizeLine; decide, fun p hp => ?_⟩
      exact q (.ref p) σ γ _ (Step.laid hp) (R.laid hp) (RepD.tup (SqT.of upd_same) (.cons (RepD.str _) (.cons (RepD.mono (keepI_new hp) rv) .nil)))
end
end
end Fd
set_option Elab.async false
set_option linter.all false
set_option maxRecDepth 100000
set_option maxHeartbeats 4000000
namespace Fd
open PySem PySem.Spec PyProof.Rows L2
/-! ## zip of two rows, each a list or a tuple -/
def sqK (K : PySem.W.Frag) (l : Bool) (H : Hp) (a : Addr) (xs : List V) : Prop := match l with
  | true => SqL K H a xs
  | false => SqT K H a xs
def itK (l : Bool) (h : Heap) (it a : Addr) (i : Nat) : Prop := match l with
  | true => h.IsListIter it a i
  | false => h.IsTupleIter it a i
def isK (l : Bool) (h : Heap) (a : Addr) (vs : Array Value) : Prop := match l with
  | true => h.IsList a vs
  | false => h.IsTuple a vs
def obK (l : Bool) (a : Addr) : Obj := match l with
  | true => { cls := .type "list_iterator", data := .fields #[.ref a, .int 0 0] }
  | false => { cls := .type "tuple_iterator", data := .fields #[.ref a, .int 0 0] }
theorem itK_at {l : Bool} {h h' : Heap} {it a : Addr} {i : Nat} (x : itK l h it a i) (e : ∀ o, h.get? it = some o → h'.get? it = some o) : itK l h' it a i := by
  cases l
  · exact Heap.IsTupleIter.at x e
  · exact Heap.IsListIter.at x e
theorem itK_ob {l : Bool} {h : Heap} {it a : Addr} {i : Nat} (x : itK l h it a i) : ∃ o, h.get? it = some o ∧ ∀ v, o.data ≠ .cell v := by
  cases l <;> (obtain ⟨o, e, _, d⟩ := x; exact ⟨o, e, fun v q => by rw [d] at q; cases q⟩)
theorem itK_0 {l : Bool} {h : Heap} {it a : Addr} (e : h.get? it = some (obK l a)) : itK l h it a 0 := by
  cases l <;> exact ⟨_, e, rfl, rfl⟩
theorem begK (l : Bool) (a : Addr) (vs : Array Value) : Begins (.ref a) (obK l a) (fun h => isK l h a vs) := by
  cases l
  · exact begins_tuple a vs
  · exact begins_list a vs
theorem drawK {prog : Program} {w : World} {A : Around} (hh : A.handled = none) (l : Bool) (it a : Addr) (ne : a ≠ it) (vs : Array Value) : Draws prog w A it [it, a] vs.size (fun i v => vs[i]? = some v) (fun i h => itK l h it a i ∧ isK l h a vs) := by
  cases l
  · exact Draws.tuple hh it a ne vs
  · exact Draws.list hh it a ne vs
section
variable {X : Cx} {pins : List (Addr × Obj)} {σ : L2.St} {H : Hp} {s : Shared}
theorem seqK (I : Inv X pins σ H s) {l : Bool} {a : Addr} {xs : List V} (q : sqK X.K l H a xs) : ∃ vs : List Value, Vals xs vs ∧ isK l s.heap a vs.toArray ∧ ∀ ys, sqK X.K l H a ys → ys = xs := by
  cases l
  · obtain ⟨vs, r, p, _⟩ := I.tuple q
    exact ⟨vs, r, p, fun ys h => I.tuple_inj h q⟩
  · obtain ⟨vs, r, p, _⟩ := I.list q
    exact ⟨vs, r, p.isList, fun ys h => I.list_inj h q⟩
theorem isK_lt {l : Bool} {h : Heap} {a : Addr} {vs : Array Value} (x : isK l h a vs) : a < h.objs.size := by
  cases l <;> (obtain ⟨_, e, _⟩ := x; exact Heap.lt_size e)
end
def Itzk (K : PySem.W.Frag) (l m : Bool) (a b : Addr) : It :=
  ⟨fun i H => ∃ xs ys x y, sqK K l H a xs ∧ sqK K m H b ys ∧ xs[i]? = some x ∧ ys[i]? = some y,
   fun i H v H' => ∃ T x y, v = .ref T ∧ H T = none ∧ H' = upd H T (.tup [x, y]) ∧ (∀ xs, sqK K l H a xs → xs[i]? = some x) ∧ ∀ ys, sqK K m H b ys → ys[i]? = some y,
   fun i H => ∃ xs ys, sqK K l H a xs ∧ sqK K m H b ys ∧ min xs.length ys.length = i⟩
structure Apart (z TI TO i1 i2 a b : Addr) : Prop where
  sep : ZipSep2 z TI TO i1 i2 [i1, a] [i2, b]
  n1 : a ≠ i1
  n2 : b ≠ i2
theorem turn_zk {P : Program} {w : World} {K : PySem.W.Frag} {elts : List Expr} {kk : Nat} {tpos : Pos} (l m : Bool) {a b z TI TO i1 i2 : Addr} (D : Apart z TI TO i1 i2 a b) :
    Turn P w K (.Tuple elts kk tpos) (Itzk K l m a b) [z, TI, TO, i1, i2] z (fun i h => IsZip h z TI TO .none ∧ IsTupOf2 h TI (.ref i1) (.ref i2) ∧ (∃ x y, IsTupOf2 h TO x y) ∧ itK l h i1 a i ∧ itK m h i2 b i) where
  mem := by simp
  obj := fun i h st c hc => by
    obtain ⟨ez, eI, ⟨x, y, eO⟩, e1, e2⟩ := st
    simp only [List.mem_cons, List.not_mem_nil, or_false] at hc
    rcases hc with rfl | rfl | rfl | rfl | rfl
    · exact ⟨_, ez, fun v q => nomatch q⟩
    · exact ⟨_, eI, fun v q => nomatch q⟩
    · exact ⟨_, eO, fun v q => nomatch q⟩
    · exact itK_ob e1
    · exact itK_ob e2
  keep := fun i h h' st k => let ⟨ez, eI, ⟨x, y, eO⟩, e1, e2⟩ := st
    ⟨k z (by simp) _ ez, k TI (by simp) _ eI, ⟨x, y, k TO (by simp) _ eO⟩, itK_at e1 (k i1 (by simp)), itK_at e2 (k i2 (by simp))⟩
  item := by
    intro X hP hw hK hc i pins s σ H Ex I hf st hg
    subst hP hw hK
    obtain ⟨ez, eI, eO, e1, e2⟩ := st
    obtain ⟨xs, ys, x, y, qx, qy, hx, hy⟩ := hg
    obtain ⟨us, r1, p1, j1⟩ := seqK I qx
    obtain ⟨ws, r2, p2, j2⟩ := seqK I qy
    obtain ⟨u, hu, ru⟩ := r1.get hx
    obtain ⟨v, hv, rv⟩ := r2.get hy
    have hh := I.ok.hd hc
    have W := WalksT.zipD2 D.sep (drawK (prog := X.prog) (w := X.w) (A := X.A.in1) hh l i1 a D.n1 us.toArray) (drawK (prog := X.prog) (w := X.w) (A := X.A.in1) hh m i2 b D.n2 ws.toArray)
    have lt1 : i < us.toArray.size := by
      have := (List.getElem?_eq_some_iff.mp hu).1
      simpa using this
    have lt2 : i < ws.toArray.size := by
      have := (List.getElem?_eq_some_iff.mp hv).1
      simpa using this
    refine W.item i s _ Ex (Nat.lt_min.mpr ⟨lt1, lt2⟩) ⟨ez, eI, eO, ⟨e1, p1⟩, e2, p2⟩ fun T vals h' tk pt hn hT mid kp => ?_
    obtain ⟨u', v', hu', hv', rfl⟩ := pt
    rw [List.getElem?_toArray, hu] at hu'
    rw [List.getElem?_toArray, hv] at hv'
    cases hu'
    cases hv'
    refine ⟨_, rfl, W.go elts kk tpos i T { s with heap := h', toks := tk } _ _ mid fun h2 st2 kp2 => ?_⟩
    have nT := W.apart i T h' mid
    have hT2 : h2.IsTuple T #[u, v] := hT.at fun o e => kp2 T o nT e
    have kk2 : ∀ c o, c ∉ [z, TI, TO, i1, i2] → s.heap.get? c = some o → h2.get? c = some o := fun c o nc e => by
      have nw : c ∉ [z, TO, i1, i2] := fun z => nc (by simp at z ⊢; rcases z with z | z | z | z <;> simp [z])
      exact kp2 c o nw (kp c o nw e)
    have new : ObjOk X.prog X.w (upd H T (.tup [x, y])) h2 T (.tup [x, y]) := ⟨by show 2 ≤ sizeLine; decide, [u, v], .cons ru (.cons rv .nil), hT2⟩
    have J : Inv X pins σ (upd H T (.tup [x, y])) { s with heap := h2, toks := tk } := I.turnedNew (t' := tk) (ch := [z, TI, TO, i1, i2]) kk2 hf hn new
    obtain ⟨ez', eI', eO', ⟨e1', _⟩, e2', _⟩ := st2
    refine ⟨.ref T, _, J, rfl, ⟨T, x, y, rfl, I.hok.fresh hn, rfl, fun zs hz => by rw [j1 zs hz]; exact hx, fun zs hz => by rw [j2 zs hz]; exact hy⟩, ⟨ez', eI', eO', e1', e2'⟩, fun c hc2 => ?_⟩
    have nc : c ≠ T := fun z => by
      have lt : ∀ {b : Addr} {o : Obj}, s.heap.get? b = some o → b ≠ T := fun e => Nat.ne_of_lt (Nat.lt_of_lt_of_le (Heap.lt_size e) hn)
      simp only [List.mem_cons, List.not_mem_nil, or_false] at hc2
      rcases hc2 with q | q | q | q | q
      · exact lt ez (q ▸ z)
      · exact lt eI (q ▸ z)
      · obtain ⟨_, _, eO⟩ := eO
        exact lt eO (q ▸ z)
      · obtain ⟨_, e, _⟩ := itK_ob e1
        exact lt e (q ▸ z)
      · obtain ⟨_, e, _⟩ := itK_ob e2
        exact lt e (q ▸ z)
    rw [upd_ne nc]
    exact (hf c hc2).1
  done := by
    intro X hP hw hK hc i pins s σ H Ex I hf st hg
    subst hP hw hK
    obtain ⟨ez, eI, eO, e1, e2⟩ := st
    obtain ⟨xs, ys, qx, qy, hi⟩ := hg
    obtain ⟨us, r1, p1, j1⟩ := seqK I qx
    obtain ⟨ws, r2, p2, j2⟩ := seqK I qy
    have hh := I.ok.hd hc
    have W := WalksT.zipD2 D.sep (drawK (prog := X.prog) (w := X.w) (A := X.A.in1) hh l i1 a D.n1 us.toArray) (drawK (prog := X.prog) (w := X.w) (A := X.A.in1) hh m i2 b D.n2 ws.toArray)
    have l1 := r1.length
    have l2 := r2.length
    have en : min us.toArray.size ws.toArray.size = i := by rw [List.size_toArray, List.size_toArray, ← l1, ← l2]; exact hi
    refine W.done s _ Ex (by rw [en]; exact ⟨ez, eI, eO, ⟨e1, p1⟩, e2, p2⟩) fun h' tk kp => ⟨rfl, I.turnedL (t' := tk) (ch := [z, TI, TO, i1, i2]) (fun c o nc e => ?_) hf⟩
    exact kp c o (fun z => nc (by simp at z ⊢; rcases z with z | z | z | z <;> simp [z])) e
  self := fun A i s Q Ex st h => wpAny_pyIter_zip st.1 h
def iZk (K : PySem.W.Frag) (ta : TA) : TI := fun σ H R => ta σ H fun vs Ha => ∃ a b l m xs ys, vs = [.ref a, .ref b] ∧ sqK K l Ha a xs ∧ sqK K m Ha b ys ∧ R (Itzk K l m a b) Ha
theorem not2 {c x y : Nat} (h1 : c ≠ x) (h2 : c ≠ y) : ¬ (show Addr from c) ∈ ([x, y] : List Addr) := fun z => by
  rcases List.mem_cons.mp z with z | z
  · exact h1 z
  · exact h2 (List.mem_singleton.mp z)
theorem apart_new {n a b : Nat} (ha : a < n) (hb : b < n) : Apart (n + 4 : Nat) (n + 2 : Nat) (n + 3 : Nat) n (n + 1 : Nat) a b := by
  have e : ∀ i j : Nat, i ≠ j → (n + i : Nat) ≠ n + j := fun i j q z => q (by omega)
  exact ⟨⟨e 2 4 (by decide), e 3 4 (by decide), e 2 3 (by decide), e 2 0 (by decide), List.mem_cons_self, not2 (e 4 0 (by decide)) (by omega), not2 (e 3 0 (by decide)) (by omega), e 2 1 (by decide), List.mem_cons_self,
    not2 (e 4 1 (by decide)) (by omega), not2 (e 3 1 (by decide)) (by omega), not2 (e 0 1 (by decide)) (by omega), not2 (e 1 0 (by decide)) (by omega)⟩, Nat.ne_of_lt ha, Nat.ne_of_lt (Nat.lt_succ_of_lt hb)⟩
theorem pi_zk {X : Cx} {e1 e2 : Expr} {ta : TA} {p pos tpos : Pos} {elts : List Expr} {kk : Nat} (hg : Gl X "zip") (hm : X.mg "zip" = none) (ha : PA X [e1, e2] ta) (hs : starEach [e1, e2] X.env = (false, eval e1 X.env) :: starEach [e2] X.env := by rfl) (hpl : (backTo pos (starEach [e2] X.env)).any (·.1) = false := by rfl) :
    PI X (.Tuple elts kk tpos) (.Call (.Name "zip" p) [e1, e2] [] pos) (iZk X.K ta) := by
  refine ⟨fun pins s σ H R I h => Call_ (ld_blt I hg hm PyProof.Rows.boot_zip (PyProof.Rows.callWith_type1 (thn (ha.run pos pins s σ H _ I h) fun us sa ⟨vs, Ha, Ia, rs, a, b, l, m, xs, ys, ev, qx, qy, q⟩ => ?_) hs hpl))⟩
  subst ev
  cases rs with
  | cons ra rs => cases rs with
    | cons rb rs =>
      cases rs
      cases ra
      cases rb
      obtain ⟨vx, _, p1, _⟩ := seqK Ia qx
      obtain ⟨vy, _, p2, _⟩ := seqK Ia qy
      refine zip_begins2 (begK l a vx.toArray) (begK m b vy.toArray) p1 p2 fun h' ez eI eO o1 o2 sz kp => wpAny_pyIter_zip ez ?_
      refine ⟨sa.heap.objs.size + 4, [sa.heap.objs.size + 4, sa.heap.objs.size + 2, sa.heap.objs.size + 3, sa.heap.objs.size, sa.heap.objs.size + 1], _, _, Ha, rfl, Ia.kept (t' := sa.toks) kp, turn_zk l m (apart_new (isK_lt p1) (isK_lt p2)), ⟨ez, eI, ⟨_, _, eO⟩, itK_0 o1, itK_0 o2⟩, fun c hc => ?_, q⟩
      have le : sa.heap.objs.size ≤ c := by
        simp only [List.mem_cons, List.not_mem_nil, or_false] at hc
        rcases hc with z | z | z | z | z <;> (rw [z]; first | exact Nat.le_refl _ | exact Nat.le_add_right _ _)
      exact Ia.fpOk le (Ia.hok.fresh le)
theorem walk_zk {K : PySem.W.Frag} {l m : Bool} {a b : Addr} {xs ys : List V} : L2.Walk (Itzk K l m a b) (min xs.length ys.length) (fun H => sqK K l H a xs ∧ sqK K m H b ys) (YPair (fun i => xs[i]?) (fun i => ys[i]?)) := by
  refine ⟨fun i H hi q => ?_, fun H q => ⟨xs, ys, q.1, q.2, rfl⟩, fun i H v H' _ q y => ?_⟩
  · have h1 : i < xs.length := by omega
    have h2 : i < ys.length := by omega
    exact ⟨xs, ys, xs[i], ys[i], q.1, q.2, by simp [h1], by simp [h2]⟩
  · obtain ⟨T, x, z, h1, h2, h3, h4, h5⟩ := y
    exact ⟨T, x, z, h1, h2, h3, h4 xs q.1, h5 ys q.2⟩
/-! ## zip over data -/
def rowD : D → Option (List D)
  | .tup ds => some ds
  | .lst ds => some ds
  | _ => none
def zipF (a b : List D) : List SV := (a.zip b).map fun p => .dat (.tup [p.1, p.2])
def zipM : List RV → M Src
  | [.sv (.dat a), .sv (.dat b)] => match rowD a, rowD b with
    | some xs, some ys => pur ⟨zipF xs ys, none⟩
    | _, _ => stuck
  | _ => stuck
section
variable {X : Cx} {ct : Nat → Addr} {W : WX} {p pos tpos : Pos} {e1 e2 : Expr} {mB : M (List RV)} {elts : List Expr} {kk : Nat}
theorem row_rep {K : PySem.W.Frag} {H : Hp} {v : V} {d : D} {ds : List D} (r : RepD K ct H v d) (e : rowD d = some ds) : ∃ a l vs, v = .ref a ∧ RepDs K ct H vs ds ∧ ∀ {H' : Hp}, KeepI H H' → sqK K l H' a vs := by
  cases d with
  | tup xs =>
    cases e
    cases r with
    | tup h w => exact ⟨_, false, _, rfl, w, fun k => sqT_mono k h⟩
  | lst xs =>
    cases e
    cases r with
    | lst h w => exact ⟨_, true, _, rfl, w, fun k => (h.mono k).sq⟩
  | _ => cases e
theorem walkD_zip {K : PySem.W.Frag} {γ : G} {s : S} {H : Hp} {l m : Bool} {a b : Addr} {vs ws : List V} {xs ys : List D} (h1 : ∀ {H' : Hp}, KeepI H H' → sqK K l H' a vs) (h2 : ∀ {H' : Hp}, KeepI H H' → sqK K m H' b ws) (p1 : RepDs K ct H vs xs) (p2 : RepDs K ct H ws ys) :
    WalkD K ct (Itzk K l m a b) ⟨zipF xs ys, none⟩ γ s H := by
  refine ⟨_, _, by rw [show (Src.mk (zipF xs ys) none).items.length = min vs.length ws.length by show (zipF xs ys).length = _; simp [zipF, p1.length, p2.length]]; exact walk_zk (K := K) (l := l) (m := m) (a := a) (b := b) (xs := vs) (ys := ws), fun γ1 s1 H1 σ1 st R1 _ => And.intro (h1 st.imm) (h2 st.imm), ?_⟩
  rintro i γ1 s1 H1 σ1 x H2 y st R1 ok e ⟨T, u, z, rfl, hT, rfl, eu, ez⟩
  have e' : ((xs.zip ys).map fun p => SV.dat (.tup [p.1, p.2]))[i]? = some y := e
  rw [List.getElem?_map] at e'
  cases e3 : (xs.zip ys)[i]? with
  | none => rw [e3] at e'; cases e'
  | some q =>
    rw [e3] at e'
    cases e'
    obtain ⟨q1, q2⟩ := List.getElem?_zip_eq_some.mp e3
    obtain ⟨v1, w1, r1⟩ := (RepDs.mono st.imm p1).get q1
    obtain ⟨v2, w2, r2⟩ := (RepDs.mono st.imm p2).get q2
    have eu' : vs[i]? = some u := eu
    have ez' : ws[i]? = some z := ez
    rw [w1] at eu'
    rw [w2] at ez'
    cases eu'
    cases ez'
    refine ⟨fun c o hc => by rw [upd_ne (ne_of_none hc hT)]; exact hc, ?_⟩
    exact RepD.tup (SqT.of upd_same) (.cons (RepD.mono (keepI_new hT) r1) (.cons (RepD.mono (keepI_new hT) r2) .nil))
theorem id_zip (hg : Gl X "zip") (hm : X.mg "zip" = none) (ha : BD X ct W [e1, e2] mB) (hs : starEach [e1, e2] X.env = (false, eval e1 X.env) :: starEach [e2] X.env := by rfl) (hpl : (backTo pos (starEach [e2] X.env)).any (·.1) = false := by rfl) : ID X ct W (.Tuple elts kk tpos) (.Call (.Name "zip" p) [e1, e2] [] pos) (bnd mB zipM) := by
  obtain ⟨t, pt, r⟩ := ha.ex
  refine ⟨_, pi_zk hg hm pt hs hpl, fun σ H γ s R0 R h => ?_⟩
  refine r σ H γ s _ R (Out.post.imp (post_bnd h) (fun xs s1 g vs γ1 H1 t1 R1 q1 => ?_) fun _ _ z => z)
  unfold zipM at g
  split at g
  · rename_i d1 d2
    cases q1 with
    | cons q1 q2 => cases q2 with
      | cons q2 q3 =>
        cases q3
        cases e1 : rowD d1 with
        | none => rw [e1] at g; exact False.elim g
        | some xs => cases e2 : rowD d2 with
          | none => rw [e1, e2] at g; exact False.elim g
          | some ys =>
            rw [e1, e2] at g
            obtain ⟨a, l, us, rfl, w1, k1⟩ := row_rep (show RepD X.K ct H1 _ d1 from q1) e1
            obtain ⟨b, m, ws, rfl, w2, k2⟩ := row_rep (show RepD X.K ct H1 _ d2 from q2) e2
            exact ⟨a, b, l, m, us, ws, rfl, k1 KeepI.refl, k2 KeepI.refl, g γ1 H1 _ t1 R1 (walkD_zip k1 k2 w1 w2)⟩
  · exact False.elim g
end
section
variable {s : S}
@[simp] theorem e_zipM (a b : D) : zipM [RD a, RD b] s = match rowD a, rowD b with
  | some xs, some ys => .ok ⟨zipF xs ys, none⟩ s
  | _, _ => .bad := by
  show (match rowD a, rowD b with | some xs, some ys => pur (Src.mk (zipF xs ys) none) | _, _ => stuck) s = _
  cases rowD a with
  | none => rfl
  | some _ => cases rowD b <;> rfl
@[simp] theorem e_rowT (ds : List D) : rowD (.tup ds) = some ds := rfl
@[simp] theorem e_rowL (ds : List D) : rowD (.lst ds) = some ds := rfl
end
end Fd
set_option Elab.async false
set_option linter.all false
set_option maxRecDepth 100000
set_option maxHeartbeats 4000000
/-! ## sorted(x), x a list or a tuple of ints -/
namespace Fd
open PySem PySem.Spec PyProof.Rows L2
section
open SrtO Srt
variable {prog : Program} {w : World} {A : Around} {E : Value → Shared → Prop} {s : Shared}
abbrev copyT (h : Heap) (ws : List Value) : Heap :=
  (h.push (seqObj "list" #[] 0)).update h.objs.size (Obj.mapSeq (· ++ ws.toArray))
theorem colT {t : Addr} {ws : List Value} {R : List Value → Shared → Prop} (ht : IsTup s.heap t ws.toArray) (hz : ws.length ≤ sizeLine)
    (k : R ws { s with heap := copyT s.heap ws }) : wpAny (model prog w) A (collect (.ref t)) R E s := by
  obtain ⟨o, ho, hc, n, hd⟩ := id ht
  have hnew : (s.heap.push (seqObj "list" #[] 0)).get? s.heap.objs.size = some (seqObj "list" #[] 0) := Heap.get?_push_size _ rfl
  have ho2 : (s.heap.push (seqObj "list" #[] 0)).get? t = some o := Heap.get?_push_of_some _ ho
  have et : (Value.type "tuple" == Value.type "tuple") = true := by rfl
  unfold collect
  refine (wpAny_bind (wpAny_runValue (codeAny_builtin entry_proto_collect' ?_)))
  show wpAny _ _ (do again (.builtin "list.__iadd__" ⟨[← newList [], .ref t], []⟩)) _ _ s
  refine (wpAny_bind (wpAny_newList (wpAny_pure ⟨Code.quiet_builtin _ (by decide +kernel), codeAny_builtin entry_list_iadd' ?_⟩)))
  show wpAny _ _ (Builtin.List.listExtendWith (.ref s.heap.objs.size) (.ref t) (.ref s.heap.objs.size)) _ _ { s with heap := s.heap.push (seqObj "list" #[] 0) }
  unfold Builtin.List.listExtendWith
  refine (wpAny_bind (wpAny_typeOf (T := "tuple") ⟨o, ho2, hc⟩ ?_))
  rw [if_pos (by rw [et, Bool.or_true])]
  refine (wpAny_bind (listItems_at ho2 hd ?_))
  refine (wpAny_bind (listItems_at (xs := #[]) (n := 0) hnew rfl ?_))
  rw [if_neg (fun z => by simp at z)]
  refine (wpAny_bind (listUpdate_at (xs := #[]) (n := 0) hnew rfl ?_ (Nat.zero_le _) (by
    show (#[] ++ ws.toArray).size ≤ sizeLine + 1
    rw [Array.size_append, List.size_toArray]
    show 0 + ws.length ≤ _
    omega)))
  refine (wpAny_pure ?_)
  show wpAny (model prog w) A (do
      let y ← load s.heap.objs.size
      match y.data with
      | .seq ys _ => pure ys.toList
      | _ => unsupported "internal:collect") R E { s with heap := copyT s.heap ws }
  refine (wpAny_bind (wpAny_load (get?_update_seq hnew _) ?_))
  show wpAny _ _ (pure ((#[] : Array Value) ++ ws.toArray).toList) R E _
  have e : ((#[] : Array Value) ++ ws.toArray).toList = ws := by simp
  rw [e]
  exact wpAny_pure k
theorem sortT {t : Addr} {ws : List Value} {lt : Value → Value → Bool} {R : Value → Shared → Prop} (O : Swo lt) (ht : IsTup s.heap t ws.toArray) (hz : ws.length ≤ sizeLine)
    (can : 2 ≤ ws.length → ∀ (h1 : Heap) (a : Addr), h1.get? a = some (seqObj "list" ws.toArray 0) → (∀ b o, s.heap.get? b = some o → b ≠ a ∧ h1.get? b = some o) → SortableO prog w A.in1.in1 { s with heap := h1 } a ws lt)
    (k : ∀ out : List Value, Srtd lt out → Stb lt out ws → R (.ref (s.heap.objs.size + 1)) { s with heap := sortedAll s.heap ws out.toArray }) : wpAny (model prog w) A (call (.builtin "sorted") [.ref t]) R E s := by
  refine (Calls.call_function_entry kind_sorted plain_sorted entry_sorted (args_sorted1 _) ?_)
  unfold Builtin.«sorted»
  refine (wpAny_bind (m := checkCount "sorted" 1 1 _) (wpAny_pure ?_))
  refine (wpAny_bind (colT ht hz ?_))
  refine (wpAny_bind (wpAny_newList ?_ hz))
  have sz : (copyT s.heap ws).objs.size = s.heap.objs.size + 1 := by
    unfold copyT
    rw [Heap.size_update, size_push']
  have at1 : ((copyT s.heap ws).push (seqObj "list" ws.toArray 0)).get? (s.heap.objs.size + 1) = some (seqObj "list" ws.toArray 0) := by
    rw [← sz]
    exact Heap.get?_push_size _ rfl
  have old : ∀ b o, s.heap.get? b = some o → b ≠ s.heap.objs.size + 1 ∧ ((copyT s.heap ws).push (seqObj "list" ws.toArray 0)).get? b = some o := fun b o q => by
    have lt1 : b < s.heap.objs.size := Heap.lt_size q
    refine ⟨Nat.ne_of_lt (Nat.lt_succ_of_lt lt1), Heap.get?_push_of_some _ ?_⟩
    unfold copyT
    rw [Heap.get?_update_ne _ _ _ _ (Nat.ne_of_lt lt1)]
    exact Heap.get?_push_of_some _ q
  show wpAny _ _ _ _ _ { s with heap := (copyT s.heap ws).push (seqObj "list" ws.toArray 0) }
  rw [sz]
  refine (wpAny_bind (wpAny_holding (wpAny_call_entry slot_list_sort ⟨_, at1, rfl⟩ entry_list_sort (list_sort_ord O at1 hz (fun h2 => can h2 _ _ at1 old) fun out a b => ⟨_, rfl, ?_⟩) (args_list_sort _))))
  exact wpAny_pure ⟨_, rfl, k out a b⟩
end
def rSortedB (K : PySem.W.Frag) : List V → Hp → VK → Prop := fun vs H Q => ∃ (a : Addr) (ns : List Int), vs = [.ref a] ∧ (SqL K H a (ns.map V.int) ∨ SqT K H a (ns.map V.int)) ∧
  ∀ (l : List Int) (p : Addr), l.Perm ns → l.Pairwise (· ≤ ·) → H p = none → Q (.ref p) (upd H p (.lst (l.map V.int)))
theorem cr_sortedB {X : Cx} : CallR X (.builtin "sorted") (rSortedB X.K) := by
  intro pins s σ H vs us Q I r h
  obtain ⟨a, ns, rfl, hs, q⟩ := h
  rcases hs with hs | hs
  · exact cr_sortedI pins s σ H _ us Q I r ⟨a, ns, rfl, hs, q⟩
  · obtain ⟨its, rv, hl, hz⟩ := I.tuple hs
    rw [Vals.ref1 r]
    have hi := rv.ints
    refine sortT SrtO.swo_int hl (rv.length ▸ hz) (fun h2 h1 b _ _ => SrtO.ints_sortable hi h2) fun out h1 h2 => ?_
    obtain ⟨k1, k2, k3⟩ := SrtO.ints_out hi h1 h2
    obtain ⟨ep, he⟩ := PyProof.Rows.sortedAll_at s.heap its out.toArray
    have hlen : ((out.map SrtO.iv).map V.int).length ≤ sizeLine := by
      rw [List.length_map] at hz ⊢
      rw [k2.length_eq]
      exact hz
    refine ⟨.ref _, upd H (s.heap.objs.size + 1) (.lst ((out.map SrtO.iv).map V.int)), ?_, rfl, q _ _ k2 k3 (I.hok.fresh (Nat.le_succ _))⟩
    exact I.laid (t' := s.toks) (fun _ _ => PyProof.Rows.sortedAll_old) (Nat.le_succ _) ⟨hlen, out, ep, vals_of_ints k1, he⟩
/-! ### the sorted list as a function -/
def insI (k : Int) : List Int → List Int
  | [] => [k]
  | x :: xs => if k ≤ x then k :: x :: xs else x :: insI k xs
def sortI : List Int → List Int
  | [] => []
  | x :: xs => insI x (sortI xs)
theorem insI_perm (k : Int) : ∀ l : List Int, (insI k l).Perm (k :: l)
  | [] => List.Perm.refl _
  | x :: xs => by
    unfold insI
    split
    · exact List.Perm.refl _
    · exact ((insI_perm k xs).cons x).trans (List.Perm.swap k x xs)
theorem sortI_perm : ∀ l : List Int, (sortI l).Perm l
  | [] => List.Perm.refl _
  | x :: xs => (insI_perm x _).trans ((sortI_perm xs).cons x)
theorem insI_up (k : Int) : ∀ {l : List Int}, l.Pairwise (· ≤ ·) → (insI k l).Pairwise (· ≤ ·)
  | [], _ => List.pairwise_singleton _ _
  | x :: xs, h => by
    obtain ⟨h1, h2⟩ := List.pairwise_cons.mp h
    unfold insI
    split
    · rename_i c
      refine List.pairwise_cons.mpr ⟨fun y hy => ?_, h⟩
      rcases List.mem_cons.mp hy with rfl | hy
      · exact c
      · have := h1 y hy; omega
    · rename_i c
      refine List.pairwise_cons.mpr ⟨fun y hy => ?_, insI_up k h2⟩
      rcases List.mem_cons.mp ((insI_perm k xs).mem_iff.mp hy) with rfl | hy
      · omega
      · exact h1 y hy
theorem sortI_up : ∀ l : List Int, (sortI l).Pairwise (· ≤ ·)
  | [] => List.Pairwise.nil
  | x :: xs => insI_up x (sortI_up xs)
theorem up_perm : ∀ {a b : List Int}, a.Pairwise (· ≤ ·) → b.Pairwise (· ≤ ·) → a.Perm b → a = b
  | [], [], _, _, _ => rfl
  | [], y :: ys, _, _, p => by have := p.length_eq; simp at this
  | x :: xs, [], _, _, p => by have := p.length_eq; simp at this
  | x :: xs, y :: ys, ha, hb, p => by
    obtain ⟨a1, a2⟩ := List.pairwise_cons.mp ha
    obtain ⟨b1, b2⟩ := List.pairwise_cons.mp hb
    have e : x = y := by
      rcases List.mem_cons.mp (p.mem_iff.mp List.mem_cons_self) with e | e
      · exact e
      · rcases List.mem_cons.mp (p.mem_iff.mpr List.mem_cons_self) with f | f
        · exact f.symm
        · have := a1 y f; have := b1 x e; omega
    subst e
    rw [up_perm a2 b2 ((List.perm_cons x).mp p)]
def sortedM : List RV → M RV
  | [.sv (.dat (.tup ds))] => fun s => match intsL (ds.map SV.dat) with
    | some is => .ok (.new ((sortI is).map fun k => .dat (.int k))) s
    | none => .bad
  | [x] => fun s => match seqL s x with
    | some xs => match intsL xs with
      | some is => .ok (.new ((sortI is).map fun k => .dat (.int k))) s
      | none => .bad
    | none => .bad
  | _ => stuck
section
variable {X : Cx} {ct : Nat → Addr}
theorem reps_ints {K : PySem.W.Frag} {γ : G} {n : Nat} {H : Hp} : ∀ l : List Int, Paired (RepS K ct γ n H) (l.map V.int) (l.map fun k => SV.dat (.int k))
  | [] => .nil
  | k :: l => .cons (.int k) (reps_ints l)
theorem sortedM_ok : CallOk X ct (rSortedB X.K) sortedM := by
  intro W σ γ s H Ha vs rs Q R q h
  have fin : ∀ (a : Addr) (us : List V) (is : List Int) (xs : List SV), us = is.map V.int → vs = [.ref a] → (SqL X.K H a us ∨ SqT X.K H a us) → Good X.K ct W σ γ s H (.ok (.new ((sortI is).map fun k => .dat (.int k))) s) Q → rSortedB X.K vs H Q := by
    rintro a us is xs rfl rfl sq g
    refine ⟨a, is, rfl, sq, fun l p hp hu hn => ?_⟩
    have : l = sortI is := up_perm hu (sortI_up is) (hp.trans (sortI_perm is).symm)
    subst this
    exact good_new R (reps_ints _) g p hn
  unfold sortedM at h
  split at h
  · rename_i ds
    cases q with
    | cons q1 q2 =>
      cases q2
      split at h
      · rename_i is e2
        obtain ⟨p1, vs1, rfl, h1, w1⟩ := tup_rep q1
        exact fin p1 vs1 is [] (intsL_rep (γ := γ) (n := 0) e2 (rep_map w1)) rfl (.inr h1) h
      · exact False.elim h
  · rename_i x _
    cases q with
    | cons q1 q2 =>
      cases q2
      cases e1 : seqL s x with
      | none => simp only [e1] at h; exact False.elim h
      | some xs =>
        cases e2 : intsL xs with
        | none => simp only [e1, e2] at h; exact False.elim h
        | some is =>
          simp only [e1, e2] at h
          obtain ⟨a, us, rfl, hq, pr⟩ := seqL_rep R e1 q1
          exact fin a us is xs (intsL_rep e2 pr) rfl (.inl hq) h
  · exact False.elim h
end
section
variable {s : S}
@[simp] theorem e_sortT (ds : List D) : sortedM [RT ds] s = match intsL (ds.map SV.dat) with
  | some is => .ok (.new ((sortI is).map fun k => .dat (.int k))) s
  | none => .bad := rfl
@[simp] theorem e_sortL (ds : List D) : sortedM [RD (.lst ds)] s = match intsL (ds.map SV.dat) with
  | some is => .ok (.new ((sortI is).map fun k => .dat (.int k))) s
  | none => .bad := rfl
end
end Fd
namespace Fd
open PySem PySem.Spec PyProof.Rows L2
/-! ## tuple * int (from 2 on) -/
def repTM : RV → RV → M RV
  | .sv (.dat (.tup ds)), .sv (.dat (.int n)) => fun s => if ds ≠ [] ∧ 2 ≤ n ∧ n ≤ 1000 ∧ ds.length ≤ 1000 then .ok (RT (List.replicate n.toNat ds).flatten) s else .bad
  | _, _ => stuck
section
variable {X : Cx} {ct : Nat → Addr} {W : WX} {pos : Pos} {a b : Expr} {ma mb : M RV}
theorem repDs_rep {K : PySem.W.Frag} {H : Hp} {vs : List V} {ds : List D} (h : RepDs K ct H vs ds) : ∀ n : Nat, RepDs K ct H (List.replicate n vs).flatten (List.replicate n ds).flatten
  | 0 => .nil
  | n + 1 => by
    rw [List.replicate_succ, List.flatten_cons, List.replicate_succ, List.flatten_cons]
    exact RepDs.append h (repDs_rep h n)
theorem repTM_ok : BinOk X ct (rRepT X.K) repTM := by
  intro W σ γ s H Ha Hb x y r1 r2 Q R q1 q2 h
  unfold repTM at h
  split at h
  · rename_i ds n
    by_cases cc : ds ≠ [] ∧ 2 ≤ n ∧ n ≤ 1000 ∧ ds.length ≤ 1000
    · rw [if_pos cc] at h
      obtain ⟨p1, vs1, rfl, h1, w1⟩ := tup_rep q1
      have hl := w1.length
      refine ⟨p1, n, vs1, rfl, rep_int q2, h1, fun z => cc.1 ?_, cc.2.1, cc.2.2.1, by omega, good_tup R (repDs_rep w1 _) h⟩
      rw [z] at hl
      exact List.eq_nil_of_length_eq_zero hl.symm
    · rw [if_neg cc] at h; exact False.elim h
  · exact False.elim h
theorem ed_repT (ha : ED X ct W a ma) (hb : ED X ct W b mb) : ED X ct W (.BinOp a .Mult b pos) (m2 ma mb repTM) := ed_bin op_repT repTM_ok ha hb
end
@[simp] theorem e_repTM (ds : List D) (n : Int) (s : S) : repTM (RT ds) (RI n) s = if ds ≠ [] ∧ 2 ≤ n ∧ n ≤ 1000 ∧ ds.length ≤ 1000 then .ok (RT (List.replicate n.toNat ds).flatten) s else .bad := rfl
end Fd
set_option Elab.async false
set_option linter.all false
set_option maxRecDepth 100000
set_option maxHeartbeats 4000000
/-! ## classes whose __init__ has defaults -/
namespace Fd
open PySem PySem.Spec PyProof.Rows L2
structure MthD (K : PySem.W.Frag) (ct : Nat → Addr) (c : Nat) (m q : Str) (st : Stmt) (dd : List D) : Prop where
  ex : ∃ dvs : List V, dvs ≠ [] ∧ dvs.length = dd.length ∧ MthT K ct c m q st dvs ∧ ∀ H, RepDs K ct H dvs dd
section
variable {P : Program} {w : World} {K : PySem.W.Frag} {mg : Str → Option Value} {base : Heap} {ct : Nat → Addr} {c k : Nat} {mn q x : Str} {st : Stmt} {N ps : List Str} {m : M Fl} {dd : List D}
theorem okIf (T : MthD K ct c "__init__" q st dd) (M : MkT K mg ct c x) (S : FnScope N ps (defScope st)) {n : Nat} (hn : ps.length = n + 1) (i j : Nat) (hi : i + (dd.length - j) = ps.length)
    (hbd : ∀ (T : Addr) (kV doc pm : Value) (an : Option Addr) (cdv ct : Value) (us its : List Value), us.length = i → its.length = dd.length →
      ∃ k, bindArgs (PySem.W.fnOf "__init__" q (defArgs st) (defBody st) (defScope st) (.ref T) kV doc pm an cdv ct) ⟨us, []⟩ = seqItems? (.ref T) >>= k ∧ k (some its.toArray) = pure (ps.zip (us ++ its.drop j)))
    (hb : ∀ (f : Addr) (cdv : Value) (A : Around) (outer : List Env) (s : Shared) (H : Hp) (E : XK), Room k (A.deeper (envOfC q (defScope st) s.heap.objs.size f cdv)) →
      SDs (cxOf (L2.CX P w) P w K mg base N q (defScope st) f cdv A outer s H E) ct (fun cls d _ H => E cls d H) (defBody st) m) : OkI P w K mg base ct x c n (k + 1) (runI N.length c m) (dd.drop j) := by
  obtain ⟨dvs, hd, hl, ⟨f, fd, hm, F⟩, hdd⟩ := T.ex
  obtain ⟨ds, rv, bb⟩ := F.binds1 i j hd (by rw [hl]; exact hi) fun T kV doc pm an cdv ct us its h1 h2 => hbd T kV doc pm an cdv ct us its h1 (h2.trans hl)
  exact ⟨f, fd, ps, ds, _, ⟨M.makes, hm.at_, hm.fn, M.kp⟩, M.mg, fnI F S hn (hb f), bb, rv, fun H => RepDs.drop j (hdd H)⟩
end
section
variable {K : PySem.W.Frag} {ct : Nat → Addr} {c : Nat} {mn q : Str} {st : Stmt} {C f T : Addr} {dd : List D}
theorem mthD1 {oc : Value} {od an : Option Addr} {osl : Array (Option Value)} {kV doc pm cdv ct1 : Value} {o2 : Value} {c2 : Option Addr} {its : Array Value} {n : Nat} {sl : Array (Option Value)} {dvs : List V} (hct : ct c = C) (a : PySem.W.findIn K (.ref C) mn = some (some (.ref f))) (t : PySem.W.typeIn K (.ref f) = some (.type "function")) (kp : PySem.W.keepIn K (.ref f) = true)
    (l : K.lookup f = some ⟨oc, od, .func (PySem.W.fnOf mn q (defArgs st) (defBody st) (defScope st) (.ref T) kV doc pm an cdv ct1), osl⟩) (cd : PySem.W.codeIn K cdv q = true) (lT : K.lookup T = some ⟨o2, c2, .seq its n, sl⟩) (hd : dvs ≠ []) (hl : dvs.length = dd.length) (hv : Vals dvs its.toList) (hr : ∀ H, RepDs K ct H dvs dd) : MthD K ct c mn q st dd := by
  subst hct
  exact ⟨dvs, hd, hl, ⟨f, _, ⟨a, by unfold PySem.W.isFn; rw [t]; rfl, kp⟩, ⟨⟨oc, od, _, kV, doc, pm, an, cdv, ct1, osl, rfl, l, cd, .inr ⟨hd, T, _, its.toList, n, rfl, lT, by simp, hv⟩, .inl rfl⟩, kp⟩⟩, hr⟩
theorem rep_e0 {a : Addr} {c2 : Option Addr} {n : Nat} {sl : Array (Option Value)} (l : K.lookup a = some ⟨.type "tuple", c2, .seq #[] n, sl⟩) (H : Hp) : RepD K ct H (.ref a) (.tup []) :=
  .tup (sqT_K l rfl rfl (by decide) .nil) .nil
end
end Fd
set_option Elab.async false
set_option linter.all false
set_option maxRecDepth 100000
set_option maxHeartbeats 4000000
/-! ## several except clauses, each with a name or without one -/
namespace Fd
open PySem PySem.Spec PyProof.Rows L2
/-- a clause: its class, the slot of its name if it has one, its suite -/
structure Clz where
  c : Value
  i : Option Nat
  ts : Addr → Value → Option Addr → TS
/-- the ends of a suite whose name in slot i goes -/
def endsZ (D : Ends) (i : Nat) : Ends :=
  { nx := fun σ H => D.nx (σ.set i none) H
    rt := D.rt
    bk := fun σ H => D.bk (σ.set i none) H
    ct := fun σ H => D.ct (σ.set i none) H }
def hitZ (q : Clz) (a : Addr) (cls : Value) (d : Option Addr) (D : Ends) (σ : L2.St) (H : Hp) : Prop := match q.i with
  | none => q.ts a cls d D σ H
  | some i => q.ts a cls d (endsZ D i) (σ.set i (some (.ref a))) H
def wishZ (K : PySem.W.Frag) (W : WX) (D : Ends) : List Clz → WX
  | [] => W
  | q :: r => fun cls d σ H => ∃ b, PySem.W.exmOne K cls q.c = some b ∧ (b = true → ∀ a, H a = none → hitZ q a cls d D σ H) ∧ (b = false → wishZ K W D r cls d σ H)
inductive AllZ (X : Cx) : List ExceptHandler → List Clz → Prop
  | nil : AllZ X [] []
  | bare {x : Str} {c : Value} {ts : Addr → Value → Option Addr → TS} {b0 : Stmt} {bs : List Stmt} {p1 p2 : Pos} {hds : List ExceptHandler} {l : List Clz} (hc : Names X x c)
      (su : ∀ (a : Addr) (o : Obj) (cls : Value) (d : Option Addr) (pn : List (Addr × Obj)), Zc cls d o → (∃ vs, o.data = .fields vs) → PSs (X.suite a ((a, o) :: pn)) (b0 :: bs) (ts a cls d)) (r : AllZ X hds l) :
      AllZ X (.ExceptHandler (some (.Name x p1)) none (b0 :: bs) p2 :: hds) (⟨c, none, ts⟩ :: l)
  | named {x n : Str} {c : Value} {i : Nat} {ts : Addr → Value → Option Addr → TS} {b0 : Stmt} {bs : List Stmt} {p1 p2 : Pos} {hds : List ExceptHandler} {l : List Clz} (nd : X.N.Nodup) (hi : X.N[i]? = some n) (ln : X.env.kindOf n = some .local) (hc : Names X x c)
      (su : ∀ (a : Addr) (o : Obj) (cls : Value) (d : Option Addr) (pn : List (Addr × Obj)), Zc cls d o → (∃ vs, o.data = .fields vs) → PSs (X.suite a ((a, o) :: pn)) (b0 :: bs) (ts a cls d)) (r : AllZ X hds l) :
      AllZ X (.ExceptHandler (some (.Name x p1)) (some n) (b0 :: bs) p2 :: hds) (⟨c, some i, ts⟩ :: l)
section
variable {X : Cx} {body : List Stmt} {h0 : ExceptHandler} {hds : List ExceptHandler} {l : List Clz} {pos : Pos} {tb : WX → TS} {W : WX}
/-- how a flow ends, carried out of a suite -/
theorem flow_out {pins pins2 : List (Addr × Obj)} {Y : Cx} {D : Ends} {f : Flow} {s : Shared} (h : SP Y pins2 D f s) (k : ∀ {σ H}, Inv Y pins2 σ H s → Inv X pins σ H s) : SP X pins D f s := by
  cases f with
  | next => obtain ⟨σ, H, J, q⟩ := h; exact ⟨σ, H, k J, q⟩
  | brk => obtain ⟨σ, H, J, q⟩ := h; exact ⟨σ, H, k J, q⟩
  | cont => obtain ⟨σ, H, J, q⟩ := h; exact ⟨σ, H, k J, q⟩
  | ret u => obtain ⟨v, σ, H, J, r, q⟩ := h; exact ⟨v, σ, H, k J, r, q⟩
theorem ps_tryZ (stk : X.stack = X.env :: X.outer) (frm : X.env.frame = some X.env.locals) (tk : Takes X W)
    (hb : ∀ (W' : WX) (pn : List (Addr × Obj)) (xe : Value → Shared → Prop), Takes (X.tr pn xe) W' → PassesOwn (model X.prog X.w) X.A X.env xe → PSs (X.tr pn xe) body (tb W'))
    (hh : AllZ X (h0 :: hds) l) : PS X (.Try body (h0 :: hds) [] [] pos) (fun D σ H => tb (wishZ X.K W D l) D σ H) := by
  constructor
  intro pins s σ H D I wish
  have iok := I.ok
  have frs0 : X.A.frames = some (X.env :: X.outer) := iok.frames.trans (congrArg some stk)
  have inner := hb (wishZ X.K W D l) (X.pn ++ pins)
    (fun e t1 => wpAny (model X.prog X.w) X.A (noteFrame e X.env) (fun _ t2 => wpAny (model X.prog X.w) X.A (setFlight e none)
      (fun _ t3 => wpAny (model X.prog X.w) X.A (handleBy e X.env (h0 :: hds)) (SP X pins D) X.xe t3) X.xe t2) X.xe t1)
  refine wpAny_Try_except (wpAny_mono ((inner ?land PassesOwn.looking).run [] s σ H D (I.toTry _) wish) ?done fun _ _ z => z)
  case done =>
    intro f t1 q
    have q2 : SP X pins D f t1 := flow_out q fun J => J.ofTry iok
    cases f with
    | next => exact wpAny_execs_nil q2
    | brk => exact q2
    | cont => exact q2
    | ret u => exact q2
  case land =>
    intro u t1 raised
    obtain ⟨a, B, t0, pins2, σ2, H2, cls, d, rfl, J0, nb, up, sky, fresh, os, ag, w⟩ := raised
    have J : Inv X pins σ2 H2 t0 := J0.ofTry iok
    have sky2 : Sky B (X.env :: X.outer) a (Zc cls d) X.env.locals t1.heap := stk ▸ sky
    show wpAny (model X.prog X.w) X.A (noteFrame (.ref a) X.env) _ _ _
    refine Sky.land Zc.steady frs0 frm sky2 fun g3 fl up3 => ?_
    have J3 : Inv X pins σ2 H2 { t1 with heap := g3 } := J.landed nb fl.1 (up.trans up3) os ag
    obtain ⟨o3, ws3, at3, zc3, dt3⟩ := fl.there
    -- the exception is no frame's namespace
    have off : a ∉ frs (X.env :: X.outer) := fun z => by
      obtain ⟨_, o9, e9, no9⟩ := fl.2.2.1.mem z
      rw [at3] at e9
      cases e9
      exact no9 _ dt3
    have offL : a ≠ X.env.locals := fun z => off (List.mem_filterMap.mpr ⟨X.env, List.mem_cons_self, by rw [frm, z]⟩)
    have offF : a ∉ X.fs := fun z => by
      obtain ⟨e, he, q⟩ := List.mem_filterMap.mp z
      exact off (List.mem_filterMap.mpr ⟨e, List.mem_cons_of_mem _ he, q⟩)
    have S3 := J3.suite at3 dt3 fresh offL offF
    have looks : PySem.W.Looks (model X.prog X.w) g3 (typeOf (.ref a)) cls := fun A Q E s k q => wpAny_typeOf_ref (k _ _ at3) (by rw [zc3.1]; exact q)
    have walk : ∀ {hs : List ExceptHandler} {zs : List Clz}, AllZ X hs zs → wishZ X.K W D zs cls d σ2 H2 → wpAny (model X.prog X.w) X.A (handleBy (.ref a) X.env hs) (SP X pins D) X.xe { t1 with heap := g3 } := by
      intro hs zs all
      induction all with
      | nil =>
        intro w
        refine wpAny_handleBy_nil ?_
        obtain ⟨_, _, _, oe, vs, T, oT, ts', he, hz, hd, h1, hr⟩ := id fl
        unfold PySem.passOn
        refine (wpAny_bind (wpAny_field he hd h1 ?_))
        rw [if_neg (fun z => by simp at z)]
        have last : wpAny (model X.prog X.w) X.A (setFlight (.ref a) X.env.frame) (fun _ t4 => wpAny (model X.prog X.w) X.A (throw (.ref a) : Sem Flow) (SP X pins D) X.xe t4) X.xe { t1 with heap := g3 } := by
          rw [frm]
          refine HandSPX.setFlight_upZ fl fun g4 hg4 up4 => wpAny_throw (tk _ _ ⟨a, B, t0, pins, σ2, H2, cls, d, rfl, J, nb, (up.trans up3).trans up4, .inr (.inr (by rw [stk]; exact hg4)), fresh, os, ag, w⟩)
        first
          | (exact wpAny_bind (wpAny_pure (wpAny_bind last)))
          | (exact wpAny_bind last)
      | @bare x c ts b0 bs p1 p2 hs2 l2 hc su r ih =>
        rintro ⟨b, one, yes, no⟩
        refine wpAny_handleBy_cons (codeAny_handlers_test ?_) (by intro q; cases q)
        have LM := PySem.W.exm_one (M := model X.prog X.w) (J3.kIn) looks one
        have named : ∀ {Q : Value → Shared → Prop} {E : Value → Shared → Prop}, Q c { t1 with heap := g3 } → wpAny (model X.prog X.w) (X.A.mark (some (.ref a))) (eval (.Name x p1) X.env) Q E { t1 with heap := g3 } := fun {Q E} q => by
          obtain ⟨gl, nodb, mg1 | ⟨mg1, bt, nn⟩⟩ := hc
          · exact ld_glob (X := X.suite a ((a, o3) :: (X.pn ++ pins))) S3 gl mg1 q nodb
          · exact ld_blt (X := X.suite a ((a, o3) :: (X.pn ++ pins))) S3 gl mg1 bt q nn nodb
        refine named (LM.here ?_)
        cases b with
        | false => exact ih (no rfl)
        | true =>
          refine codeAny_handlers_suite (HandSPX.lands_againZ fl fun g4 fl4 up4 => ?_)
          have J4 : Inv X pins σ2 H2 { t1 with heap := g4 } := J.landed nb fl4.1 ((up.trans up3).trans up4) os ag
          obtain ⟨o4, ws4, at4, zc4, dt4⟩ := fl4.there
          have S4 := J4.suite at4 dt4 fresh offL offF
          have y : ts a cls d D σ2 H2 := yes rfl a fresh
          exact wpAny_mono ((su a o4 cls d (X.pn ++ pins) zc4 ⟨_, dt4⟩).run [] _ _ H2 _ S4 y) (fun f t6 q => flow_out q fun J6 => J6.unsuite iok) fun _ _ z => z.elim
      | @named x n c i ts b0 bs p1 p2 hs2 l2 nd hi ln hc su r ih =>
        rintro ⟨b, one, yes, no⟩
        refine wpAny_handleBy_cons (codeAny_handlers_test ?_) (by intro q; cases q)
        have LM := PySem.W.exm_one (M := model X.prog X.w) (J3.kIn) looks one
        have named : ∀ {Q : Value → Shared → Prop} {E : Value → Shared → Prop}, Q c { t1 with heap := g3 } → wpAny (model X.prog X.w) (X.A.mark (some (.ref a))) (eval (.Name x p1) X.env) Q E { t1 with heap := g3 } := fun {Q E} q => by
          obtain ⟨gl, nodb, mg1 | ⟨mg1, bt, nn⟩⟩ := hc
          · exact ld_glob (X := X.suite a ((a, o3) :: (X.pn ++ pins))) S3 gl mg1 q nodb
          · exact ld_blt (X := X.suite a ((a, o3) :: (X.pn ++ pins))) S3 gl mg1 bt q nn nodb
        refine named (LM.here ?_)
        cases b with
        | false => exact ih (no rfl)
        | true =>
          refine codeAny_handlers_suite_as (HandSPX.lands_againZ fl fun g4 fl4 up4 => ?_)
          have J4 : Inv X pins σ2 H2 { t1 with heap := g4 } := J.landed nb fl4.1 ((up.trans up3).trans up4) os ag
          obtain ⟨o4, ws4, at4, zc4, dt4⟩ := fl4.there
          have S4 := J4.suite at4 dt4 fresh offL offF
          have y : ts a cls d (endsZ D i) (σ2.set i (some (.ref a))) H2 := yes rfl a fresh
          refine store_ok (X := X.suite a ((a, o4) :: (X.pn ++ pins))) (v := .ref a) S4 nd hi (.inl ln) rfl (fun t5 S5 => ?_) (.inr ln)
          refine wpAny_mono ((su a o4 cls d (X.pn ++ pins) zc4 ⟨_, dt4⟩).run [] t5 _ H2 _ S5 y) (fun f t6 q => ?_) fun _ _ z => z.elim
          have gone : ∀ {σ6 : L2.St} {H6 : Hp} {Q : Shared → Prop}, Inv (X.suite a ((a, o4) :: (X.pn ++ pins))) [] σ6 H6 t6 → (∀ t7, Inv X pins (σ6.set i none) H6 t7 → Q t7) →
              wpAny (model X.prog X.w) X.A (do bindName X.env n .none; unbindBehindTheSuite X.env n p2) (fun _ t7 => Q t7) X.xe t6 := fun {σ6 H6 Q} S6 k => gone_ok (S6.unsuite iok) nd hi ln k
          cases f with
          | next => obtain ⟨σ6, H6, S6, z⟩ := q; exact gone S6 fun t7 J7 => ⟨_, _, J7, z⟩
          | brk => obtain ⟨σ6, H6, S6, z⟩ := q; exact gone S6 fun t7 J7 => ⟨_, _, J7, z⟩
          | cont => obtain ⟨σ6, H6, S6, z⟩ := q; exact gone S6 fun t7 J7 => ⟨_, _, J7, z⟩
          | ret v => obtain ⟨v6, σ6, H6, S6, r6, z⟩ := q; exact gone S6 fun t7 J7 => ⟨_, _, _, J7, r6, z⟩
    exact walk hh w
end
end Fd
set_option Elab.async false
set_option linter.all false
set_option maxRecDepth 100000
set_option maxHeartbeats 4000000
namespace Fd
open PySem PySem.Spec PyProof.Rows L2
/-! ## expressions of an except clause that read its error -/
structure EDX (X : Cx) (ct : Nat → Addr) (W : WX) (c i : Nat) (a : Addr) (cls : Value) (d : Option Addr) (e : Expr) (m : Exn → M RV) : Prop where
  ex : ∃ t, PE X e t ∧ ∀ σ H γ s Q x, Rep X.K ct γ H σ s → σ[i]? = some (some (.ref a)) → RepX X.K ct H x cls d → x.c = c → Good X.K ct W σ γ s H (m x s) Q → t σ H Q
structure ADX (X : Cx) (ct : Nat → Addr) (W : WX) (c i : Nat) (a : Addr) (cls : Value) (d : Option Addr) (es : List Expr) (m : Exn → M (List SV)) : Prop where
  ex : ∃ t, PA X es t ∧ ∀ σ H γ s Q x, Rep X.K ct γ H σ s → σ[i]? = some (some (.ref a)) → RepX X.K ct H x cls d → x.c = c → GoodA X.K ct W σ γ s H (m x s) Q → t σ H Q
theorem RepX.keep {K : PySem.W.Frag} {ct : Nat → Addr} {H H' : Hp} {x : Exn} {cls : Value} {d : Option Addr} (h : RepX K ct H x cls d) (k : KeepI H H') : RepX K ct H' x cls d := by
  obtain ⟨e1, e2⟩ := h
  refine ⟨e1, ?_⟩
  rcases e2 with e2 | ⟨dx, fs, e3, e4, e5, e6⟩
  · exact .inl e2
  · exact .inr ⟨dx, fs, e3, k _ _ e4 trivial, e5, RepDs.mono k e6⟩
def fieldE (f : Str) (x : Exn) : M RV := match x.fs.lookup f with
  | some d => pur (RD d)
  | none => stuck
section
variable {X : Cx} {ct : Nat → Addr} {W : WX} {c i : Nat} {a : Addr} {cls : Value} {d : Option Addr} {e : Expr} {es : List Expr} {m : Exn → M RV} {mA : Exn → M (List SV)} {pos : Pos}
theorem edx_of {m : M RV} (h : ED X ct W e m) : EDX X ct W c i a cls d e (fun _ => m) := by
  obtain ⟨t, p, r⟩ := h.ex
  exact ⟨t, p, fun σ H γ s Q x R _ _ _ g => r σ H γ s Q R g⟩
theorem adx_nil : ADX X ct W c i a cls d [] (fun _ => pur []) := ⟨_, pa_nil, fun σ H γ s Q x R _ _ _ h => h [] γ H Step.refl R .nil⟩
theorem adx_cons (h : EDX X ct W c i a cls d e m) (hr : ADX X ct W c i a cls d es mA) (hs : starEach (e :: es) X.env = (false, eval e X.env) :: starEach es X.env := by rfl) : ADX X ct W c i a cls d (e :: es) (fun x => consA (m x) (mA x)) := by
  obtain ⟨t, p, r⟩ := h.ex
  obtain ⟨t2, p2, r2⟩ := hr.ex
  refine ⟨_, pa_cons p p2 hs, fun σ H γ s Q x R z1 z2 z3 h => ?_⟩
  refine r σ H γ s _ x R z1 z2 z3 (use_e h (fun _ _ z => z) fun y s1 v γ1 H1 t1 R1 q1 g => ?_)
  cases y with
  | new xs => exact False.elim g
  | sv y =>
    refine r2 σ H1 γ1 s1 _ x R1 z1 (z2.keep t1.imm) z3 (use_a (GoodA.step t1 g) (fun _ _ z => z) fun xs s2 vs γ2 H2 t2 R2 q2 g2 => ?_)
    exact g2 (v :: vs) γ2 H2 t2 R2 (.cons (RepS.mono t2 q1) q2)
theorem edx_tup {x1} (h : ADX X ct W c i a cls d es mA) : EDX X ct W c i a cls d (.Tuple es x1 pos) (fun x => bnd (mA x) tupM) := by
  obtain ⟨t, p, r⟩ := h.ex
  refine ⟨_, pe_tup p, fun σ H γ s Q x R z1 z2 z3 h => ?_⟩
  refine r σ H γ s _ x R z1 z2 z3 (use_a h (fun _ _ z => z) fun xs s1 vs γ1 H1 t1 R1 q1 g => ?_)
  unfold tupM at g
  cases e1 : datL xs with
  | none => simp only [e1] at g; exact False.elim g
  | some ds =>
    simp only [e1] at g
    have w := datL_rep e1 q1
    by_cases cc : ds.length ≤ 1000
    · rw [if_pos cc] at g
      exact ⟨by rw [w.length]; exact Nat.le_trans cc (by decide), good_tup R1 w (Good.step t1 g)⟩
    · rw [if_neg cc] at g; exact False.elim g
end
section
variable {X : Cx} {ct : Nat → Addr} {W : WX} {c i : Nat} {a : Addr} {cls : Value} {d : Option Addr} {oe : Obj} {pn : List (Addr × Obj)} {pos : Pos}
theorem edx_field {n f : Str} {np p2 : Pos} {C : Addr} (hct : ct c = C) (T : XfC X.K C) (hno : PySem.W.findIn X.K (.ref C) f = some none) (hz : Zc cls d oe) (hf : ∃ vs, oe.data = .fields vs) (hp : PE (X.suite a ((a, oe) :: pn)) (.Name n np) (tVar i))
    (hb : attributeBase (.Name n np) f X.env (eval (.Name n np) X.env) = eval (.Name n np) X.env := by rfl) : EDX (X.suite a ((a, oe) :: pn)) ct W c i a cls d (.Attribute (.Name n np) f p2) (fieldE f) := by
  refine ⟨_, pe_xf T hno hz hf hp hb, fun σ H γ s Q x R hσ hx hxc g => ?_⟩
  unfold fieldE at g
  cases e : x.fs.lookup f with
  | none => simp only [e] at g; exact False.elim g
  | some dd =>
    simp only [e] at g
    obtain ⟨e1, e2⟩ := hx
    rcases e2 with ⟨e3, _⟩ | ⟨dx, fs, e3, e4, e5, e6⟩
    · rw [e3] at e; cases e
    · obtain ⟨v, lv, rv⟩ := lookup_rep e5 e6 e
      exact ⟨_, hσ, rfl, by rw [e1, hxc, hct], dx, fs, v, e3, e4, lv, g v γ H Step.refl R rv⟩
end
section
variable {X : Cx} {ct : Nat → Addr} {W : WX} {c i : Nat} {a : Addr} {cls : Value} {d : Option Addr} {e o : Expr} {m : Exn → M RV} {mo : M RV} {pos apos : Pos}
/-- xs.append(e) on an own list -/
theorem edx_append (ho : ED X ct W o mo) (he : EDX X ct W c i a cls d e m) (hs : starEach [e] X.env = [(false, eval e X.env)] := by rfl) (hbase : attributeBase o "append" X.env (eval o X.env) = eval o X.env := by rfl) (hline : (apos.endLine == pos.line) = true := by rfl)
    (hfew : ((backTo pos (starEach [e] X.env)).all (fun x => !x.1) && (backToKw pos (keywordEach [] X.env)).all (fun x => x.1.isSome) && decide ([e].length + ([] : List Keyword).length + (if ([] : List Keyword).isEmpty then 0 else 1) < 30)) = true := by rfl) :
    EDX X ct W c i a cls d (.Call (.Attribute o "append" apos) [e] [] pos) (fun x => appM mo (m x)) := by
  obtain ⟨to, po, ro⟩ := ho.ex
  obtain ⟨te, pe, re⟩ := he.ex
  refine ⟨_, pe_bm PySem.F.plainAttrs_list PySem.F.slot_list_append PySem.F.type_list_append mt_append po (pa_cons pe pa_nil hs) hbase hfew hline hs rfl, fun σ H γ s Q x0 R z1 z2 z3 h => ?_⟩
  refine ro σ H γ s _ R (use_e h (fun _ _ z => z) fun x s1 v γ1 H1 t1 R1 q1 g => ?_)
  split at g
  · rename_i k
    have q1' : k < s1.mem.length ∧ v = .ref (γ1.kp k) := q1
    obtain ⟨hk, rfl⟩ := q1'
    split at g
    · rename_i xs0 e0
      obtain ⟨vs0, ek0, _⟩ := R1.mem k xs0 e0
      refine ⟨.inl ⟨rfl, vs0, SqL.of ek0⟩, ?_⟩
      refine re σ H1 γ1 s1 _ x0 R1 z1 (z2.keep t1.imm) z3 (use_e (Good.step t1 g) (fun _ _ z => z) fun y s2 w γ2 H2 t2 R2 q2 g2 => ?_)
      cases y with
      | new _ => exact False.elim g2
      | sv d =>
        dsimp only at g2
        cases e1 : s2.mem[k]? with
        | none => simp only [e1] at g2; exact False.elim g2
        | some ox =>
          cases ox with
          | none => simp only [e1] at g2; exact False.elim g2
          | some xs =>
            simp only [e1] at g2
            by_cases cl : xs.length < 100000
            · rw [if_pos cl] at g2
              obtain ⟨vs, ek, pr⟩ := R2.mem k xs e1
              have kp : γ2.kp k = γ1.kp k := t2.kp k hk
              obtain ⟨st, R3⟩ := own_step R2 e1 (RepDs.appendS pr (.cons q2 .nil))
              rw [kp] at st R3 ek
              exact ⟨_, vs, w, rfl, rfl, ek, by rw [Paired.length pr]; exact Nat.lt_of_lt_of_le cl (by decide), g2 _ γ2 _ (t2.trans st) R3 RepD.non⟩
            · rw [if_neg cl] at g2; exact False.elim g2
    · exact False.elim g
  · exact False.elim g
end
/-! ## suites -/
section
variable {X : Cx} {ct : Nat → Addr} {c i : Nat} {e tg : Expr} {m : Exn → M RV} {pos : Pos}
theorem hd_retX (h : ∀ (a : Addr) (oe : Obj) (cls : Value) (d : Option Addr) (pn : List (Addr × Obj)), Zc cls d oe → (∃ vs, oe.data = .fields vs) → EDX (X.suite a ((a, oe) :: pn)) ct WF c i a cls d e m) : HD X ct c i [.Return (some e) pos] (fun x => retF (m x)) := by
  refine ⟨fun a oe cls d pn hz hf => ?_⟩
  obtain ⟨t, p, r⟩ := (h a oe cls d pn hz hf).ex
  refine ⟨_, pss_one (ps_ret p), fun N σ H γ s x R z1 z2 z3 g => ?_⟩
  exact r σ H γ s _ x R z1 z2 z3 (use_e g (fun _ _ z => z.at) fun x s1 v γ1 H1 t1 R1 q1 g => g v σ γ1 H1 t1 R1 q1)
theorem hd_exprX (h : ∀ (a : Addr) (oe : Obj) (cls : Value) (d : Option Addr) (pn : List (Addr × Obj)), Zc cls d oe → (∃ vs, oe.data = .fields vs) → EDX (X.suite a ((a, oe) :: pn)) ct WF c i a cls d e m) (hs : swapsWith e none pos.line X.env = pure false := by rfl) : HD X ct c i [.Expr e pos] (fun x => dropF (m x)) := by
  refine ⟨fun a oe cls d pn hz hf => ?_⟩
  obtain ⟨t, p, r⟩ := (h a oe cls d pn hz hf).ex
  refine ⟨_, pss_one (ps_expr p hs), fun N σ H γ s x R z1 z2 z3 g => ?_⟩
  exact r σ H γ s _ x R z1 z2 z3 (use_e g (fun _ _ z => z.at) fun x s1 v γ1 H1 t1 R1 q1 g => g σ γ1 H1 t1 R1)
theorem hd_asgX {is : List Nat} {f : SV → M Unit} (h : ∀ (a : Addr) (oe : Obj) (cls : Value) (d : Option Addr) (pn : List (Addr × Obj)), Zc cls d oe → (∃ vs, oe.data = .fields vs) → EDX (X.suite a ((a, oe) :: pn)) ct WF c i a cls d e m)
    (hg : ∀ a oe pn, GD (X.suite a ((a, oe) :: pn)) ct tg is f) (hs : swapsWithSole [tg] e pos.line X.env = pure false := by rfl) (hw : swappedStores [tg] e X.env = pure none := by rfl)
    (h1 : (assignEach [tg] X.env).map (·.2) = [assign tg X.env] := by rfl) : HD X ct c i [.Assign [tg] e pos] (fun x => asgF (m x) f) := by
  refine ⟨fun a oe cls d pn hz hf => ?_⟩
  obtain ⟨t, p, r⟩ := (h a oe cls d pn hz hf).ex
  obtain ⟨t2, p2, r2⟩ := (hg a oe pn).ex
  refine ⟨_, pss_one (ps_asg p p2 hs hw h1), fun N σ H γ s x0 R z1 z2 z3 h => ?_⟩
  refine r σ H γ s _ x0 R z1 z2 z3 (use_e h (fun _ _ z => z.at) fun x s1 v γ1 H1 t1 R1 q1 g => ?_)
  cases x with
  | new xs => exact False.elim g
  | sv x =>
    refine r2 σ H1 γ1 s1 v x _ R1 q1 ?_
    have g' : (nxU (f x) s1).post (GoodF X.K ct γ s H N) (GoodXS X.K ct WF γ s H) := g
    unfold nxU at g'
    cases e2 : f x s1 with
    | bad => rw [e2] at g'; exact g'
    | exc y s2 => rw [e2] at g'; exact False.elim g'
    | ok u s2 =>
      rw [e2] at g'
      exact fun σ2 γ2 H2 t2 R2 _ _ => g' σ2 γ2 H2 (t1.trans t2) R2
end
/-! ## several clauses -/
/-- a clause: its class, which classes it takes, the slot of its name, its suite -/
structure ClD where
  c : Nat
  es : Nat → Option Bool
  i : Option Nat
  hf : Exn → M Fl
def hitC (x : Exn) (s1 : S) : List ClD → Out Fl
  | [] => .exc x s1
  | q :: r => match q.es x.c with
    | some true => match q.i with
      | none => match q.hf x s1 with
        | .ok f s2 => .ok f s2
        | _ => .bad
      | some i => if i < s1.env.length then match q.hf x (clrS i s1) with
        | .ok f s2 => .ok f (clrS i s2)
        | _ => .bad
        else .bad
    | some false => hitC x s1 r
    | none => .bad
def tryZ (mb : M Fl) (l : List ClD) : M Fl := fun s => match mb s with
  | .exc x s1 => hitC x s1 l
  | o => o
section
variable {X : Cx} {ct : Nat → Addr} {W : WX} {pos : Pos}
inductive AllC2 (X : Cx) (ct : Nat → Addr) : List ExceptHandler → List ClD → Prop
  | nil : AllC2 X ct [] []
  | bare {x : Str} {c : Nat} {es : Nat → Option Bool} {m : M Fl} {b0 : Stmt} {bs : List Stmt} {p1 p2 : Pos} {hds : List ExceptHandler} {l : List ClD} (O : ErrH X.K X.mg ct x c es) (hg : Gl X x) (hdb : (x == ("__debug__" : Str)) = false)
      (hh : ∀ a oe pn, SDs (X.suite a ((a, oe) :: pn)) ct WF (b0 :: bs) m) (r : AllC2 X ct hds l) : AllC2 X ct (.ExceptHandler (some (.Name x p1)) none (b0 :: bs) p2 :: hds) (⟨c, es, none, fun _ => m⟩ :: l)
  | named {x n : Str} {c i : Nat} {es : Nat → Option Bool} {hf : Exn → M Fl} {b0 : Stmt} {bs : List Stmt} {p1 p2 : Pos} {hds : List ExceptHandler} {l : List ClD} (O : ErrH X.K X.mg ct x c es) (hg : Gl X x) (hdb : (x == ("__debug__" : Str)) = false)
      (nd : X.N.Nodup) (hi : X.N[i]? = some n) (ln : X.env.kindOf n = some .local) (one : ∀ c1, es c1 = some true → c1 = c) (hh : HD X ct c i (b0 :: bs) hf) (r : AllC2 X ct hds l) : AllC2 X ct (.ExceptHandler (some (.Name x p1)) (some n) (b0 :: bs) p2 :: hds) (⟨c, es, some i, hf⟩ :: l)
/-- the readings of the clauses -/
def readC (X : Cx) (ct : Nat → Addr) (q : ClD) : Clz := ⟨.ref (ct q.c), q.i, match q.i with
  | none => fun _ _ _ N σ H => ∃ γ s x, Rep X.K ct γ H σ s ∧ GoodS X.K ct WF γ s H (q.hf x s) N
  | some i => fun a cls d N σ H => ∃ γ s x, Rep X.K ct γ H σ s ∧ σ[i]? = some (some (.ref a)) ∧ RepX X.K ct H x cls d ∧ x.c = q.c ∧ GoodS X.K ct WF γ s H (q.hf x s) N⟩
theorem allZ_of : ∀ {hds : List ExceptHandler} {l : List ClD}, AllC2 X ct hds l → AllZ X hds (l.map (readC X ct))
  | _, _, .nil => .nil
  | _, _, .bare O hg hdb hh r => .bare ⟨hg, hdb, .inl O.mg⟩ (fun a oe cls d pn _ _ => by
      obtain ⟨t, pt, rr⟩ := (hh a oe pn).ex
      exact ⟨fun pins s σ H N I ⟨γ, s', x, R, g⟩ => pt.run pins s σ H N I (rr N σ H γ s' R g)⟩) (allZ_of r)
  | _, _, .named O hg hdb nd hi ln one hh r => .named nd hi ln ⟨hg, hdb, .inl O.mg⟩ (fun a oe cls d pn hz hfd => by
      obtain ⟨t, p, rr⟩ := hh.ex a oe cls d pn hz hfd
      exact ⟨fun pins s σ H N I ⟨γ, s', x, R, h1, h2, h3, g⟩ => p.run pins s σ H N I (rr N σ H γ s' x R h1 h2 h3 g)⟩) (allZ_of r)
theorem wish_of {γ γ' : G} {s s1 : S} {H H' : Hp} {σ' : L2.St} {N : Ends} {y : Exn} {cl : Value} {dd : Option Addr} (st : Step γ γ' s s1 H H') (R : Rep X.K ct γ' H' σ' s1) (hx : RepX X.K ct H' y cl dd) : ∀ {hds : List ExceptHandler} {l : List ClD}, AllC2 X ct hds l →
    (hitC y s1 l).post (GoodF X.K ct γ s H N) (GoodXS X.K ct W γ s H) → wishZ X.K (fun cl d σ H => W cl d σ H) N (l.map (readC X ct)) cl dd σ' H'
  | _, _, .nil, h => h cl dd σ' γ' H' st R hx
  | _, _, .bare (c := c) (es := es) (m := m) (l := l) O hg hdb hh r, h => by
    unfold hitC at h
    cases e2 : es y.c with
    | none => simp only [e2] at h; exact False.elim h
    | some bb =>
      simp only [e2] at h
      refine ⟨bb, by rw [hx.1]; exact O.exm _ _ e2, fun e3 a na => ?_, fun e3 => ?_⟩
      · subst e3
        dsimp only at h
        refine ⟨γ', s1, y, R, GoodS.step st ?_⟩
        show GoodS X.K ct WF γ s H (m s1) N
        cases e4 : m s1 with
        | bad => simp only [e4] at h; exact h
        | exc z s2 => simp only [e4] at h; exact False.elim h
        | ok f s2 => simp only [e4] at h; exact h
      · subst e3
        exact wish_of st R hx r h
  | _, _, .named (c := c) (i := i) (es := es) (hf := hf) (l := l) O hg hdb nd hi ln one hh r, h => by
    unfold hitC at h
    cases e2 : es y.c with
    | none => simp only [e2] at h; exact False.elim h
    | some bb =>
      simp only [e2] at h
      refine ⟨bb, by rw [hx.1]; exact O.exm _ _ e2, fun e3 a na => ?_, fun e3 => ?_⟩
      · subst e3
        dsimp only at h
        have hl0 : i < s1.env.length := by
          by_cases c0 : i < s1.env.length
          · exact c0
          · rw [if_neg c0] at h; exact False.elim h
        rw [if_pos hl0] at h
        have hl : i < σ'.length := by rw [R.len]; exact hl0
        refine ⟨γ', clrS i s1, y, rep_clr R, List.getElem?_set_self hl, hx, one _ e2, ?_⟩
        show GoodS X.K ct WF γ' (clrS i s1) H' (hf y (clrS i s1)) (endsZ N i)
        cases e4 : hf y (clrS i s1) with
        | bad => simp only [e4] at h; exact h
        | exc z s2 => simp only [e4] at h; exact False.elim h
        | ok f s2 =>
          simp only [e4] at h
          have t0 : Step γ γ' s (clrS i s1) H H' := st.trans step_env
          cases f with
          | nx => exact fun σ2 γ2 H2 t2 R2 => h _ γ2 H2 ((t0.trans t2).trans step_env) (rep_clr (o := none) R2)
          | bk => exact fun σ2 γ2 H2 t2 R2 => h _ γ2 H2 ((t0.trans t2).trans step_env) (rep_clr (o := none) R2)
          | ct => exact fun σ2 γ2 H2 t2 R2 => h _ γ2 H2 ((t0.trans t2).trans step_env) (rep_clr (o := none) R2)
          | rt r => exact fun v σ2 γ2 H2 t2 R2 q2 => h v _ γ2 H2 ((t0.trans t2).trans step_env) (rep_clr (o := none) R2) (by
              cases r with
              | sv x => exact q2
              | new xs => obtain ⟨a, vs, e5, e6, e7, e8, e9⟩ := q2; exact ⟨a, vs, e5, free_of t0.there e6, e7, e8, e9⟩)
      · subst e3
        exact wish_of st R hx r h
theorem sd_tryZ {body : List Stmt} {h0 : ExceptHandler} {hds : List ExceptHandler} {l : List ClD} {mb : M Fl} (hs : X.stack = X.env :: X.outer) (hfr : X.env.frame = some X.env.locals) (tk : Takes X W)
    (hb : ∀ (W' : WX) (pn : List (Addr × Obj)) (xe : Value → Shared → Prop), Takes (X.tr pn xe) W' → PassesOwn (model X.prog X.w) X.A X.env xe → SDs (X.tr pn xe) ct W' body mb)
    (hh : AllC2 X ct (h0 :: hds) l) : SD X ct W (.Try body (h0 :: hds) [] [] pos) (tryZ mb l) := by
  let tb : WX → TS := fun W' N σ H => ∃ γ s, Rep X.K ct γ H σ s ∧ GoodS X.K ct W' γ s H (mb s) N
  have pb : ∀ (W' : WX) (pn : List (Addr × Obj)) (xe : Value → Shared → Prop), Takes (X.tr pn xe) W' → PassesOwn (model X.prog X.w) X.A X.env xe → PSs (X.tr pn xe) body (tb W') := fun W' pn xe t1 t2 => by
    obtain ⟨t, pt, r⟩ := (hb W' pn xe t1 t2).ex
    exact ⟨fun pins s σ H N I ⟨γ, s', R, g⟩ => pt.run pins s σ H N I (r N σ H γ s' R g)⟩
  refine ⟨_, ps_tryZ hs hfr tk pb (allZ_of hh), fun N σ H γ s R h => ⟨γ, s, R, ?_⟩⟩
  unfold GoodS tryZ at h
  unfold GoodS
  cases e1 : mb s with
  | bad => simp only [e1] at h; exact h
  | ok f s1 => simp only [e1] at h; exact h
  | exc y s1 =>
    simp only [e1] at h
    intro cl d σ' γ' H' st R' hx
    exact wish_of st R' hx hh h
end
section
variable (s : S)
@[simp] theorem e_fieldE (f : Str) (x : Exn) : fieldE f x s = match x.fs.lookup f with
  | some d => .ok (RD d) s
  | none => .bad := by
  unfold fieldE
  cases x.fs.lookup f <;> rfl
end
end Fd
set_option Elab.async false
set_option linter.all false
set_option maxRecDepth 100000
set_option maxHeartbeats 4000000
namespace Fd
open PySem PySem.Spec PyProof.Rows L2
/-! ## a, b, c = e1, e2, e3 -/
def parF3 (i j l : Nat) (mA : M (List SV)) : M Fl := bnd mA fun xs s => match xs with
  | [x, y, z] => .ok .nx { s with env := ((s.env.set i (some x)).set j (some y)).set l (some z) }
  | _ => .bad
section
variable {X : Cx} {ct : Nat → Addr} {W : WX} {pos : Pos} {a b c : Expr}
theorem sd_par3 {i j l : Nat} {x y z : Str} {px py pz pt : Pos} {kt k2 pt2} {mA : M (List SV)} (hc : X.calm = true) (hN : X.N.Nodup) (hi : X.N[i]? = some x) (hj : X.N[j]? = some y) (hl : X.N[l]? = some z) (hij : i ≠ j) (hil : i ≠ l) (hjl : j ≠ l)
    (hx : X.env.scope.names.lookup x = some .local) (hy : X.env.scope.names.lookup y = some .local) (hz : X.env.scope.names.lookup z = some .local) (ha : AD X ct W [a, b, c] mA)
    (hw : swappedStores [.Tuple [.Name x px, .Name y py, .Name z pz] kt pt] (.Tuple [a, b, c] k2 pt2) X.env = pure (some [x, y, z]))
    (hs : swapsWithSole [.Tuple [.Name x px, .Name y py, .Name z pz] kt pt] (.Tuple [a, b, c] k2 pt2) pos.line X.env = pure false := by rfl) :
    SD X ct W (.Assign [.Tuple [.Name x px, .Name y py, .Name z pz] kt pt] (.Tuple [a, b, c] k2 pt2) pos) (parF3 i j l mA) := by
  obtain ⟨t, pt', r⟩ := ha.ex
  refine ⟨_, ps_par3 hc hN hi hj hl hij hil hjl hx hy hz pt' hw hs, fun N σ H γ s R h => ?_⟩
  refine r σ H γ s _ R (use_a h (fun _ _ z => z.at) fun xs s1 vs γ1 H1 t1 R1 q1 g => ?_)
  cases q1 with
  | nil => exact False.elim g
  | cons q1 q2 =>
    cases q2 with
    | nil => exact False.elim g
    | cons q2 q3 =>
      cases q3 with
      | nil => exact False.elim g
      | cons q3 q4 =>
        cases q4 with
        | cons _ _ => exact False.elim g
        | nil => exact ⟨_, _, _, rfl, g _ γ1 H1 (t1.trans step_env) (rep_set (rep_set (rep_set R1 q1) q2) q3)⟩
end
@[simp] theorem e_parF3 (i j l : Nat) (mA : M (List SV)) (s : S) : parF3 i j l mA s = bnd mA (fun xs s => match xs with
  | [x, y, z] => .ok .nx { s with env := ((s.env.set i (some x)).set j (some y)).set l (some z) }
  | _ => .bad) s := rfl
end Fd
set_option Elab.async false
set_option linter.all false
set_option maxRecDepth 100000
set_option maxHeartbeats 4000000
namespace Fd
open PySem PySem.Spec PyProof.Rows L2
/-! ## an int in a tuple of ints -/
def inU (neg : Bool) : RV → RV → M RV
  | .sv (.dat (.int i)), .sv (.dat (.tup ds)) => fun s => match intsL (ds.map SV.dat) with
    | some is => .ok (RB (if neg then !(is.any fun j => decide (j = i)) else is.any fun j => decide (j = i))) s
    | none => .bad
  | _, _ => stuck
theorem inV_int (i : Int) : ∀ is : List Int, inV (.int i) (is.map V.int) = is.any fun j => decide (j = i)
  | [] => rfl
  | j :: is => by
    have ih := inV_int i is
    unfold inV at *
    rw [List.map_cons, List.any_cons, List.any_cons, ih]
    congr 1
theorem flat_ints : ∀ is : List Int, (is.map V.int).all flatV = true
  | [] => rfl
  | j :: is => by rw [List.map_cons, List.all_cons, flat_ints is]; rfl
section
variable {X : Cx} {ct : Nat → Addr} {W : WX} {pos : Pos} {a b : Expr} {ma mb : M RV}
theorem inU_ok (neg : Bool) : BinOk X ct (rIn X.K neg) (inU neg) := by
  intro W σ γ s H Ha Hb x y r1 r2 Q R q1 q2 h
  unfold inU at h
  split at h
  · rename_i i ds
    split at h
    · rename_i is e
      obtain ⟨p1, vs1, rfl, h1, w1⟩ := tup_rep q2
      have eu := intsL_rep (γ := γ) (n := 0) e (rep_map w1)
      subst eu
      refine ⟨p1, _, rfl, .inr h1, ?_, flat_ints is, ?_⟩
      · rw [rep_int q1]; rfl
      · rw [rep_int q1, inV_int]
        exact good_ok R (repB _) h
    · exact False.elim h
  · exact False.elim h
theorem td_inU (ha : ED X ct W a ma) (hb : ED X ct W b mb) (hm : behindInMarks .In b = false := by rfl) : TD X ct W (.Compare a [.In] [b] pos) (bnd (m2 ma mb (inU false)) asB) := td_cmp op_in_seq (inU_ok false) ha hb hm
end
@[simp] theorem e_inU (neg : Bool) (i : Int) (ds : List D) (s : S) : inU neg (RI i) (RT ds) s = match intsL (ds.map SV.dat) with
    | some is => .ok (RB (if neg then !(is.any fun j => decide (j = i)) else is.any fun j => decide (j = i))) s
    | none => .bad := rfl
end Fd
set_option Elab.async false
set_option linter.all false
set_option maxRecDepth 100000
set_option maxHeartbeats 4000000
/-! ## defaults of a class that are references -/
namespace Fd
open PySem PySem.Spec PyProof.Rows L2
def toV : Value → V
  | .ref a => .ref a
  | .int i _ => .int i
  | .bool b => .bl b
  | .str x _ => .str x
  | _ => .non
section
variable {K : PySem.W.Frag} {ct : Nat → Addr} {c : Nat} {mn q : Str} {st : Stmt} {C f T : Addr} {dd : List D}
theorem mthD2 {oc : Value} {od an : Option Addr} {osl : Array (Option Value)} {kV doc pm cdv ct1 : Value} {o2 : Value} {c2 : Option Addr} {its : Array Value} {n : Nat} {sl : Array (Option Value)} (hct : ct c = C) (a : PySem.W.findIn K (.ref C) mn = some (some (.ref f))) (t : PySem.W.typeIn K (.ref f) = some (.type "function")) (kp : PySem.W.keepIn K (.ref f) = true)
    (l : K.lookup f = some ⟨oc, od, .func (PySem.W.fnOf mn q (defArgs st) (defBody st) (defScope st) (.ref T) kV doc pm an cdv ct1), osl⟩) (cd : PySem.W.codeIn K cdv q = true) (lT : K.lookup T = some ⟨o2, c2, .seq its n, sl⟩) (hd : its.toList.map toV ≠ []) (hl : (its.toList.map toV).length = dd.length) (hv : Vals (its.toList.map toV) its.toList) (hr : ∀ H, RepDs K ct H (its.toList.map toV) dd) : MthD K ct c mn q st dd :=
  mthD1 hct a t kp l cd lT hd hl hv hr
end
end Fd
set_option Elab.async false
set_option linter.all false
set_option maxRecDepth 100000
set_option maxHeartbeats 4000000
/-! ## x is True, own __contains__ -/
namespace Fd
open PySem PySem.Spec PyProof.Rows L2
structure OkC (P : Program) (w : World) (K : PySem.W.Frag) (mg : Str → Option Value) (base : Heap) (ct : Nat → Addr) (c0 k : Nat) (F : List D → Res) : Prop where
  ex : ∃ (f : Addr) (fd : FuncData) (ps : List Str), PySem.W.findIn K (.ref (ct c0)) "__contains__" = some (some (.ref f)) ∧ PySem.W.isFn K (.ref f) = true ∧ FnOk P w K mg base (L2.CX P w) k f fd ps (spP K ct 2 F) ∧ Binds K fd ps []
section
variable {X : Cx} {ct : Nat → Addr} {W : WX} {a b : Expr} {ma mb : M RV} {pos : Pos} {c0 k : Nat} {F : List D → Res}
def isBM (x y : RV) : M RV := match x, y with
  | .sv (.dat (.bl a)), .sv (.dat (.bl b)) => pur (RB (decide (a = b)))
  | _, _ => stuck
@[simp] theorem e_isBM (a b : Bool) (s : S) : isBM (RB a) (RB b) s = .ok (RB (decide (a = b))) s := rfl
theorem isBM_ok : BinOk X ct (fun x y H Q => ∃ a b, x = .bl a ∧ y = .bl b ∧ Q (.bl (decide (a = b))) H) isBM := by
  intro W σ γ s H Ha Hb x y r1 r2 Q R q1 q2 h
  unfold isBM at h
  split at h
  · rename_i a b
    cases q1
    cases q2
    exact ⟨_, _, rfl, rfl, h _ γ H Step.refl R (repB _)⟩
  · exact False.elim h
theorem ed_isB (ha : ED X ct W a ma) (hb : ED X ct W b mb) : ED X ct W (.Compare a [.Is] [b] pos) (m2 ma mb isBM) := ed_cmp op_is_bl isBM_ok ha hb (nomark _)
theorem td_isB (ha : ED X ct W a ma) (hb : ED X ct W b mb) : TD X ct W (.Compare a [.Is] [b] pos) (bnd (m2 ma mb isBM) asB) := td_cmp op_is_bl isBM_ok ha hb (nomark _)
/-! ### in -/
def rInI (K : PySem.W.Frag) (ct : Nat → Addr) (c0 : Nat) (F : List D → Res) : R2 := fun x y H Q => ∃ a dx fs ds, y = .ref a ∧ H a = some (.ins (ct c0) dx fs) ∧ RepDs K ct H [y, x] ds ∧ ∃ b, F ds = .ret (.dat (.bl b)) ∧ ∀ H', Same H H' → Q (.bl b) H'
theorem op_inI (O : OkC X.prog X.w X.K X.mg X.base ct c0 k F) (hr : Room k X.A) : OpR X (compareOp .In) (rInI X.K ct c0 F) := by
  intro pins s σ H x y v u Q I rx ry h
  obtain ⟨a, dx, fs, ds, rfl, ea, rp, b, eb, q⟩ := h
  obtain ⟨f, fd, ps, hs, hf, FK, hb⟩ := O.ex
  cases (show u = Value.ref a from ry)
  obtain ⟨mA, J0, _⟩ := ins_get I.hok ea
  obtain ⟨od, J, _⟩ := J0.look
  obtain ⟨m, hF⟩ := I.fr
  refine PySem.W.in_K hF I.ok.mod.kin J hs hf ?_
  have sp : spP X.K ct 2 F [.ref a, x] H (fun z H' => z = .bl b ∧ Same H H') (WE WF σ) := ⟨rfl, ds, rp, by rw [eb]; exact fun z H' k r => ⟨by cases r; rfl, k⟩⟩
  refine wpAny_mono (run_okAt (vs := [.ref a, x]) (us := [.ref a, v]) FK hr I.env0 hb (passAt takes0 σ) I (.cons (show RelV (.ref a) (.ref a) from rfl) (.cons rx .nil)) sp) (fun w s' z => ?_) fun _ _ x => x
  obtain ⟨z', H', I', rz, rfl, k⟩ := z
  have : w = Value.bool b := rz
  subst this
  exact wpAny_truthy_bool ⟨V.bl b, H', I', (show RelV (.bl b) (.bool b) from rfl), q H' k⟩
def inOwnM (c0 : Nat) (F : List D → Res) : RV → RV → M RV
  | .sv (.dat x), .sv (.dat (.obj c ds)) => fun s => if c = c0 then match F [.obj c ds, x] with
    | .ret (.dat (.bl b)) => .ok (RB b) s
    | _ => .bad
    else .bad
  | _, _ => stuck
@[simp] theorem e_inOwn (c : Nat) (ds : List (Str × D)) (x : D) (s : S) : inOwnM c0 F (RD x) (RD (.obj c ds)) s = if c = c0 then match F [.obj c ds, x] with
    | .ret (.dat (.bl b)) => .ok (RB b) s
    | _ => .bad
    else .bad := rfl
theorem inOwnM_ok : BinOk X ct (rInI X.K ct c0 F) (inOwnM c0 F) := by
  intro W σ γ s H Ha Hb x y r1 r2 Q R q1 q2 h
  unfold inOwnM at h
  split at h
  · rename_i d c ds
    by_cases cc : c = c0
    · rw [if_pos cc] at h
      subst cc
      have q1' : RepD X.K ct H x d := q1
      have q2' : RepD X.K ct H y (.obj c ds) := q2
      split at h
      · rename_i b eb
        cases q2' with
        | obj ea nz en rp =>
          exact ⟨_, _, _, _, rfl, ea, .cons (.obj ea nz en rp) (.cons q1' .nil), b, eb, fun H' k => h _ γ H' (step_same k) (R.kept k) (repB _)⟩
      · exact False.elim h
    · rw [if_neg cc] at h; exact False.elim h
  · exact False.elim h
theorem td_inOwn (O : OkC X.prog X.w X.K X.mg X.base ct c0 k F) (hr : Room k X.A) (ha : ED X ct W a ma) (hb : ED X ct W b mb) (hm : behindInMarks .In b = false := by rfl) : TD X ct W (.Compare a [.In] [b] pos) (bnd (m2 ma mb (inOwnM c0 F)) asB) :=
  td_cmp (op_inI O hr) inOwnM_ok ha hb hm
theorem ed_inOwn (O : OkC X.prog X.w X.K X.mg X.base ct c0 k F) (hr : Room k X.A) (ha : ED X ct W a ma) (hb : ED X ct W b mb) (hm : behindInMarks .In b = false := by rfl) : ED X ct W (.Compare a [.In] [b] pos) (m2 ma mb (inOwnM c0 F)) :=
  ed_cmp (op_inI O hr) inOwnM_ok ha hb hm
end
section
variable {P : Program} {w : World} {K : PySem.W.Frag} {mg : Str → Option Value} {base : Heap} {ct : Nat → Addr} {c k : Nat} {q : Str} {st : Stmt} {N ps : List Str} {m : M Fl}
theorem okCon (T : MthT K ct c "__contains__" q st []) (S : FnScope N ps (defScope st)) (h2 : ps.length = 2)
    (hbd : ∀ (kV doc pm : Value) (an : Option Addr) (cdv ct : Value) (us : List Value), us.length = ps.length → bindArgs (PySem.W.fnOf "__contains__" q (defArgs st) (defBody st) (defScope st) .none kV doc pm an cdv ct) ⟨us, []⟩ = pure (ps.zip us))
    (hb : ∀ (f : Addr) (cdv : Value) (A : Around) (outer : List Env) (s : Shared) (H : Hp) (E : XK), Room k (A.deeper (envOfC q (defScope st) s.heap.objs.size f cdv)) →
      SDs (cxOf (L2.CX P w) P w K mg base N q (defScope st) f cdv A outer s H E) ct (fun cls d _ H => E cls d H) (defBody st) m) : OkC P w K mg base ct c (k + 1) (runP N.length m) := by
  obtain ⟨f, fd, hm, F⟩ := T.ex
  exact ⟨f, fd, ps, hm.at_, hm.fn, by have := fnP F S (hb f); rwa [h2] at this, F.bindsN hbd⟩
end
end Fd
set_option Elab.async false
set_option linter.all false
set_option maxRecDepth 100000
set_option maxHeartbeats 4000000
/-! ## defs that are handed on as data -/
namespace Fd
open PySem PySem.Spec PyProof.Rows L2
def isArg : SV → Bool
  | .dat _ => true
  | .fn _ => true
  | _ => false
@[simp] theorem ia_dat (d : D) : isArg (.dat d) = true := rfl
@[simp] theorem ia_fn (c : Nat) : isArg (.fn c) = true := rfl
section
variable {K : PySem.W.Frag} {ct : Nat → Addr}
def RepF (K : PySem.W.Frag) (ct : Nat → Addr) (H : Hp) (v : V) : SV → Prop
  | .dat d => RepD K ct H v d
  | .fn c => v = .ref (ct c)
  | _ => False
def spV (K : PySem.W.Frag) (ct : Nat → Addr) (n : Nat) (F : List SV → Res) : Sp := fun vs H Q E => vs.length = n ∧ ∃ xs, Paired (RepF K ct H) vs xs ∧ GoodP K ct H (F xs) Q E
theorem repF_of {γ : G} {n : Nat} {H : Hp} : ∀ {xs : List SV} {vs : List V}, xs.all isArg = true → Paired (RepS K ct γ n H) vs xs → Paired (RepF K ct H) vs xs := by
  intro xs
  induction xs with
  | nil => intro vs _ h; cases h; exact .nil
  | cons x xs ih =>
    intro vs a h
    rw [List.all_cons, Bool.and_eq_true] at a
    cases h with
    | cons r t =>
      refine .cons ?_ (ih a.2 t)
      cases x with
      | dat d => exact r
      | fn c => exact r
      | hand => exact absurd a.1 (by simp [isArg])
      | ref k => exact absurd a.1 (by simp [isArg])
end
def startV (n : Nat) (xs : List SV) : S := ⟨xs.map some ++ List.replicate (n - xs.length) none, [], none⟩
def runV (n : Nat) (m : M Fl) (xs : List SV) : Res := resP (m (startV n xs))
def callV (n : Nat) (F : List SV → Res) (xs : List SV) : M RV := if xs.all isArg = true ∧ xs.length = n then toRes (F xs) else stuck
@[simp] theorem e_callV (n : Nat) (F : List SV → Res) (xs : List SV) (s : S) : callV n F xs s = if xs.all isArg = true ∧ xs.length = n then toRes (F xs) s else .bad := by
  unfold callV
  split <;> rfl
@[simp] theorem e_runV (n : Nat) (m : M Fl) (xs : List SV) : runV n m xs = resP (m (startV n xs)) := rfl
@[simp] theorem e_startV (n : Nat) (xs : List SV) : startV n xs = ⟨xs.map some ++ List.replicate (n - xs.length) none, [], none⟩ := rfl
structure OkV (P : Program) (w : World) (K : PySem.W.Frag) (mg : Str → Option Value) (base : Heap) (ct : Nat → Addr) (x : Str) (n k : Nat) (F : List SV → Res) : Prop where
  ex : ∃ (f : Addr) (fd : FuncData) (ps : List Str), ps.length = n ∧ mg x = some (.ref f) ∧ PySem.W.keepIn K (.ref f) = true ∧ FnOk P w K mg base (L2.CX P w) k f fd ps (spV K ct n F) ∧ Binds K fd ps []
section
variable {P : Program} {w : World} {K : PySem.W.Frag} {mg : Str → Option Value} {base : Heap} {ct : Nat → Addr} {k : Nat} {x : Str} {st : Stmt} {N ps : List Str} {m : M Fl}
theorem okV (T : FnT K mg x st []) (S : FnScope N ps (defScope st))
    (hbd : ∀ (kV doc pm : Value) (an : Option Addr) (cdv ct : Value) (us : List Value), us.length = ps.length → bindArgs (PySem.W.fnOf x x (defArgs st) (defBody st) (defScope st) .none kV doc pm an cdv ct) ⟨us, []⟩ = pure (ps.zip us))
    (hb : ∀ (f : Addr) (cdv : Value) (A : Around) (outer : List Env) (s : Shared) (H : Hp) (E : XK), Room k (A.deeper (envOfC x (defScope st) s.heap.objs.size f cdv)) →
      SDs (cxOf (L2.CX P w) P w K mg base N x (defScope st) f cdv A outer s H E) ct (fun cls d _ H => E cls d H) (defBody st) m) : OkV P w K mg base ct x ps.length (k + 1) (runV N.length m) := by
  obtain ⟨f, fd, hm, F⟩ := T.ex
  refine ⟨f, fd, ps, rfl, hm, F.kp, ?_, F.bindsN hbd⟩
  refine F.ok S (fun vs H Q E h => h.1) fun cdv A outer s H vs Q E hr h => ?_
  obtain ⟨hl, xs, rp, g⟩ := h
  obtain ⟨t, p, r⟩ := (hb f cdv A outer s H E hr).ex
  refine ⟨t, p, ?_⟩
  let γ0 : G := ⟨fun _ => 0, 0, 0⟩
  have rp' : Paired (RepS K ct γ0 0 H) vs xs := Paired.mapP rp fun v y q => by
    cases y with
    | dat d => exact q
    | fn c => exact q
    | hand => exact False.elim q
    | ref k => exact False.elim q
  have R0 : Rep K ct γ0 H (L2.start N vs) (startV N.length xs) := start_rep rp' (fun h e => by cases e)
  refine r _ _ _ γ0 _ R0 ?_
  have noOwn : ∀ a, ¬ Own γ0 (startV N.length xs) a := fun a z => by
    rcases z with ⟨j, ⟨ys, e⟩, _⟩ | ⟨z, _⟩
    · simp [startV] at e
    · exact z rfl
  have same : ∀ {γ' s' H'}, Step γ0 γ' (startV N.length xs) s' H H' → Same H H' := fun st a o e => st.keep a o e (noOwn a)
  unfold runV at g
  unfold GoodS
  cases e1 : m (startV N.length xs) with
  | bad => rw [e1] at g; exact g
  | exc y s1 =>
    rw [e1] at g
    exact fun cl d σ' γ' H' st R' q => g cl d H' (same st) q
  | ok fl s1 =>
    rw [e1] at g
    cases fl with
    | nx => exact fun σ' γ' H' st R' => g .non H' (same st) RepD.non
    | bk => exact False.elim g
    | ct => exact False.elim g
    | rt rr =>
      intro v σ' γ' H' st R' q
      unfold resP at g
      cases e2 : resV s1 rr with
      | none => simp only [e2] at g; exact False.elim g
      | some z => simp only [e2] at g; exact g v H' (same st) (resV_rep e2 st rfl R' q)
end
section
variable {X : Cx} {ct : Nat → Addr} {W : WX} {pos p : Pos} {x y : Str} {e : Expr} {es : List Expr} {mA : M (List SV)} {k n i c0 : Nat} {F : List D → Res} {FV : List SV → Res}
theorem ed_callV (O : OkV X.prog X.w X.K X.mg X.base ct x n k FV) (hr : Room k X.A) (tk : Takes X W) (ha : AD X ct W (e :: es) mA) (hg : Gl X x := by rfl) (hdb : (x == ("__debug__" : Str)) = false := by decide) (he : starEach (e :: es) X.env = (false, eval e X.env) :: starEach es X.env := by rfl) (hpl : (backTo pos (starEach es X.env)).any (·.1) = false := by rfl) :
    ED X ct W (.Call (.Name x p) (e :: es) [] pos) (bnd mA (callV n FV)) := by
  obtain ⟨f, fd, ps, rfl, hm, hk, FK, hb⟩ := O.ex
  obtain ⟨t, pt, r⟩ := ha.ex
  refine ⟨_, pe_callSD FK hr hg hm hk hb .nil (fun σ => passAt tk σ) pt hdb he hpl, fun σ H γ s Q R h => ?_⟩
  refine r σ H γ s _ R (use_a h (fun _ _ z => z) fun xs s1 vs γ1 H1 t1 R1 q1 g => ?_)
  show spV X.K ct ps.length FV (vs ++ []) H1 Q _
  rw [List.append_nil]
  unfold callV at g
  by_cases c : xs.all isArg = true ∧ xs.length = ps.length
  · rw [if_pos c] at g
    exact ⟨by rw [Paired.length q1]; exact c.2, xs, repF_of c.1 q1, good_res R1 (Good.step t1 g)⟩
  · rw [if_neg c] at g; exact False.elim g
theorem ed_fn {c : Nat} (hm : X.mg x = some (.ref (ct c))) (hg : Gl X x := by rfl) (hd : (x == ("__debug__" : Str)) = false := by decide) : ED X ct W (.Name x pos) (pur (.sv (.fn c))) :=
  ⟨_, pe_glob hg hm (v := .ref (ct c)) rfl hd, fun σ H γ s Q R h => h (.ref (ct c)) γ H Step.refl R rfl⟩
def callR (n : Nat) (F : List D → Res) (xs : List SV) : M RV := match datL xs with
  | some ds => if ds.length = n then match F ds with
    | .ret r => toRes (.ret r)
    | _ => stuck
    else stuck
  | none => stuck
def callL (i c0 n : Nat) (F : List D → Res) (mA : M (List SV)) : M RV := fun s => match s.env[i]? with
  | some (some (.fn c)) => if c = c0 then bnd mA (callR n F) s else .bad
  | _ => .bad
@[simp] theorem e_callR (n : Nat) (F : List D → Res) (xs : List SV) (s : S) : callR n F xs s = match datL xs with
  | some ds => if ds.length = n then match F ds with
    | .ret r => toRes (.ret r) s
    | _ => .bad
    else .bad
  | none => .bad := by
  unfold callR
  cases datL xs with
  | none => rfl
  | some ds =>
    dsimp only
    split
    · cases F ds <;> rfl
    · rfl
@[simp] theorem e_callL (i c0 n : Nat) (F : List D → Res) (mA : M (List SV)) (s : S) : callL i c0 n F mA s = match s.env[i]? with
  | some (some (.fn c)) => if c = c0 then bnd mA (callR n F) s else .bad
  | _ => .bad := rfl
theorem ed_callL (i : Nat) (O : OkP X.prog X.w X.K X.mg X.base ct y n k F []) (hc : X.mg y = some (.ref (ct c0))) (hr : Room k X.A) (ha : AD X ct W (e :: es) mA) (hN : X.N[i]? = some x := by rfl) (hv : Vis X.env.scope x := by first | exact Or.inl rfl | exact Or.inr (Or.inl rfl) | exact Or.inr (Or.inr rfl))
    (hdb : (x == ("__debug__" : Str)) = false := by decide) (hcd : (x == ("__classdict__" : Str)) = false := by decide)
    (he : starEach (e :: es) X.env = (false, eval e X.env) :: starEach es X.env := by rfl) (hpl : (backTo pos (starEach es X.env)).any (·.1) = false := by rfl) :
    ED X ct W (.Call (.Name x p) (e :: es) [] pos) (callL i c0 n F mA) := by
  obtain ⟨f, fd, ps, ds, dvs, rfl, hm, hk, FK, hb, hd, hdd⟩ := O.ex
  have ef : f = ct c0 := by
    rw [hm] at hc
    cases hc
    rfl
  obtain ⟨t, pt, r⟩ := ha.ex
  refine ⟨_, pe_callL (E := fun _ _ _ => False) FK hr hN hv hk hb hd (fun _ _ _ _ _ _ _ z => by obtain ⟨_, _, _, _, _, _, _, _, _, _, _, _, hf⟩ := z; exact hf.elim) pt hdb hcd he hpl, fun σ H γ s Q R h => ?_⟩
  unfold callL at h
  cases e1 : s.env[i]? with
  | none => rw [e1] at h; exact False.elim h
  | some o =>
    cases o with
    | none => rw [e1] at h; exact False.elim h
    | some z =>
      cases z with
      | dat d => rw [e1] at h; exact False.elim h
      | ref j => rw [e1] at h; exact False.elim h
      | hand => rw [e1] at h; exact False.elim h
      | fn c =>
        rw [e1] at h
        dsimp only at h
        by_cases cc : c = c0
        · rw [if_pos cc] at h
          subst cc
          obtain ⟨v, q, rv⟩ := R.env i _ e1
          have rv' : v = .ref (ct c) := rv
          refine ⟨by rw [q, rv', ef], r σ H γ s _ R (use_a h (fun _ _ z => z) fun xs s1 vs γ1 H1 t1 R1 q1 g => ?_)⟩
          unfold callR at g
          cases e2 : datL xs with
          | none => simp only [e2] at g; exact False.elim g
          | some es =>
            simp only [e2] at g
            by_cases c2 : es.length = ps.length
            · rw [if_pos c2] at g
              have w := (datL_rep e2 q1).append (hdd H1)
              rw [List.append_nil] at w
              refine ⟨by rw [w.length]; exact c2, es, w, ?_⟩
              cases e3 : F es with
              | bad => simp only [e3] at g; exact False.elim g
              | exc y => simp only [e3] at g; exact False.elim g
              | ret rr =>
                simp only [e3] at g
                have gg := good_res R1 (Good.step t1 g)
                cases rr with
                | dat d => exact gg
                | new ds => exact gg
            · rw [if_neg c2] at g; exact False.elim g
        · rw [if_neg cc] at h; exact False.elim h
end
end Fd
set_option Elab.async false
set_option linter.all false
set_option maxRecDepth 100000
set_option maxHeartbeats 4000000
namespace Fd
open PySem PySem.Spec PyProof.Rows L2
/-! ## x.m, a property whose getter raises nothing -/
structure OkProp (P : Program) (w : World) (K : PySem.W.Frag) (mg : Str → Option Value) (base : Heap) (ct : Nat → Addr) (c0 : Nat) (mn : Str) (k : Nat) (F : List D → Res) : Prop where
  ex : ∃ (p g : Addr) (fd : FuncData) (ps : List Str), ps.length = 1 ∧ PropOf K (ct c0) mn p g ∧ FnOk P w K mg base (L2.CX P w) k g fd ps (spP K ct 1 F) ∧ Binds K fd ps []
structure PrpT (K : PySem.W.Frag) (ct : Nat → Addr) (c : Nat) (m q : Str) (st : Stmt) : Prop where
  ex : ∃ (p g : Addr) (fd : FuncData), PropOf K (ct c) m p g ∧ FunD K m q (defArgs st) (defBody st) (defScope st) [] [] g fd
def resD : Res → M RV
  | .ret r => toRes (.ret r)
  | _ => stuck
def propM (c0 : Nat) (F : List D → Res) (mo : M RV) : M RV := bnd mo fun x => match x with
  | .sv (.dat (.obj c ds)) => if c = c0 then resD (F [.obj c ds]) else stuck
  | _ => stuck
section
variable {X : Cx} {ct : Nat → Addr} {W : WX} {pos : Pos} {o : Expr} {mo : M RV} {c0 k : Nat} {F : List D → Res} {mn : Str}
theorem ed_prop (T : ClsT X.K ct c0) (O : OkProp X.prog X.w X.K X.mg X.base ct c0 mn k F) (hr : Room (k + 1) X.A) (ho : ED X ct W o mo)
    (hab : attributeBase o mn X.env (eval o X.env) = eval o X.env := by rfl) : ED X ct W (.Attribute o mn pos) (propM c0 F mo) := by
  obtain ⟨p, g, fd, ps, hn, hp, FK, hb⟩ := O.ex
  obtain ⟨to, po, ro⟩ := ho.ex
  refine ⟨_, pe_prop (E := fun _ _ _ => False) po T.cls hp FK hr hb .nil (fun pins σ H s e s' I h => ?_) hab, fun σ H γ s Q R h => ?_⟩
  · obtain ⟨a, B, H', cls, d, _, _, _, _, _, _, _, z⟩ := h
    exact z.elim
  · refine ro σ H γ s _ R (use_e h (fun _ _ z => z) fun x s1 v γ1 H1 t1 R1 q1 g => ?_)
    split at g
    · rename_i c ds
      by_cases cc : c = c0
      · rw [if_pos cc] at g
        subst cc
        have q1' : RepD X.K ct H1 v (.obj c ds) := q1
        have q2 := q1'
        cases q1' with
        | obj ea nf en rp =>
          refine ⟨_, _, _, rfl, ea, rfl, [.obj c ds], .cons q2 .nil, ?_⟩
          have g1 := Good.step t1 g
          cases e : F [.obj c ds] with
          | bad => rw [e] at g1; exact False.elim g1
          | exc x => rw [e] at g1; exact False.elim g1
          | ret r => rw [e] at g1; exact (show GoodP X.K ct H1 (.ret r) Q (fun _ _ _ => False) from good_res (W := W) (σ := σ) R1 g1)
      · rw [if_neg cc] at g; exact False.elim g
    · exact False.elim g
end
section
variable {P : Program} {w : World} {K : PySem.W.Frag} {mg : Str → Option Value} {base : Heap} {ct : Nat → Addr} {c k : Nat} {mn q : Str} {st : Stmt} {N ps : List Str} {m : M Fl}
theorem okProp (T : PrpT K ct c mn q st) (S : FnScope N ps (defScope st)) (h1 : ps.length = 1)
    (hbd : ∀ (kV doc pm : Value) (an : Option Addr) (cdv ct : Value) (us : List Value), us.length = ps.length → bindArgs (PySem.W.fnOf mn q (defArgs st) (defBody st) (defScope st) .none kV doc pm an cdv ct) ⟨us, []⟩ = pure (ps.zip us))
    (hb : ∀ (f : Addr) (cdv : Value) (A : Around) (outer : List Env) (s : Shared) (H : Hp) (E : XK), Room k (A.deeper (envOfC q (defScope st) s.heap.objs.size f cdv)) →
      SDs (cxOf (L2.CX P w) P w K mg base N q (defScope st) f cdv A outer s H E) ct (fun cls d _ H => E cls d H) (defBody st) m) : OkProp P w K mg base ct c mn (k + 1) (runP N.length m) := by
  obtain ⟨p, g, fd, hp, F⟩ := T.ex
  have Z := fnP (ct := ct) F S (hb g)
  rw [h1] at Z
  exact ⟨p, g, fd, ps, h1, hp, Z, F.bindsN hbd⟩
end
@[simp] theorem e_propM (c0 : Nat) (F : List D → Res) (mo : M RV) (s s1 : S) (ds : List (Str × D)) (h : mo s = .ok (.sv (.dat (.obj c0 ds))) s1) : propM c0 F mo s = resD (F [.obj c0 ds]) s1 := by
  unfold propM bnd
  rw [h]
  simp
end Fd
set_option Elab.async false
set_option linter.all false
set_option maxRecDepth 100000
set_option maxHeartbeats 4000000
/-! ## repr of data; defs that are only called where no repr is under way -/
namespace Fd
open PySem PySem.Spec PyProof.Rows L2
/-! ### repr -/
mutual
def D.rb : D → Nat
  | .non => 4
  | .bl _ => 5
  | .int _ => 2000
  | .str x => 10 * x.length + 2
  | .tup ds => D.rbs ds + 3
  | .lst ds => D.rbs ds + 3
  | .obj _ _ => 0
  | .dct _ => 0
  | .dcp _ => 0
def D.rbs : List D → Nat
  | [] => 0
  | d :: ds => D.rb d + 2 + D.rbs ds
end
def D.isSq : D → Bool
  | .tup _ => true
  | .lst _ => true
  | _ => false
def repOk (d : D) : Bool := d.isSq && d.py.canLay0 && d.py.showable && decide (d.rb ≤ 1000000) && decide (d.py.depth ≤ 50)
def reprD (d : D) : Str := d.py.shown
theorem textFrom_up : ∀ (ts : List Str) (k : Nat) (acc : Str), (textFrom k acc ts).length ≤ acc.length + piled ts
  | [], k, acc => by show acc.length ≤ _; omega
  | t :: r, k, acc => by
    have h := textFrom_up r (k + 1) (acc ++ (if k > 0 then ", " else "" : String) ++ t)
    have e : (acc ++ (if k > 0 then ", " else "" : String) ++ t).length ≤ acc.length + 2 + t.length := by
      rw [strLen_append, strLen_append]
      have : ((if k > 0 then ", " else "" : String) : Str).length ≤ 2 := by split <;> decide
      omega
    show (textFrom (k + 1) (acc ++ (if k > 0 then ", " else "" : String) ++ t) r).length ≤ _
    rw [piled_cons]
    omega
theorem listText_up (ts : List Str) : (listText ts).length ≤ piled ts + 3 := by
  unfold listText
  rw [strLen_append]
  have h := textFrom_up ts 0 "["
  have e1 : (("[" : String) : Str).length = 1 := rfl
  have e2 : (("]" : String) : Str).length = 1 := rfl
  omega
theorem tupleText_up (ts : List Str) : (tupleText ts).length ≤ piled ts + 3 := by
  unfold tupleText
  rw [strLen_append, strLen_append]
  have e1 : ((("(" : String) : Str)).length = 1 := rfl
  have e3 : (((if ts.length == 1 then ",)" else ")" : String) : Str)).length ≤ 2 := by split <;> decide
  rw [e1]
  by_cases h : ts = []
  · subst h
    have : (Str.join ", " ([] : List Str)).length = 0 := rfl
    omega
  · have := join_length_add ts h
    omega
mutual
theorem shown_up : ∀ d : D, d.py.canLay0 = true → d.py.showable = true → d.py.shown.length ≤ d.rb
  | .non, _, _ => by simp only [D.py, PyData.shown, D.rb]; decide
  | .bl b, _, _ => by cases b <;> (simp only [D.py, PyData.shown, D.rb]; decide)
  | .int i, _, h => by
    have h' : i.natAbs.log2 < 1920 := by simpa [D.py, PyData.showable] using h
    have := int_text_length_le (k := 1920) (by decide) h'
    simp only [D.py, PyData.shown, D.rb]
    rw [PySem.ofString_length]
    omega
  | .str x, h, _ => by
    have h' : PySem.PyData.strOk x = true := by simpa [D.py, PyData.canLay0] using h
    simp only [D.py, PyData.shown, D.rb]
    refine StrLaws.reprText_len x fun c hc => ?_
    unfold PySem.PyData.strOk at h'
    have := Array.all_eq_true_iff_forall_mem.mp h' c (Array.mem_toList_iff.mp hc)
    simp only [decide_eq_true_eq] at this
    have e : (0x110000 : Nat) ≤ 16 ^ 8 := by decide
    omega
  | .tup ds, h, h2 => by
    have a : PyData.canLayAll0 (D.pys ds) = true := by simpa [D.py, PyData.canLay0] using h
    have b : PyData.showableAll (D.pys ds) = true := by simpa [D.py, PyData.showable] using h2
    have := shown_ups ds a b
    have := tupleText_up (PyData.shownAll (D.pys ds))
    simp only [D.py, PyData.shown, D.rb]
    omega
  | .lst ds, h, h2 => by
    have a : PyData.canLayAll0 (D.pys ds) = true := by simpa [D.py, PyData.canLay0] using h
    have b : PyData.showableAll (D.pys ds) = true := by simpa [D.py, PyData.showable] using h2
    have := shown_ups ds a b
    have := listText_up (PyData.shownAll (D.pys ds))
    simp only [D.py, PyData.shown, D.rb]
    omega
  | .obj _ _, h, _ => by simp [D.py, PyData.canLay0] at h
  | .dct _, h, _ => by simp [D.py, PyData.canLay0] at h
  | .dcp _, h, _ => by simp [D.py, PyData.canLay0] at h
theorem shown_ups : ∀ ds : List D, PyData.canLayAll0 (D.pys ds) = true → PyData.showableAll (D.pys ds) = true → piled (PyData.shownAll (D.pys ds)) ≤ D.rbs ds
  | [], _, _ => by simp [D.pys, PyData.shownAll, piled, D.rbs]
  | d :: ds, h, h2 => by
    have a : d.py.canLay0 = true ∧ PyData.canLayAll0 (D.pys ds) = true := by simpa [D.pys, PyData.canLayAll0] using h
    have b : d.py.showable = true ∧ PyData.showableAll (D.pys ds) = true := by simpa [D.pys, PyData.showableAll] using h2
    have h3 := shown_up d a.1 b.1
    have h4 := shown_ups ds a.2 b.2
    simp only [D.pys, PyData.shownAll, D.rbs]
    rw [piled_cons]
    omega
end
def rRepr (K : PySem.W.Frag) : List V → Hp → VK → Prop := fun vs H Q => ∃ (a : Addr) (d : PyData), vs = [.ref a] ∧ Dp K H (.ref a) d ∧ d.hasDict = false ∧ d.showable = true ∧ d.shown.length ≤ sizeLine ∧ d.depth ≤ 50 ∧ Q (.str d.shown) H
theorem cr_repr {X : Cx} (hg : X.A.guards = some []) (hu : X.A.units + 64 < cLine) : CallR X (.builtin "repr") (rRepr X.K) := by
  intro pins s σ H vs us Q I r h
  obtain ⟨a, d, rfl, hd, hn, hs, hz, hp, q⟩ := h
  rw [Vals.ref1 r]
  obtain ⟨as, rd⟩ := Dp.reads I d (.ref a) (.ref a) hd rfl
  refine repr_of_reads' rd hs (PyData.noDict_hsm hn) hg (by omega) (fun _ _ e => e) (fun h' u tk hk => ?_) hz
  exact ⟨.str d.shown, H, I.kept hk, ⟨u, rfl⟩, q⟩
/-- data of a value whose items may be the state's own lists -/
def deepL (s : S) : List SV → Option (List D)
  | [] => some []
  | x :: xs => match deep s (.sv x), deepL s xs with
    | some d, some ds => some (d :: ds)
    | _, _ => none
def deep2 (s : S) : RV → Option D
  | .new xs => (deepL s xs).map D.lst
  | .sv x => deep s (.sv x)
section
variable {K : PySem.W.Frag} {ct : Nat → Addr} {γ : G} {s : S} {H H0 : Hp} {σ : L2.St}
theorem deepL_dp (R : Rep K ct γ H σ s) : ∀ {xs : List SV} {vs : List V} {ds : List D}, deepL s xs = some ds → PyData.canLayAll0 (D.pys ds) = true → Paired (RepS K ct γ s.mem.length H) vs xs → DpAll K H vs (D.pys ds)
  | [], _, ds, e, _, q => by
    cases q
    cases e
    exact .nil
  | x :: xs, _, ds, e, c, q => by
    cases q with
    | cons q1 q2 =>
      unfold deepL at e
      cases e1 : deep s (.sv x) with
      | none => simp only [e1] at e; cases e
      | some d =>
        cases e2 : deepL s xs with
        | none => simp only [e1, e2] at e; cases e
        | some es =>
          simp only [e1, e2] at e
          cases e
          have c' : d.py.canLay0 = true ∧ PyData.canLayAll0 (D.pys es) = true := by simpa [D.pys, PyData.canLayAll0] using c
          exact .cons (deep_dp (H0 := H) R e1 c'.1 q1) (deepL_dp R e2 c'.2 q2)
theorem deep2_dp (R : Rep K ct γ H σ s) {r : RV} {v : V} {d : D} (e : deep2 s r = some d) (c : d.py.canLay0 = true) (q : RepR K ct γ s H0 H v r) : Dp K H v d.py := by
  cases r with
  | sv x => exact deep_dp R e c q
  | new xs =>
    obtain ⟨a, vs, rfl, _, ea, _, p⟩ := q
    have e : (deepL s xs).map D.lst = some d := e
    cases e1 : deepL s xs with
    | none => rw [e1] at e; cases e
    | some ds =>
      rw [e1] at e
      cases e
      have c' : PyData.canLayAll0 (D.pys ds) = true := by simpa [D.py, PyData.canLay0] using c
      exact .lst (.inl (.inl ea)) (deepL_dp R e1 c' p)
theorem deep_ref (R : Rep K ct γ H σ s) {r : RV} {v : V} {d : D} (e : deep2 s r = some d) (c : d.py.canLay0 = true) (q : RepR K ct γ s H0 H v r) (z : d.isSq = true) : ∃ a, v = .ref a := by
  have h := deep2_dp R e c q
  cases d with
  | tup ds => simp only [D.py] at h; cases h; exact ⟨_, rfl⟩
  | lst ds => simp only [D.py] at h; cases h; exact ⟨_, rfl⟩
  | _ => cases z
end
def reprM : RV → M RV := fun r s => match deep2 s r with
  | some d => if repOk d then .ok (RS (reprD d)) s else .bad
  | none => .bad
section
variable {X : Cx} {ct : Nat → Addr} {W : WX} {pos p : Pos} {e : Expr} {m : M RV} {k : Nat}
theorem ed_repr (hgu : X.A.guards = some []) (hr : Room k X.A) (h : ED X ct W e m) (hm : X.mg "repr" = none) (hg : Gl X "repr" := by rfl) (he : starEach [e] X.env = (false, eval e X.env) :: starEach [] X.env := by rfl) (hpl : (backTo pos (starEach [] X.env)).any (·.1) = false := by rfl) :
    ED X ct W (.Call (.Name "repr" p) [e] [] pos) (bnd m reprM) := by
  obtain ⟨t, pt, r⟩ := h.ex
  refine ⟨_, pe_callB (cr_repr hgu hr.units) hg hm rfl (pa_cons pt pa_nil he) (by decide) (by decide) he hpl, fun σ H γ s Q R h => ?_⟩
  refine r σ H γ s _ R (use_e h (fun _ _ z => z) fun x s1 v γ1 H1 t1 R1 q1 g => ?_)
  unfold reprM at g
  cases ed : deep2 s1 x with
  | none => simp only [ed] at g; exact False.elim g
  | some d =>
    simp only [ed] at g
    by_cases c : repOk d = true
    · rw [if_pos c] at g
      unfold repOk at c
      simp only [Bool.and_eq_true, decide_eq_true_eq] at c
      obtain ⟨⟨⟨⟨c1, c2⟩, c3⟩, c4⟩, c5⟩ := c
      obtain ⟨a, rfl⟩ := deep_ref R1 ed c2 q1 c1
      have up := shown_up d c2 c3
      refine ⟨a, d.py, rfl, deep2_dp R1 ed c2 q1, PyData.hasDict_of_canLay _ c2, c3, Nat.le_trans up (Nat.le_trans c4 (by decide)), c5, g _ γ1 H1 t1 R1 (RepD.str _)⟩
    · rw [if_neg c] at g; exact False.elim g
/-- x.extend(e) on an own list by a list just made -/
def extM (mo me : M RV) : M RV := bnd mo fun x => match x with
  | .sv (.ref k) => fun s0 => match s0.mem[k]? with
    | some (some _) => bnd me (fun y => match y with
      | .new ys => fun s => match s.mem[k]? with
        | some (some xs) => if xs.length + ys.length < 100000 then .ok RN { s with mem := s.mem.set k (some (xs ++ ys)) } else .bad
        | _ => .bad
      | _ => stuck) s0
    | _ => .bad
  | _ => stuck
theorem ed_extend {apos : Pos} {o : Expr} {mo : M RV} (ho : ED X ct W o mo) (he : ED X ct W e m) (hs : starEach [e] X.env = [(false, eval e X.env)] := by rfl) (hbase : attributeBase o "extend" X.env (eval o X.env) = eval o X.env := by rfl) (hline : (apos.endLine == pos.line) = true := by rfl)
    (hfew : ((backTo pos (starEach [e] X.env)).all (fun x => !x.1) && (backToKw pos (keywordEach [] X.env)).all (fun x => x.1.isSome) && decide ([e].length + ([] : List Keyword).length + (if ([] : List Keyword).isEmpty then 0 else 1) < 30)) = true := by rfl) :
    ED X ct W (.Call (.Attribute o "extend" apos) [e] [] pos) (extM mo m) := by
  obtain ⟨to, po, ro⟩ := ho.ex
  obtain ⟨te, pe, re⟩ := he.ex
  refine ⟨_, pe_bm PySem.F.plainAttrs_list PySem.F.slot_list_extend PySem.F.type_list_extend mt_extend po (pa_cons pe pa_nil hs) hbase hfew hline hs rfl, fun σ H γ s Q R h => ?_⟩
  refine ro σ H γ s _ R (use_e h (fun _ _ z => z) fun x s1 v γ1 H1 t1 R1 q1 g => ?_)
  split at g
  · rename_i k
    have q1' : k < s1.mem.length ∧ v = .ref (γ1.kp k) := q1
    obtain ⟨hk, rfl⟩ := q1'
    split at g
    · rename_i xs0 e0
      obtain ⟨vs0, ek0, _⟩ := R1.mem k xs0 e0
      refine ⟨.inl ⟨rfl, vs0, SqL.of ek0⟩, ?_⟩
      refine re σ H1 γ1 s1 _ R1 (use_e (Good.step t1 g) (fun _ _ z => z) fun y s2 w γ2 H2 t2 R2 q2 g2 => ?_)
      cases y with
      | sv d => exact False.elim g2
      | new ys =>
        dsimp only at g2
        obtain ⟨b, us, rfl, _, eb, _, pb⟩ := q2
        cases e1 : s2.mem[k]? with
        | none => simp only [e1] at g2; exact False.elim g2
        | some ox =>
          cases ox with
          | none => simp only [e1] at g2; exact False.elim g2
          | some xs =>
            simp only [e1] at g2
            by_cases cl : xs.length + ys.length < 100000
            · rw [if_pos cl] at g2
              obtain ⟨vs, ek, pr⟩ := R2.mem k xs e1
              have kp : γ2.kp k = γ1.kp k := t2.kp k hk
              obtain ⟨st, R3⟩ := own_step R2 e1 (RepDs.appendS pr pb)
              rw [kp] at st R3 ek
              exact ⟨_, b, vs, us, rfl, rfl, ek, eb, by rw [Paired.length pr, Paired.length pb]; exact Nat.le_trans (Nat.le_of_lt cl) (by decide), g2 _ γ2 _ (t2.trans st) R3 RepD.non⟩
            · rw [if_neg cl] at g2; exact False.elim g2
    · exact False.elim g
  · exact False.elim g
end
end Fd
set_option Elab.async false
set_option linter.all false
set_option maxRecDepth 100000
set_option maxHeartbeats 4000000
/-! ## defs that are only called where no repr is under way (A.guards = some []) -/
namespace Fd
open PySem PySem.Spec PyProof.Rows L2
/-- as FnOk, but it is only called where no repr of a container is under way -/
structure FnG (P : Program) (w : World) (K : PySem.W.Frag) (mg : Str → Option Value) (base : Heap) (CX : CXT) (k : Nat) (f : Addr) (fd : FuncData) (ps : List Str) (sp : Sp) : Prop where
  len : ∀ vs H Q E, sp vs H Q E → vs.length = ps.length
  run : ∀ (A : Around) (outer : List Env) (s : Shared) (H : Hp) (args : Args) (us : List Value) (vs : List V) (Q : VK) (E : XK), A.guards = some [] → Room k A → Env0 P w K mg base A outer s H → BindsTo s fd args (ps.zip us) → Vals vs us → sp vs H Q E →
    codeAny (model P w) A (.call (.ref f) args) (CR CX outer P w H s Q E) s
section
variable {P : Program} {w : World} {K : PySem.W.Frag} {mg : Str → Option Value} {base : Heap} {x qual : Str} {params : Arguments} {body : List Stmt} {scope : Scope} {dvs : List V} {kws : List (Str × V)} {f : Addr} {fd : FuncData}
/-- a def by its body, where the body may look for repr's guards -/
theorem fnD_okG {CX : CXT} {N ps : List Str} {k : Nat} {sp : Sp} (F : FunD K x qual params body scope dvs kws f fd) (S : FnScope N ps scope) (len : ∀ vs H Q E, sp vs H Q E → vs.length = ps.length)
    (hbody : ∀ (cdv : Value) (A : Around) (outer : List Env) (s : Shared) (H : Hp) (vs : List V) (Q : VK) (E : XK), A.guards = some [] → Room k (A.deeper (envOfC qual scope s.heap.objs.size f cdv)) → sp vs H Q E →
      ∃ t, PSs (cxOf CX P w K mg base N qual scope f cdv A outer s H E) body t ∧ t { nx := fun _ H' => Q .non H', rt := Q } (start N vs) H) : FnG P w K mg base CX (k + 1) f fd ps sp := by
  refine ⟨len, fun A outer s H args us vs Q E hgu hr e0 hb r hsp => ?_⟩
  obtain ⟨oc, od, dV, kV, doc, pm, an, cdv, ct, osl, rfl, lk, hcd, _, _⟩ := F.ex
  have ok : ∀ b o, base.get? b = some o → s.heap.get? b = some o := fun b o e => (e0.bs b o e).1
  have KX : K.In s.heap := e0.mod.kin.keeps ok
  have kinds : ∀ y ∈ ps.zip us, scope.names.lookup y.1 = some .local ∨ (scope.names.lookup y.1 = some .cell ∧ ((cellsFrom (s.heap.objs.size + 1) scope.names []).lookup y.1).isSome = true) := by
    rintro ⟨n, v⟩ hy
    exact (S.par n (List.of_mem_zip hy).1).imp id fun q => ⟨q, PySem.W.cellsFrom_some _ _ _ (.inl q)⟩
  refine codeAny_call_function hr.depth (KX _ _ lk) rfl S.co S.gen rfl (PySem.W.codeRec_of KX hcd) (hb _ _ _ _ ?_)
  refine wpAny_newFunctionEnv_cells S.kind kinds fun env he s1 y => ?_
  subst he
  refine ⟨(e0.mod.nolimit.keeps ok).keeps y.toInCall.keep, codeAny_func ?_⟩
  obtain ⟨t, ht, hq⟩ := hbody cdv A outer s H vs Q E hgu (hr.deeper _) hsp
  refine wpAny_mono (ht.run [] s1 (start N vs) H _ (inv_start S hr.hd e0 (len _ _ _ _ hsp) r y) hq) (fun fl s' hs => ?_) fun e s' hs => hs
  cases fl with
  | ret u =>
    obtain ⟨v, σ', H', J, rv, q⟩ := hs
    exact ⟨v, H', J.os, J.bare, J.base, J.hok, rv, q⟩
  | next =>
    obtain ⟨σ', H', J, q⟩ := hs
    exact ⟨V.non, H', J.os, J.bare, J.base, J.hok, rfl, q⟩
  | brk =>
    obtain ⟨_, _, _, q⟩ := hs
    exact False.elim q
  | cont =>
    obtain ⟨_, _, _, q⟩ := hs
    exact False.elim q
end
section
variable {X : Cx} {CX : CXT} {k : Nat} {f : Addr} {fd : FuncData} {ps : List Str} {sp : Sp} {dvs : List V} {ds : List Value} {E : L2.St → XK} {x : Str} {p pos : Pos} {e : Expr} {es : List Expr} {t : TA}
theorem pe_callSDG (F : FnG X.prog X.w X.K X.mg X.base CX k f fd ps sp) (hgu : X.A.guards = some []) (hr : Room k X.A) (hg : Gl X x) (hm : X.mg x = some (.ref f)) (hk : PySem.W.keepIn X.K (.ref f) = true) (hb : Binds X.K fd ps ds) (hd : Vals dvs ds) (hx : ∀ σ, PassesAt CX X σ (E σ))
    (ha : PA X (e :: es) t) (hdb : (x == ("__debug__" : Str)) = false := by decide) (he : starEach (e :: es) X.env = (false, eval e X.env) :: starEach es X.env := by rfl) (hpl : (backTo pos (starEach es X.env)).any (·.1) = false := by rfl) :
    PE X (.Call (.Name x p) (e :: es) [] pos) (tCallSD sp dvs E t) := by
  refine ⟨fun pins s σ H Q I h => ?_⟩
  refine wpAny_Call_Name_kw (ld_glob I hg hm ?_ hdb)
  refine PySem.W.callWith_K (h₀ := X.base) I.ok.mod.kin hk (thn (ha.run pos pins s σ H _ I h) fun us s1 ⟨vs, H1, I1, r, q⟩ => ⟨I1.kIn, ?_⟩) he hpl
  have r2 : Vals (vs ++ dvs) (us ++ ds) := r.append hd
  have hl : (us ++ ds).length = ps.length := by rw [← r2.length]; exact F.len _ _ _ _ q
  refine wpAny_call (codeAny_mono (F.run X.A X.stack s1 H1 ⟨us, []⟩ (us ++ ds) (vs ++ dvs) Q (E σ) hgu hr I1.env0 (hb s1 us I1.kIn hl) r2 q) fun r s' hq => ?_)
  cases r with
  | error e => exact hx σ pins H1 s1 e s' I1 hq
  | ok fl =>
    cases fl with
    | ret u => exact I1.after hq
    | next => exact False.elim hq
    | brk => exact False.elim hq
    | cont => exact False.elim hq
end
section
variable {X : Cx} {ct : Nat → Addr} {W : WX} {pos p : Pos} {x : Str} {e : Expr} {es : List Expr} {m : M RV} {mA : M (List SV)} {k : Nat} {f : Addr} {fd : FuncData} {ps : List Str} {dvs : List V} {ds : List Value} {dd : List D}
theorem ed_callHG0 {F : List SV → Hand → Res × Hand} (FK : FnG X.prog X.w X.K X.mg X.base (L2.CX X.prog X.w) k f fd ps (spH X.K ct ps.length F)) (hgu : X.A.guards = some []) (hr : Room k X.A) (hg : Gl X x) (hm : X.mg x = some (.ref f)) (hk : PySem.W.keepIn X.K (.ref f) = true) (hb : Binds X.K fd ps ds) (hd : Vals dvs ds) (hdd : ∀ H, RepDs X.K ct H dvs dd)
    (tk : Takes X W) (ha : AD X ct W (e :: es) mA) (hdb : (x == ("__debug__" : Str)) = false := by decide) (he : starEach (e :: es) X.env = (false, eval e X.env) :: starEach es X.env := by rfl) (hpl : (backTo pos (starEach es X.env)).any (·.1) = false := by rfl) :
    ED X ct W (.Call (.Name x p) (e :: es) [] pos) (bnd mA (callH ps.length F dd)) := by
  obtain ⟨t, pt, r⟩ := ha.ex
  refine ⟨_, pe_callSDG FK hgu hr hg hm hk hb hd (fun σ => passAt tk σ) pt hdb he hpl, fun σ H γ s Q R h => ?_⟩
  refine r σ H γ s _ R (use_a h (fun _ _ z => z) fun xs s1 vs γ1 H1 t1 R1 q1 g => ?_)
  unfold callH at g
  cases eh : s1.hd with
  | none => simp only [eh] at g; exact False.elim g
  | some hd0 =>
    cases hd0 with
    | me c0 ds0 => simp only [eh] at g; exact False.elim g
    | dic kds => simp only [eh] at g; exact False.elim g
    | hand hh =>
    simp only [eh] at g
    have hA : HandAt γ1 H1 hh := R1.hd _ eh
    by_cases c : (xs ++ dd.map SV.dat).length = ps.length
    · rw [if_pos c] at g
      by_cases c2 : xs.all noRef = true
      · rw [if_pos c2] at g
        have g1 : Good X.K ct W σ γ1 s1 H1 _ Q := Good.step t1 g
        have wl : (vs ++ dvs).length = ps.length := by
          rw [List.length_append] at c ⊢
          rw [Paired.length q1, (hdd H1).length]
          simpa using c
        refine ⟨wl, γ1.ah, γ1.g, hh, _, hA, repA_append (repA_of c2 q1) (repA_map (hdd H1)), ?_⟩
        cases e3 : F (xs ++ dd.map SV.dat) hh with
        | mk o h' =>
          rw [e3] at g1
          cases o with
          | bad => exact False.elim g1
          | exc x => exact False.elim g1
          | ret rr =>
            intro v H' g' k th hr' hg' q nv
            obtain ⟨st, R2⟩ := hand_step R1 eh k th hr' hg'
            cases rr with
            | dat d => exact g1 v _ H' st R2 q
            | new ds =>
              obtain ⟨a, vs, rfl, e0, ea, p⟩ := q
              refine g1 _ _ H' st R2 ⟨a, vs, rfl, e0, ea, fun z => ?_, rep_map p⟩
              rcases z with ⟨j, ⟨ys, ey⟩, rfl⟩ | ⟨_, z⟩
              · obtain ⟨us, q2, _⟩ := R1.mem j ys ey
                rw [q2] at e0; cases e0
              · rcases z with z | z
                · have z' : a = γ1.ah := z
                  rw [z', hA.1] at e0; cases e0
                · have z' : a = g' := z
                  exact nv _ rfl (by rw [z'])
      · rw [if_neg c2] at g; exact False.elim g
    · rw [if_neg c] at g; exact False.elim g

end
section
variable {P : Program} {w : World} {K : PySem.W.Frag} {mg : Str → Option Value} {base : Heap} {x qual : Str} {params : Arguments} {body : List Stmt} {scope : Scope} {dvs : List V} {kws : List (Str × V)} {f : Addr} {fd : FuncData} {N ps : List Str} {k : Nat} {ct : Nat → Addr} {m : M Fl}
theorem fnHG (F : FunD K x qual params body scope dvs kws f fd) (S : FnScope N ps scope)
    (hb : ∀ (cdv : Value) (A : Around) (outer : List Env) (s : Shared) (H : Hp) (E : XK), A.guards = some [] → Room k (A.deeper (envOfC qual scope s.heap.objs.size f cdv)) →
      SDs (cxOf (L2.CX P w) P w K mg base N qual scope f cdv A outer s H E) ct (fun cls d _ H => E cls d H) body m) : FnG P w K mg base (L2.CX P w) (k + 1) f fd ps (spH K ct ps.length (runH N.length m)) := by
  refine fnD_okG F S (fun vs H Q E h => h.1) fun cdv A outer s H vs Q E hgu hr h => ?_
  obtain ⟨hl, ah, g0, h0, xs, hh, rp, gd⟩ := h
  obtain ⟨t, p, r⟩ := (hb cdv A outer s H E hgu hr).ex
  refine ⟨t, p, ?_⟩
  let γ0 : G := ⟨fun _ => 0, ah, g0⟩
  have rp' : Paired (RepS K ct γ0 0 H) vs xs := Paired.mapP rp fun v y q => by
    cases y with
    | dat d => exact q
    | hand => exact q
    | fn c => exact q
    | ref k => exact False.elim q
  have R0 : Rep K ct γ0 H (L2.start N vs) (startH N.length xs h0) := start_rep rp' fun h e => by cases e; exact hh
  refine r _ _ _ γ0 _ R0 ?_
  have own0 : ∀ a, Own γ0 (startH N.length xs h0) a → a = ah ∨ a = g0 := fun a z => by
    rcases z with ⟨j, ⟨ys, e⟩, _⟩ | ⟨_, z⟩
    · simp [startH] at e
    · exact z
  unfold runH at gd
  unfold GoodS
  have fin : ∀ {γ' : G} {s1 : Fd.S} {H' : Hp} {σ' : L2.St} {v : V} {rr : Rs} {h' : Hand}, s1.hd = some (.hand h') → GoodH K ct ah g0 H (.ret rr, h') Q → Step γ0 γ' (startH N.length xs h0) s1 H H' → Rep K ct γ' H' σ' s1 → RepRes K ct H H' v rr → (∀ ds, rr = .new ds → ∃ a, v = .ref a ∧ (a ≠ γ'.g)) → Q v H' := by
    intro γ' s1 H' σ' v rr h' eh g st R' q nv
    have hA : HandAt γ' H' h' := R'.hd _ eh
    have nn : s1.hd ≠ none := by rw [eh]; exact fun z => by cases z
    refine g v H' γ'.g (fun a o e n1 n2 => st.keep a o e fun z => (own0 a z).elim n1 n2) st.there (by have := st.ah; exact ⟨by have h1 := hA.1; rw [st.ah] at h1; exact h1, hA.2⟩) ?_ q ?_
    · rcases st.own γ'.g (.inr ⟨nn, .inr rfl⟩) with z | z
      · rcases own0 _ z with z | z
        · exfalso
          have h1 := hA.1
          rw [st.ah] at h1
          have h2 := hA.2
          rw [z] at h2
          have h1' : H' ah = some (.lst [.ref γ'.g, .int h'.mixed, .int h'.cnt]) := h1
          rw [h1'] at h2
          have := HO.lst.inj (Option.some.inj h2)
          cases hg : h'.great with
          | nil => rw [hg] at this; cases this
          | cons i l => rw [hg] at this; cases this
        · exact .inl z
      · exact .inr z
    · intro ds e z
      obtain ⟨a, e1, e2⟩ := nv ds e
      rw [e1] at z
      exact e2 (V.ref.inj z)
  cases e1 : m (startH N.length xs h0) with
  | bad => rw [e1] at gd; exact False.elim gd
  | exc y s1 => rw [e1] at gd; exact False.elim gd
  | ok fl s1 =>
    rw [e1] at gd
    dsimp only at gd
    cases eh : s1.hd with
    | none => rw [eh] at gd; exact False.elim gd
    | some hd0 =>
      cases hd0 with
      | me c0 ds0 => rw [eh] at gd; exact False.elim gd
      | dic kds => rw [eh] at gd; exact False.elim gd
      | hand h' =>
      rw [eh] at gd
      dsimp only at gd
      cases fl with
      | nx => exact fun σ' γ' H' st R' => fin eh gd st R' RepD.non fun ds e => by cases e
      | bk => exact False.elim gd
      | ct => exact False.elim gd
      | rt rr =>
        intro v σ' γ' H' st R' q
        unfold resP at gd
        cases e2 : resV s1 rr with
        | none => simp only [e2] at gd; exact False.elim gd
        | some z =>
          simp only [e2] at gd
          refine fin eh gd st R' (resV_rep e2 st rfl R' q) fun ds e => ?_
          subst e
          have nn : s1.hd ≠ none := by rw [eh]; exact fun z => by cases z
          cases rr with
          | new ys =>
            obtain ⟨a, vs, rfl, e0, ea, na, _⟩ := q
            exact ⟨a, rfl, fun z => na (.inr ⟨nn, .inr z⟩)⟩
          | sv y =>
            cases y with
            | hand => cases e2
            | fn c => cases e2
            | dat d => cases e2
            | ref k =>
              have q' : k < s1.mem.length ∧ v = .ref (γ'.kp k) := q
              refine ⟨_, q'.2, ?_⟩
              unfold resV at e2
              cases h : s1.mem[k]? with
              | none => simp only [h] at e2; cases e2
              | some o =>
                cases o with
                | none => simp only [h] at e2; cases e2
                | some ys => exact (R'.hdk nn k ⟨ys, h⟩).2
end
structure OkHG (P : Program) (w : World) (K : PySem.W.Frag) (mg : Str → Option Value) (base : Heap) (ct : Nat → Addr) (x : Str) (n : Nat) (k : Nat) (F : List SV → Hand → Res × Hand) : Prop where
  ex : ∃ (f : Addr) (fd : FuncData) (ps : List Str), ps.length = n ∧ mg x = some (.ref f) ∧ PySem.W.keepIn K (.ref f) = true ∧ FnG P w K mg base (L2.CX P w) k f fd ps (spH K ct n F) ∧ Binds K fd ps []
structure OkHdG (P : Program) (w : World) (K : PySem.W.Frag) (mg : Str → Option Value) (base : Heap) (ct : Nat → Addr) (x : Str) (n : Nat) (k : Nat) (F : List SV → Hand → Res × Hand) (dd : List D) : Prop where
  ex : ∃ (f : Addr) (fd : FuncData) (ps : List Str) (ds : List Value) (dvs : List V), ps.length = n ∧ mg x = some (.ref f) ∧ PySem.W.keepIn K (.ref f) = true ∧ FnG P w K mg base (L2.CX P w) k f fd ps (spH K ct n F) ∧ Binds K fd ps ds ∧ Vals dvs ds ∧ ∀ H, RepDs K ct H dvs dd
section
variable {X : Cx} {ct : Nat → Addr} {W : WX} {pos p : Pos} {x : Str} {e : Expr} {es : List Expr} {m : M RV} {mA mK : M (List SV)} {k n : Nat} {dd : List D} {F : List D → Res} {FH : List SV → Hand → Res × Hand}
theorem ed_callHG (O : OkHG X.prog X.w X.K X.mg X.base ct x n k FH) (hgu : X.A.guards = some []) (hr : Room k X.A) (tk : Takes X W) (ha : AD X ct W (e :: es) mA) (hg : Gl X x := by rfl) (hdb : (x == ("__debug__" : Str)) = false := by decide) (he : starEach (e :: es) X.env = (false, eval e X.env) :: starEach es X.env := by rfl) (hpl : (backTo pos (starEach es X.env)).any (·.1) = false := by rfl) :
    ED X ct W (.Call (.Name x p) (e :: es) [] pos) (bnd mA (callH n FH [])) := by
  obtain ⟨f, fd, ps, rfl, hm, hk, FK, hb⟩ := O.ex
  exact ed_callHG0 FK hgu hr hg hm hk hb .nil (fun _ => .nil) tk ha hdb he hpl
theorem ed_callHdG (O : OkHdG X.prog X.w X.K X.mg X.base ct x n k FH dd) (hgu : X.A.guards = some []) (hr : Room k X.A) (tk : Takes X W) (ha : AD X ct W (e :: es) mA) (hg : Gl X x := by rfl) (hdb : (x == ("__debug__" : Str)) = false := by decide) (he : starEach (e :: es) X.env = (false, eval e X.env) :: starEach es X.env := by rfl) (hpl : (backTo pos (starEach es X.env)).any (·.1) = false := by rfl) :
    ED X ct W (.Call (.Name x p) (e :: es) [] pos) (bnd mA (callH n FH dd)) := by
  obtain ⟨f, fd, ps, ds, dvs, rfl, hm, hk, FK, hb, hd, hdd⟩ := O.ex
  exact ed_callHG0 FK hgu hr hg hm hk hb hd hdd tk ha hdb he hpl
end
section
variable {P : Program} {w : World} {K : PySem.W.Frag} {mg : Str → Option Value} {base : Heap} {x qual : Str} {params : Arguments} {body : List Stmt} {scope : Scope} {dvs : List V} {kws : List (Str × V)} {f : Addr} {fd : FuncData} {ps : List Str}
theorem okHG {st : Stmt} {N ps : List Str} {k : Nat} {ct : Nat → Addr} {m : M Fl} (T : FnT K mg x st []) (S : FnScope N ps (defScope st))
    (hbd : ∀ (kV doc pm : Value) (an : Option Addr) (cdv ct : Value) (us : List Value), us.length = ps.length → bindArgs (PySem.W.fnOf x x (defArgs st) (defBody st) (defScope st) .none kV doc pm an cdv ct) ⟨us, []⟩ = pure (ps.zip us))
    (hb : ∀ (f : Addr) (cdv : Value) (A : Around) (outer : List Env) (s : Shared) (H : Hp) (E : XK), A.guards = some [] → Room k (A.deeper (envOfC x (defScope st) s.heap.objs.size f cdv)) →
      SDs (cxOf (L2.CX P w) P w K mg base N x (defScope st) f cdv A outer s H E) ct (fun cls d _ H => E cls d H) (defBody st) m) : OkHG P w K mg base ct x ps.length (k + 1) (runH N.length m) := by
  obtain ⟨f, fd, hm, F⟩ := T.ex
  exact ⟨f, fd, ps, rfl, hm, F.kp, fnHG F S (hb f), F.bindsN hbd⟩
theorem okHfG {st : Stmt} {N ps : List Str} {k : Nat} {ct : Nat → Addr} {m : M Fl} {dd : List D} (T : FnT K mg x st dvs) (S : FnScope N ps (defScope st)) (n j : Nat) (hd : dvs ≠ []) (hn : n + (dvs.length - j) = ps.length) (hdd : ∀ H, RepDs K ct H dvs dd)
    (hbd : ∀ (T : Addr) (kV doc pm : Value) (an : Option Addr) (cdv ct : Value) (us its : List Value), us.length = n → its.length = dvs.length →
      ∃ k, bindArgs (PySem.W.fnOf x x (defArgs st) (defBody st) (defScope st) (.ref T) kV doc pm an cdv ct) ⟨us, []⟩ = seqItems? (.ref T) >>= k ∧ k (some its.toArray) = pure (ps.zip (us ++ its.drop j)))
    (hb : ∀ (f : Addr) (cdv : Value) (A : Around) (outer : List Env) (s : Shared) (H : Hp) (E : XK), A.guards = some [] → Room k (A.deeper (envOfC x (defScope st) s.heap.objs.size f cdv)) →
      SDs (cxOf (L2.CX P w) P w K mg base N x (defScope st) f cdv A outer s H E) ct (fun cls d _ H => E cls d H) (defBody st) m) : OkHdG P w K mg base ct x ps.length (k + 1) (runH N.length m) (dd.drop j) := by
  obtain ⟨f, fd, hm, F⟩ := T.ex
  obtain ⟨ds, rv, bb⟩ := F.binds1 n j hd hn hbd
  exact ⟨f, fd, ps, ds, _, rfl, hm, F.kp, fnHG F S (hb f), bb, rv, fun H => RepDs.drop j (hdd H)⟩
end
/-- the law's call at the top, where its def is only promised without a repr under way -/
theorem law_callG {P : Program} {w : World} {K : PySem.W.Frag} {mg mb : Str → Option Value} {CX : CXT} {k : Nat} {fa a : Addr} {fd : FuncData} {x : Str} {sp : Sp} {s₁ : Shared} {vs : List Value} {ns : List Int}
    (KX : K.In s₁.heap) (hns : s₁.heap.Ns mainGlobals mg) (hb : s₁.heap.Ns builtinsNs mb) (hbb : ∀ x : Str, x ≠ "__name__" → mb x = bootBuiltins x) (hlim : s₁.heap.NoLimit) (hg : s₁.gens = #[])
    (ha : s₁.heap.get? a = some { cls := .type "list", data := .seq vs.toArray }) (hi : IntsAre vs ns) (hl : ns.length ≤ sizeLine) (hr : Room k callerA)
    (F : ∀ base : Heap, K.In base → base.Ns mainGlobals mg → FnG P w K mg base CX k fa fd [x] sp) (hbind : ∀ (s : Shared) (u : Value), BindsTo s fd ⟨[u], []⟩ [(x, u)])
    (hsp : ∀ H : Hp, Only H → SqL K H a (ns.map V.int) → sp [.ref a] H (fun v _ => v = .bl true) fun _ _ _ => False)
    (hCX : ∀ H e s', CX [] H s₁ (fun _ _ _ => False) e s' → False) :
    codeAny (model P w) callerA (.call (.ref fa) ⟨[.ref a], []⟩) (fun r s' => r = .ok (.ret (.bool true)) ∧ OldK s₁.heap s'.heap ∧ s'.os = s₁.os ∧ AllBare s'.gens) s₁ := by
  have rv := vals_ints hi
  -- over any heap of names H that tracks nothing but the script
  have core : ∀ H : Hp, Only H → SqL K H a (ns.map V.int) → HOk P w H s₁.heap → (∀ b, H b ≠ none → b = a ∧ K.lookup a = none) →
      codeAny (model P w) callerA (.call (.ref fa) ⟨[.ref a], []⟩) (fun r s' => r = .ok (.ret (.bool true)) ∧ OldK s₁.heap s'.heap ∧ s'.os = s₁.os ∧ AllBare s'.gens) s₁ := by
    intro H hO hS hok hA
    have untr : ∀ {b : Addr} {o : Obj}, s₁.heap.get? b = some o → (∀ n, o.data ≠ Data.seq vs.toArray n ∨ K.lookup b = some o) → H b = none := fun {b o} e d => by
      cases q : H b with
      | none => rfl
      | some u =>
        obtain ⟨rfl, hk⟩ := hA b (by rw [q]; simp)
        rw [ha] at e
        cases e
        rcases d _ with z | z
        · exact absurd rfl z
        · rw [hk] at z; cases z
    have nsK : ∀ {b : Addr} {m : Str → Option Value}, s₁.heap.Ns b m → (hidT s₁.heap H).Ns b m := fun {b m} ⟨o, es, ep, e, d, r⟩ => ⟨o, es, ep, hidT_get e (untr e fun n => .inl fun z => by rw [d] at z; cases z), d, r⟩
    have hKb : K.In (hidT s₁.heap H) := fun b o e => hidT_get (KX b o e) (untr (KX b o e) fun n => .inr e)
    have hM : Mod K mg (hidT s₁.heap H) := ⟨hKb, nsK hns, ⟨mb, nsK hb, hbb⟩, let ⟨mc, h1, h2⟩ := hlim; ⟨mc, nsK h1, h2⟩⟩
    have e0 : Env0 P w K mg (hidT s₁.heap H) callerA [] s₁ H := ⟨rfl, hM, fun b o e => of_hidT e, Nat.le_of_eq (hidT_size _ _), trivial, fun b hb => absurd hb (List.not_mem_nil), hok, .of_eq hg⟩
    refine codeAny_mono ((F _ hKb (nsK hns)).run callerA [] s₁ H ⟨[.ref a], []⟩ [.ref a] [.ref a] _ _ rfl hr e0 (hbind s₁ (.ref a)) (.cons rfl .nil) (hsp H hO hS)) fun r s' h => ?_
    cases r with
    | error e => exact (hCX H e s' h).elim
    | ok fl =>
      cases fl with
      | next => exact False.elim h
      | brk => exact False.elim h
      | cont => exact False.elim h
      | ret u =>
        obtain ⟨v, H', os, bare, un, hok', r', q⟩ := h
        have q' : v = .bl true := q
        subst q'
        obtain rfl : u = Value.bool true := r'
        refine ⟨rfl, OldK.of_keep fun b o e => ?_, os, bare⟩
        cases q : H b with
        | none => exact un.keep b o e q List.not_mem_nil (by simp)
        | some u =>
          rcases hO b with z | ⟨ob, xs, z⟩
          · rw [q] at z; cases z
          · obtain ⟨e1, _⟩ := hok b _ z
            obtain ⟨e2, _⟩ := hok' b _ (un.frzs b ob _ z)
            rw [e] at e1; cases e1
            exact e2
  cases hk : K.lookup a with
  | some o =>
    have e := KX a o hk
    rw [ha] at e
    cases e
    exact core (fun _ => none) (fun _ => .inl rfl) (.inr ⟨_, vs.toArray, _, hk, rfl, rfl, rfl, by rw [List.size_toArray, hi.length]; exact hl, by simpa using rv⟩) (fun b u z => by cases z) fun b z => absurd rfl z
  | none =>
    refine core (fun b => if b = a then some (.frz { cls := .type "list", data := .seq vs.toArray } (.lst (ns.map V.int))) else none) (fun b => ?_) (.inl (.inr ⟨{ cls := .type "list", data := .seq vs.toArray }, if_pos rfl⟩)) (fun b u z => ?_) fun b z => ⟨Classical.byContradiction fun hb => z (if_neg hb), hk⟩
    · by_cases hb : b = a
      · exact .inr ⟨_, _, if_pos hb⟩
      · exact .inl (if_neg hb)
    · by_cases hb : b = a
      · cases (if_pos hb).symm.trans z
        subst hb
        exact ⟨ha, by rw [List.length_map]; exact hl, vs, _, rv, ha⟩
      · cases (if_neg hb).symm.trans z
section
variable {P : Program} {w : World} {K : PySem.W.Frag} {mg : Str → Option Value} {base : Heap}
theorem okLG {st st0 : Stmt} {rest : List Stmt} {N : List Str} {k : Nat} {ct : Nat → Addr} {m : M Fl} {x z : Str} {f : Addr} {fd : FuncData} (F : FunD K x x (defArgs st) (defBody st) (defScope st) [] [] f fd) (S : FnScope N [z] (defScope st)) (hN : 2 ≤ N.length) (hbd : defBody st = st0 :: rest)
    (hm : ∀ h, ∃ s', m (startL N.length h) = .ok (.rt (RB true)) s')
    (hb : ∀ (cdv : Value) (A : Around) (outer : List Env) (s : Shared) (H : Hp) (E : XK), A.guards = some [] → Room k (A.deeper (envOfC x (defScope st) s.heap.objs.size f cdv)) →
      HandSt (cxOf (L2.CX P w) P w K mg base N x (defScope st) f cdv A outer s H E) st0 ∧ SDs (cxOf (L2.CX P w) P w K mg base N x (defScope st) f cdv A outer s H E) ct (fun cls d _ H => E cls d H) rest m) :
    FnG P w K mg base (L2.CX P w) (k + 1) f fd [z] (spLaw K) := by
  refine fnD_okG F S (fun vs H Q E h => ?_) fun cdv A outer s H vs Q E hgu hr h => ?_
  · obtain ⟨a, ns, rfl, _⟩ := h
    rfl
  · obtain ⟨a, ns, rfl, hS, hl, kq⟩ := h
    obtain ⟨h0, hD⟩ := hb cdv A outer s H E hgu hr
    obtain ⟨t0, p0, r0⟩ := h0.ex
    obtain ⟨t, p, r⟩ := hD.ex
    rw [hbd]
    refine ⟨_, pss_cons p0 p, ?_⟩
    have es : (L2.start N [V.ref a]) = some (.ref a) :: List.replicate (N.length - 1) none := by
      unfold L2.start; simp
    refine r0 _ _ H a ns (by rw [es]; rfl) hS hl fun ah g h H' s1 n1 n2 hR => ?_
    obtain ⟨s', em⟩ := hm h
    let γ0 : G := ⟨fun _ => 0, ah, g⟩
    have len0 : (L2.start N [V.ref a]).length = N.length := by rw [es]; simp; omega
    have R0 : Rep K ct γ0 H' ((L2.start N [V.ref a]).set 1 (some (.ref ah))) (startL N.length h) := by
      refine ⟨?_, fun i x e => ?_, fun k xs e => by simp [startL] at e, fun j k hj => ?_, fun h' e => ?_, fun _ k hk => ?_⟩
      · rw [List.length_set, len0]; simp [startL]; omega
      · match i, e with
        | 0, e => simp [startL] at e
        | 1, e =>
          simp [startL] at e
          subst e
          exact ⟨.ref ah, by rw [List.getElem?_set_self (by rw [len0]; omega)], rfl⟩
        | i + 2, e =>
          simp [startL, List.getElem?_replicate] at e
      · obtain ⟨xs, e⟩ := hj
        simp [startL] at e
      · simp [startL] at e; subst e; exact hR
      · obtain ⟨xs, e⟩ := hk
        simp [startL] at e
    refine r _ _ H' γ0 (startL N.length h) R0 ?_
    unfold GoodS
    rw [em]
    intro v σ' γ' H2 st2 R2 q
    cases q
    exact kq H2
end
theorem law_endHG {l : PySem.W.OpenLaw} {q : Program} {loose : List Str} {XP : (Str → Option Value) → Heap → Prop} {YP : World → Heap → Prop} {d : DefRec} {k : Nat} (hn : l.most = some 63) (hdf : d.params.defaults = []) (hr : Room k callerA)
    (F : ∀ (w : World) (mg : Str → Option Value) (fa : Addr) (h : Heap), YP w h → h.Ns mainGlobals mg → mg d.name = some (.ref fa) →
      ∃ (K : PySem.W.Frag), K.In h ∧ ∃ fd : FuncData, (∀ (s : Shared) (u : Value), BindsTo s fd ⟨[u], []⟩ [("_law_script", u)]) ∧ ∀ base : Heap, K.In base → base.Ns mainGlobals mg → FnG l.prog w K mg base (L2.CX l.prog w) k fa fd ["_law_script"] (spLaw K)) :
    PySem.W.WalkO q loose XP YP l.row.toRowW d [] (fun f vs => PySem.call f vs) := by
  refine Att.attach_call hn hdf fun w s₀ s₁ mg mb fa o pm cd doc a vs ns G Y ho hd hcd hmg hobj hints hlen hg => ?_
  obtain ⟨K, KX, fd, hb, hF⟩ := F w mg fa _ Y G.T.g hmg
  refine law_callG KX G.T.g G.T.b G.T.builtins G.T.nolimit hg hobj hints (Nat.le_trans hlen (by decide)) hr hF hb (fun H hO hS => ⟨a, ns, rfl, hS, hlen, fun _ => rfl⟩) fun H e s' h => ?_
  obtain ⟨a, B, H', cls, d, _, _, _, _, _, _, _, z⟩ := h
  exact z
end Fd
set_option Elab.async false
set_option linter.all false
set_option maxRecDepth 100000
set_option maxHeartbeats 4000000
/-! ## the text of repr is fit for == -/
namespace Fd
open PySem PySem.Spec PyProof.Rows L2
def okC (l : List Nat) : Prop := ∀ c ∈ l, c < 0x110000
theorem okC_str {x : Str} (h : okC x.cps.toList) : PySem.PyData.strOk x = true := by
  unfold PySem.PyData.strOk
  rw [Array.all_eq_true_iff_forall_mem]
  intro c hc
  exact decide_eq_true (h c (Array.mem_toList_iff.mpr hc))
theorem str_okC {x : Str} (h : PySem.PyData.strOk x = true) : okC x.cps.toList := by
  unfold PySem.PyData.strOk at h
  intro c hc
  have := Array.all_eq_true_iff_forall_mem.mp h c (Array.mem_toList_iff.mp hc)
  simpa using this
theorem okC_app {a b : List Nat} (h : okC a) (k : okC b) : okC (a ++ b) := fun c hc => (List.mem_append.mp hc).elim (h c) (k c)
theorem char_ok (c : Char) : c.toNat < 0x110000 := by
  have := c.valid
  show c.val.toNat < _
  rcases this with h | ⟨_, h⟩
  · have h' : c.val.toNat < 0xd800 := h
    omega
  · exact h
theorem okC_chars (l : List Char) : okC (l.map Char.toNat) := fun c hc => by
  obtain ⟨d, _, rfl⟩ := List.mem_map.mp hc
  exact char_ok d
theorem okC_of (s : String) : okC (Str.ofString s).cps.toList := by
  rw [Str.ofString_eq_toList]
  exact okC_chars _
theorem okC_append {a b : Str} (h : okC a.cps.toList) (k : okC b.cps.toList) : okC (a ++ b).cps.toList := by
  show okC (a.cps ++ b.cps).toList
  rw [Array.toList_append]
  exact okC_app h k
theorem okC_reprChar {q c : Nat} (hc : c < 0x110000) : okC (Builtin.Str.reprChar q c) := by
  have hx : ∀ w : Nat, okC (List.replicate (w - ((Nat.toDigits 16 c).map Char.toNat).length) 48 ++ (Nat.toDigits 16 c).map Char.toNat) := fun w => by
    refine okC_app (fun d hd => ?_) (okC_chars _)
    rw [List.eq_of_mem_replicate hd]
    decide
  have two : ∀ a b : Nat, a < 0x110000 → b < 0x110000 → okC [a, b] := fun a b h1 h2 d hd => by
    rcases List.mem_cons.mp hd with rfl | hd
    · exact h1
    · rw [List.mem_singleton.mp hd]; exact h2
  unfold Builtin.Str.reprChar
  dsimp only
  split
  · exact two _ _ (by decide) hc
  · split
    · exact two _ _ (by decide) (by decide)
    · split
      · exact two _ _ (by decide) (by decide)
      · split
        · exact two _ _ (by decide) (by decide)
        · split
          · intro d hd; rw [List.mem_singleton.mp hd]; exact hc
          · split
            · exact okC_app (two _ _ (by decide) (by decide)) (hx 2)
            · split
              · exact okC_app (two _ _ (by decide) (by decide)) (hx 4)
              · exact okC_app (two _ _ (by decide) (by decide)) (hx 8)
theorem okC_fold (q : Nat) : ∀ (l : List Nat) (acc : Array Nat), okC l → okC acc.toList → okC (l.foldl (fun out c => out ++ (Builtin.Str.reprChar q c).toArray) acc).toList
  | [], acc, _, h => h
  | c :: l, acc, hl, h => by
    rw [List.foldl_cons]
    refine okC_fold q l _ (fun d hd => hl d (List.mem_cons_of_mem _ hd)) ?_
    rw [Array.toList_append]
    exact okC_app h (okC_reprChar (hl c List.mem_cons_self))
theorem okC_repr {x : Str} (h : okC x.cps.toList) : okC (reprText x).cps.toList := by
  have hq : reprQuote x < 0x110000 := by
    unfold reprQuote
    split <;> decide
  have h1 : ∀ q : Nat, q < 0x110000 → okC ((x.cps.foldl (fun out c => out ++ (Builtin.Str.reprChar q c).toArray) #[q]).push q).toList := fun q z => by
    rw [Array.toList_push, ← Array.foldl_toList]
    have one : okC [q] := fun d hd => by rw [List.mem_singleton.mp hd]; exact z
    exact okC_app (okC_fold q _ _ h one) one
  exact h1 _ hq
theorem okC_textFrom : ∀ (ts : List Str) (k : Nat) (acc : Str), (∀ t ∈ ts, okC t.cps.toList) → okC acc.cps.toList → okC (textFrom k acc ts).cps.toList
  | [], _, _, _, h => h
  | t :: r, k, acc, ht, h => by
    refine okC_textFrom r (k + 1) _ (fun s hs => ht s (List.mem_cons_of_mem _ hs)) ?_
    exact okC_append (okC_append h (okC_of _)) (ht t List.mem_cons_self)
theorem okC_join : ∀ (ts : List Str) (sep : String), (∀ t ∈ ts, okC t.cps.toList) → okC (Str.join sep ts).cps.toList
  | [], _, _ => fun c hc => by
    have : (Str.empty).cps.toList = [] := rfl
    have h' : c ∈ (Str.empty).cps.toList := hc
    rw [this] at h'
    cases h'
  | [x], _, h => h x List.mem_cons_self
  | x :: y :: r, sep, h => by
    show okC (x ++ (sep : Str) ++ Str.join sep (y :: r)).cps.toList
    exact okC_append (okC_append (h x List.mem_cons_self) (okC_of _)) (okC_join (y :: r) sep fun t ht => h t (List.mem_cons_of_mem _ ht))
mutual
theorem okC_shown : ∀ d : D, d.py.canLay0 = true → okC d.py.shown.cps.toList
  | .non, _ => by simp only [D.py, PyData.shown]; exact okC_of _
  | .bl b, _ => by cases b <;> (simp only [D.py, PyData.shown]; exact okC_of _)
  | .int i, _ => by simp only [D.py, PyData.shown]; exact okC_of _
  | .str x, h => by
    have h' : PySem.PyData.strOk x = true := by simpa [D.py, PyData.canLay0] using h
    simp only [D.py, PyData.shown]
    exact okC_repr (str_okC h')
  | .tup ds, h => by
    have a : PyData.canLayAll0 (D.pys ds) = true := by simpa [D.py, PyData.canLay0] using h
    simp only [D.py, PyData.shown]
    unfold tupleText
    exact okC_append (okC_append (okC_of _) (okC_join _ _ (okC_showns ds a))) (okC_of _)
  | .lst ds, h => by
    have a : PyData.canLayAll0 (D.pys ds) = true := by simpa [D.py, PyData.canLay0] using h
    simp only [D.py, PyData.shown]
    unfold listText
    exact okC_append (okC_textFrom _ _ _ (okC_showns ds a) (okC_of _)) (okC_of _)
  | .obj _ _, h => by simp [D.py, PyData.canLay0] at h
  | .dct _, h => by simp [D.py, PyData.canLay0] at h
  | .dcp _, h => by simp [D.py, PyData.canLay0] at h
theorem okC_showns : ∀ ds : List D, PyData.canLayAll0 (D.pys ds) = true → ∀ t ∈ PyData.shownAll (D.pys ds), okC t.cps.toList
  | [], _, t, ht => by simp [D.pys, PyData.shownAll] at ht
  | d :: ds, h, t, ht => by
    have a : d.py.canLay0 = true ∧ PyData.canLayAll0 (D.pys ds) = true := by simpa [D.pys, PyData.canLayAll0] using h
    simp only [D.pys, PyData.shownAll] at ht
    rcases List.mem_cons.mp ht with rfl | ht
    · exact okC_shown d a.1
    · exact okC_showns ds a.2 t ht
end
theorem okD_repr {d : D} (h : repOk d = true) : okD (.str (reprD d)) = true := by
  unfold repOk at h
  simp only [Bool.and_eq_true, decide_eq_true_eq] at h
  have := okC_str (okC_shown d h.1.1.1.2)
  unfold okD SeqAt.shaped reprD
  simp [D.py, PyData.canLay0, PyData.depth, this]
end Fd
set_option Elab.async false
set_option linter.all false
set_option maxRecDepth 100000
set_option maxHeartbeats 4000000
/-! ## isinstance of the error that a clause holds -/
namespace Fd
open PySem PySem.Spec PyProof.Rows L2
/-- isinstance(e, c): the error at a, with or without a dict of its own -/
def rIsX (K : PySem.W.Frag) (D a : Addr) (cls : Value) (d : Option Addr) : List V → Hp → VK → Prop := fun xs H Q => ∃ (c : V) (cv : Value) (b : Bool), xs = [.ref a, c] ∧ cls = .ref D ∧ (∀ u, RelV c u → u = cv) ∧ PySem.W.kitOne K (.ref D) cv = some b ∧ (∀ dx, d = some dx → ∃ fs, H dx = some (.xd fs)) ∧ Q (.bl b) H
theorem call_isX {X : Cx} {a D : Addr} {oe : Obj} {cls : Value} {d : Option Addr} {pn : List (Addr × Obj)} (C : ExcC X.K D) (hz : Zc cls d oe) (hf : ∃ vs, oe.data = .fields vs) : CallR (X.suite a ((a, oe) :: pn)) (.builtin "isinstance") (rIsX X.K D a cls d) := by
  intro pins s σ H xs us Q I r h
  obtain ⟨c, cv, b, rfl, hcl, hcv, e, hd, q⟩ := h
  subst hcl
  cases r with
  | cons rx rr =>
    cases rr with
    | cons rt rr =>
      cases rr
      cases rx
      have ec := hcv _ rt
      subst ec
      obtain ⟨hget, _⟩ := I.pin (a, oe) (List.mem_append.mpr (.inl List.mem_cons_self))
      obtain ⟨vs, hv⟩ := hf
      cases d with
      | none =>
        have J : PySem.W.InstAt s.heap a oe D none := by
          obtain ⟨oc, od, oda, osl⟩ := oe
          obtain ⟨h1, h2⟩ := hz
          dsimp only at h1 h2 hv
          subst h1 h2 hv
          exact ⟨hget, rfl, rfl, trivial⟩
        exact PySem.W.kia_one (PySem.W.handS_kitx_exc C.hg C.hk C.hs C.hd C.ha C.hn C.ht C.hm) I.kIn J e (fun z => nomatch z) fun tk => ⟨.bl b, H, I.kept (t' := tk) fun _ _ z => z, rfl, q⟩
      | some dx =>
        obtain ⟨fs, ea⟩ := hd dx rfl
        have hx : ObjOk X.prog X.w H s.heap dx (.xd fs) := I.hok dx _ ea
        obtain ⟨mA, hns, hr⟩ := hx
        obtain ⟨od, ho, hl⟩ := lookIn_ns hns
        have J : PySem.W.InstAt s.heap a oe D (some od) := ⟨hget, hz.1, by unfold PySem.W.notCls; rw [hv] <;> rfl, by rw [hz.2]; exact ho⟩
        have hc : (PySem.W.clsIn X.K D).isSome = true := by
          obtain ⟨cd, hc, _⟩ := PySem.W.any_some C.hd
          rw [hc]
          rfl
        exact PySem.W.kia_one (PySem.W.kitx_exc hc C.hg C.hk C.hs C.ha C.hn C.ht C.hm) I.kIn J e (fun z => nomatch z) fun tk => ⟨.bl b, H, I.kept (t' := tk) fun _ _ z => z, rfl, q⟩
/-- tests of a clause -/
structure TDX (X : Cx) (ct : Nat → Addr) (W : WX) (c i : Nat) (a : Addr) (cls : Value) (d : Option Addr) (e : Expr) (m : Exn → M Bool) : Prop where
  ex : ∃ t, PT X e t ∧ ∀ σ H γ s Q x, Rep X.K ct γ H σ s → σ[i]? = some (some (.ref a)) → RepX X.K ct H x cls d → x.c = c → GoodT X.K ct W σ γ s H (m x s) Q → t σ H Q
structure WDX (X : Cx) (ct : Nat → Addr) (W : WX) (c i : Nat) (a : Addr) (cls : Value) (d : Option Addr) (e : Expr) (m : Exn → M Bool) : Prop where
  ex : ∃ t, PW X e t ∧ ∀ σ H γ s Q x, Rep X.K ct γ H σ s → σ[i]? = some (some (.ref a)) → RepX X.K ct H x cls d → x.c = c → GoodT X.K ct W σ γ s H (m x s) Q → t σ H Q
section
variable {X : Cx} {ct : Nat → Addr} {W : WX} {c i : Nat} {a : Addr} {cls : Value} {d : Option Addr} {e e1 e2 : Expr} {rest : List Expr} {pos : Pos} {mt mt2 : Exn → M Bool} {m1 m2' : Exn → M RV}
theorem WDX.td (h : WDX X ct W c i a cls d e mt) : TDX X ct W c i a cls d e mt := by
  obtain ⟨t, p, r⟩ := h.ex
  exact ⟨t, p.pt, r⟩
theorem wdx_and1 (h : TDX X ct W c i a cls d e mt) : WDX X ct W c i a cls d (.BoolOp .And [e] pos) mt := by
  obtain ⟨t, p, r⟩ := h.ex
  exact ⟨t, pw_and1 p, r⟩
theorem wdx_and (ha : TDX X ct W c i a cls d e mt) (hb : WDX X ct W c i a cls d (.BoolOp .And (e1 :: rest) pos) mt2) : WDX X ct W c i a cls d (.BoolOp .And (e :: e1 :: rest) pos) (fun x => andT (mt x) (mt2 x)) := by
  obtain ⟨t, p, r⟩ := ha.ex
  obtain ⟨t2, p2, r2⟩ := hb.ex
  refine ⟨_, pw_and p p2, fun σ H γ s Q x R z1 z2 z3 h => ?_⟩
  refine r σ H γ s _ x R z1 z2 z3 (use_t h (fun _ _ z => z) fun b s1 γ1 H1 t1 R1 g => ?_)
  cases b with
  | true => exact r2 σ H1 γ1 s1 Q x R1 z1 (z2.keep t1.imm) z3 (GoodT.step t1 g)
  | false => exact (GoodT.step t1 g) γ1 H1 Step.refl R1
theorem edx_ifE (hc : TDX X ct W c i a cls d e mt) (ha : EDX X ct W c i a cls d e1 m1) (hb : EDX X ct W c i a cls d e2 m2') : EDX X ct W c i a cls d (.IfExp e e1 e2 pos) (fun x => ifE (mt x) (m1 x) (m2' x)) := by
  obtain ⟨t, p, r⟩ := hc.ex
  obtain ⟨t1, p1, r1⟩ := ha.ex
  obtain ⟨t2, p2, r2⟩ := hb.ex
  refine ⟨_, pe_ifExp p p1 p2, fun σ H γ s Q x R z1 z2 z3 h => ?_⟩
  refine r σ H γ s _ x R z1 z2 z3 (use_t h (fun _ _ z => z) fun b s1 γ1 H1 t1 R1 g => ?_)
  cases b with
  | true => exact r1 σ H1 γ1 s1 Q x R1 z1 (z2.keep t1.imm) z3 (Good.step t1 g)
  | false => exact r2 σ H1 γ1 s1 Q x R1 z1 (z2.keep t1.imm) z3 (Good.step t1 g)
end
/-- what must be known of an error's class and of the class that it is asked for -/
structure IsX (K : PySem.W.Frag) (mg : Str → Option Value) (ct : Nat → Addr) (c : Nat) (x : Str) (b : Bool) : Prop where
  C : ExcC K (ct c)
  ex : (∃ A, mg x = some (.ref A) ∧ PySem.W.kitOne K (.ref (ct c)) (.ref A) = some b) ∨ (∃ t : String, mg x = none ∧ bootBuiltins x = some (.type t) ∧ PySem.W.kitOne K (.ref (ct c)) (.type t) = some b)
section
variable {X : Cx} {ct : Nat → Addr} {W : WX} {c i : Nat} {a : Addr} {cls : Value} {d : Option Addr} {oe : Obj} {pn : List (Addr × Obj)} {pos p np p2 : Pos} {n x : Str} {b : Bool}
theorem tdx_isi (O : IsX X.K X.mg ct c x b) (hm : X.mg "isinstance" = none) (hz : Zc cls d oe) (hf : ∃ vs, oe.data = .fields vs) (hp : PE (X.suite a ((a, oe) :: pn)) (.Name n np) (tVar i)) (hg : Gl (X.suite a ((a, oe) :: pn)) "isinstance" := by rfl) (hgx : Gl (X.suite a ((a, oe) :: pn)) x := by rfl) (hnx : x ≠ "__name__" := by decide) (hdx : (x == ("__debug__" : Str)) = false := by decide)
    (he : starEach [.Name n np, .Name x p2] X.env = (false, eval (.Name n np) X.env) :: starEach [.Name x p2] X.env := by rfl) (he2 : starEach [.Name x p2] X.env = (false, eval (.Name x p2) X.env) :: starEach [] X.env := by rfl) (hpl : (backTo pos (starEach [.Name x p2] X.env)).any (·.1) = false := by rfl)
    (ht : ∀ whole, isTrue (.Call (.Name "isinstance" p) [.Name n np, .Name x p2] [] pos) X.env whole = (do let v ← whole; standAt (Expr.Call (.Name "isinstance" p) [.Name n np, .Name x p2] [] pos).pos; holding [v] (truthy v)) := by intro _; rfl) :
    TDX (X.suite a ((a, oe) :: pn)) ct W c i a cls d (.Call (.Name "isinstance" p) [.Name n np, .Name x p2] [] pos) (fun _ => pur b) := by
  have key : ∀ (c2 : V) (cv : Value), (∀ u, RelV c2 u → u = cv) → PySem.W.kitOne X.K (.ref (ct c)) cv = some b → PE (X.suite a ((a, oe) :: pn)) (.Name x p2) (tC c2) → TDX (X.suite a ((a, oe) :: pn)) ct W c i a cls d (.Call (.Name "isinstance" p) [.Name n np, .Name x p2] [] pos) (fun _ => pur b) := fun c2 cv hcv hk pe => by
    refine ⟨_, pt_truth (pe_callB (call_isX O.C hz hf) hg hm PyProof.Rows.boot_isinstance (pa_cons hp (pa_cons pe pa_nil he2) he) (by decide) (by decide) he hpl) ht, fun σ H γ s Q x R hσ hx hxc g => ?_⟩
    refine ⟨_, hσ, c2, cv, b, rfl, ?_, hcv, hk, fun dx hd => ?_, b, rfl, g γ H Step.refl R⟩
    · rw [hx.1, hxc]
    · rcases hx.2 with ⟨_, e⟩ | ⟨dx2, fs, e3, e4, _⟩
      · rw [e] at hd; cases hd
      · rw [e3] at hd; cases hd; exact ⟨fs, e4⟩
  rcases O.ex with ⟨A, hA, hk⟩ | ⟨t, h0, hb, hk⟩
  · exact key (.ref A) (.ref A) (fun u h => h) hk (pe_glob hgx hA rfl hdx)
  · exact key (.ty t) (.type t) (fun u h => h) hk (pe_bltn hgx h0 hb rfl hnx hdx)
end
end Fd
set_option Elab.async false
set_option linter.all false
set_option maxRecDepth 100000
set_option maxHeartbeats 4000000
/-! ## the head of a row: every fact is a test of the written part -/
namespace Fd
open PySem PySem.Spec PyProof.Rows L2
theorem and2 {a b : Bool} (h : (a && b) = true) : a = true ∧ b = true := Bool.and_eq_true_iff.mp h
theorem sameO_ok {a b : Option (Option Value)} (h : sameO a b = true) : a = b := of_decide_eq_true h
theorem ty_six (t : Ty) (h : t ≠ .none) : t ∈ tySix := by cases t <;> first | exact absurd rfl h | decide
theorem ty_all (t : Ty) : t ∈ Ty.none :: tySix := by cases t <;> decide
mutual
theorem isV_ok {K : Fr} {ct : Nat → Addr} : ∀ {d : D} {u : Value}, isV K d u = true → ∃ v, RelV v u ∧ ∀ H, RepD K ct H v d
  | .non, .none, _ => ⟨.non, rfl, fun _ => .non⟩
  | .bl b, .bool c, h => by
    have e : b = c := by simpa [isV] using h
    subst e
    exact ⟨.bl b, rfl, fun _ => .bl b⟩
  | .int i, .int j t, h => by
    have e : i = j := by simpa [isV] using h
    subst e
    exact ⟨.int i, ⟨t, rfl⟩, fun _ => .int i⟩
  | .str x, .str y t, h => by
    have e : x = y := by simpa [isV] using h
    subst e
    exact ⟨.str x, ⟨t, rfl⟩, fun _ => .str x⟩
  | .tup ds, .ref a, h => by
    unfold isV at h
    split at h
    · rename_i t c2 its n sl q
      obtain ⟨h1, h2⟩ := and2 h
      obtain ⟨h3, h4⟩ := and2 h2
      obtain ⟨vs, hv, hr⟩ := isVs_ok (ct := ct) h4
      have et : t = "tuple" := of_decide_eq_true h1
      subst et
      exact ⟨.ref a, rfl, fun H => .tup (sqT_K q rfl rfl (of_decide_eq_true h3) hv) (hr H)⟩
    · cases h
  | .lst _, _, h => by simp [isV] at h
  | .obj _ _, _, h => by simp [isV] at h
  | .dct _, _, h => by simp [isV] at h
  | .dcp _, _, h => by simp [isV] at h
  | .non, .bool _, h | .non, .int _ _, h | .non, .float _ _, h | .non, .str _ _, h | .non, .bytes _ _, h | .non, .type _, h | .non, .builtin _, h | .non, .ref _, h => by simp [isV] at h
  | .bl _, .none, h | .bl _, .int _ _, h | .bl _, .float _ _, h | .bl _, .str _ _, h | .bl _, .bytes _ _, h | .bl _, .type _, h | .bl _, .builtin _, h | .bl _, .ref _, h => by simp [isV] at h
  | .int _, .none, h | .int _, .bool _, h | .int _, .float _ _, h | .int _, .str _ _, h | .int _, .bytes _ _, h | .int _, .type _, h | .int _, .builtin _, h | .int _, .ref _, h => by simp [isV] at h
  | .str _, .none, h | .str _, .bool _, h | .str _, .float _ _, h | .str _, .int _ _, h | .str _, .bytes _ _, h | .str _, .type _, h | .str _, .builtin _, h | .str _, .ref _, h => by simp [isV] at h
  | .tup _, .none, h | .tup _, .bool _, h | .tup _, .float _ _, h | .tup _, .int _ _, h | .tup _, .bytes _ _, h | .tup _, .type _, h | .tup _, .builtin _, h | .tup _, .str _ _, h => by simp [isV] at h
theorem isVs_ok {K : Fr} {ct : Nat → Addr} : ∀ {ds : List D} {us : List Value}, isVs K ds us = true → ∃ vs, Vals vs us ∧ ∀ H, RepDs K ct H vs ds
  | [], [], _ => ⟨[], .nil, fun _ => .nil⟩
  | [], _ :: _, h => by simp [isVs] at h
  | _ :: _, [], h => by simp [isVs] at h
  | d :: ds, u :: us, h => by
    obtain ⟨h1, h2⟩ := and2 (show (isV K d u && isVs K ds us) = true by simpa [isVs] using h)
    obtain ⟨v, hv, hr⟩ := isV_ok (ct := ct) h1
    obtain ⟨vs, hvs, hrs⟩ := isVs_ok (ct := ct) h2
    exact ⟨v :: vs, .cons hv hvs, fun H => .cons (hr H) (hrs H)⟩
end
theorem fnO_ok {K : Fr} {d : Df} {dfl : Value → Bool} (e : fnO K (d.ad K) = d.val) (c : codeT K (d.ad K) d.qual dfl = true) (hc : d.cell = false) :
    ∃ oc od osl dV kV doc pm an cdv ct, K.lookup (d.ad K) = some ⟨oc, od, .func (PySem.W.fnOf d.name d.qual (defArgs d.st) (defBody d.st) (defScope d.st) dV kV doc pm an cdv ct), osl⟩ ∧ PySem.W.codeIn K cdv d.qual = true ∧ dfl dV = true ∧ PySem.W.keepIn K (.ref (d.ad K)) = true := by
  obtain ⟨kp, c2⟩ := and2 c
  unfold fnO at e
  cases q : K.lookup (d.ad K) with
  | none => rw [q] at c2; cases c2
  | some o =>
    obtain ⟨oc, od, dt, osl⟩ := o
    rw [q] at c2 e
    cases dt with
    | func fd =>
      obtain ⟨n1, n2, n3, n4, n5, n6, n7, n8, n9, n10, n11, n12, n13, n14, n15⟩ := fd
      have e2 : (some (n1, n2, n3, n4, n5, n6, n7.map (·.1), n15) : FnO) = some (d.name, d.qual, defArgs d.st, .stmts (defBody d.st), defScope d.st, mainGlobals, cellN d.cell, builtinsNs) := e
      rw [hc] at e2
      simp only [Option.some.injEq, Prod.mk.injEq] at e2
      obtain ⟨h1, h2, h3, h4, h5, h6, h7, h8⟩ := e2
      have h7' : n7 = [] := by
        cases n7 with
        | nil => rfl
        | cons _ _ => cases h7
      subst h1 h2 h3 h4 h5 h6 h7' h8
      obtain ⟨k1, k2⟩ := and2 (show (PySem.W.codeIn K n13 d.qual && dfl n8) = true from c2)
      exact ⟨oc, od, osl, n8, n9, n10, n11, n12, n13, n14, rfl, k1, k2, kp⟩
    | _ => cases c2
section
variable {K : Fr} {mg : Str → Option Value} {h : Heap} {ct : Nat → Addr} {c : Nat} {x m : Str} {st : Stmt}
theorem funD0 {d : Df} (e : fnO K (d.ad K) = d.val) (q : tFn d K = true) (hc : d.cell = false := by rfl) : ∃ fd, FunD K d.name d.qual (defArgs d.st) (defBody d.st) (defScope d.st) [] [] (d.ad K) fd := by
  obtain ⟨oc, od, osl, dV, kV, doc, pm, an, cdv, ct1, l, k1, k2, kp⟩ := fnO_ok e q hc
  cases dV with
  | none => exact ⟨_, ⟨⟨oc, od, _, kV, doc, pm, an, cdv, ct1, osl, rfl, l, k1, .inl ⟨rfl, rfl⟩, .inl rfl⟩, kp⟩⟩
  | _ => cases k2
theorem funDV {d : Df} {dvs : List V} (e : fnO K (d.ad K) = d.val) (q : tFnV d dvs K = true) (hd : dvs ≠ []) (hc : d.cell = false := by rfl) : ∃ fd, FunD K d.name d.qual (defArgs d.st) (defBody d.st) (defScope d.st) dvs [] (d.ad K) fd := by
  obtain ⟨oc, od, osl, dV, kV, doc, pm, an, cdv, ct1, l, k1, k2, kp⟩ := fnO_ok e q hc
  cases dV with
  | ref T =>
    unfold dflV at k2
    dsimp only at k2
    split at k2
    · rename_i o2 c2 its n sl lT
      exact ⟨_, ⟨⟨oc, od, _, kV, doc, pm, an, cdv, ct1, osl, rfl, l, k1, .inr ⟨hd, T, _, its.toList, n, rfl, lT, by simp, He.relAll_ok k2⟩, .inl rfl⟩, kp⟩⟩
    · cases k2
  | _ => cases k2
theorem funDD {d : Df} {ds : List D} (e : fnO K (d.ad K) = d.val) (q : tFnD d ds K = true) (hd : ds ≠ []) (hc : d.cell = false := by rfl) : ∃ (dvs : List V) (fd : FuncData), dvs ≠ [] ∧ dvs.length = ds.length ∧ (∀ H, RepDs K ct H dvs ds) ∧ FunD K d.name d.qual (defArgs d.st) (defBody d.st) (defScope d.st) dvs [] (d.ad K) fd := by
  obtain ⟨oc, od, osl, dV, kV, doc, pm, an, cdv, ct1, l, k1, k2, kp⟩ := fnO_ok e q hc
  cases dV with
  | ref T =>
    unfold dflD at k2
    dsimp only at k2
    split at k2
    · rename_i o2 c2 its n sl lT
      obtain ⟨vs, hv, hr⟩ := isVs_ok (ct := ct) k2
      have hl : vs.length = ds.length := (hr fun _ => none).length
      have hn : vs ≠ [] := fun z => by
        rw [z] at hl
        exact hd (List.eq_nil_of_length_eq_zero hl.symm)
      exact ⟨vs, _, hn, hl, hr, ⟨⟨oc, od, _, kV, doc, pm, an, cdv, ct1, osl, rfl, l, k1, .inr ⟨hn, T, _, its.toList, n, rfl, lT, by simp, hv⟩, .inl rfl⟩, kp⟩⟩
    · cases k2
  | _ => cases k2
theorem fnT_h {q : Str} {d : Df} (KX : K.In h) (G : h.Ns mainGlobals mg) (g : tGlo x K = true) (e : fnO K (d.ad K) = d.val) (c : tFn d K = true) (hd : d = ⟨(x, none), x, x, st, false, false⟩) : FnT K mg x st [] := by
  subst hd
  obtain ⟨fd, F⟩ := funD0 e c
  exact ⟨_, fd, PySem.W.mg_of KX G (sameO_ok g), F⟩
theorem fnTV_h {d : Df} {dvs : List V} (KX : K.In h) (G : h.Ns mainGlobals mg) (g : tGlo x K = true) (e : fnO K (d.ad K) = d.val) (c : tFnV d dvs K = true) (hd : d = ⟨(x, none), x, x, st, false, false⟩) (hn : dvs ≠ []) : FnT K mg x st dvs := by
  subst hd
  obtain ⟨fd, F⟩ := funDV e c hn
  exact ⟨_, fd, PySem.W.mg_of KX G (sameO_ok g), F⟩
theorem meth_h (t : tMeth x m K = true) : Meth K (gA K x) m (mA K x m) := by
  obtain ⟨h1, h2⟩ := and2 t
  obtain ⟨h3, h4⟩ := and2 h2
  have h3' := of_decide_eq_true h3
  exact ⟨sameO_ok h1, by unfold PySem.W.isFn; rw [h3']; rfl, h4⟩
theorem mthT_h {q : Str} {d : Df} (hct : ct c = gA K x) (t : tMeth x m K = true) (e : fnO K (d.ad K) = d.val) (k : tFn d K = true) (hd : d = ⟨(x, some m), m, q, st, false, false⟩) : MthT K ct c m q st [] := by
  subst hd
  obtain ⟨fd, F⟩ := funD0 e k
  exact ⟨_, fd, by rw [hct]; exact meth_h t, F⟩
theorem mthD_h {q : Str} {d : Df} {ds : List D} (hct : ct c = gA K x) (t : tMeth x m K = true) (e : fnO K (d.ad K) = d.val) (k : tFnD d ds K = true) (hd : d = ⟨(x, some m), m, q, st, false, false⟩) (hn : ds ≠ []) : MthD K ct c m q st ds := by
  subst hd
  obtain ⟨dvs, fd, h1, h2, h3, F⟩ := funDD (ct := ct) e k hn
  exact ⟨dvs, h1, h2, ⟨_, fd, by rw [hct]; exact meth_h t, F⟩, h3⟩
theorem prpT_h {q : Str} {d : Df} (hct : ct c = gA K x) (t : tPrp x m K = true) (e : fnO K (d.ad K) = d.val) (k : tFn d K = true) (hd : d = ⟨(x, some m), m, q, st, false, true⟩) : PrpT K ct c m q st := by
  subst hd
  obtain ⟨fd, F⟩ := funD0 e k
  unfold tPrp at t
  simp only [Bool.and_eq_true] at t
  obtain ⟨h1, h2, h3, h4⟩ := t
  have ea : (Df.ad K ⟨(x, some m), m, q, st, false, true⟩) = prA K (mA K x m) := rfl
  rw [ea] at F
  unfold prA at F
  split at h4
  · rename_i g rest er
    rw [er] at F
    exact ⟨mA K x m, g, fd, ⟨by rw [hct]; exact sameO_ok h1, sameO_ok h2, of_decide_eq_true h3, rest, er⟩, F⟩
  · cases h4
theorem clsT_h (hct : ct c = gA K x) (t : tCls x K = true) : ClsT K ct c := by
  unfold tCls at t
  simp only [Bool.and_eq_true] at t
  obtain ⟨h1, h2, h3, h4, h5, h6, h7, h8⟩ := t
  exact clsT0 hct h1 h2 h3 (sameO_ok h4) (sameO_ok h5) (sameO_ok h6) (of_decide_eq_true h7) (of_decide_eq_true h8)
theorem kb_h (hct : ct c = gA K x) (t : tKb x K = true) : ∀ y : Ty, y ≠ .none → PySem.W.kitOne K (.ref (ct c)) (.type y.nm) = some false := fun y hy => by
  rw [hct]
  exact of_decide_eq_true (List.all_eq_true.mp t y (ty_six y hy))
theorem kc_h (hct : ct c = gA K x) (t : tKc x K = true) : ∀ y : Ty, PySem.W.kitOne K (.type y.nm) (.ref (ct c)) = some false := fun y => by
  rw [hct]
  exact of_decide_eq_true (List.all_eq_true.mp t y (ty_all y))
theorem nb_h (hct : ct c = gA K x) (t : tNb x K = true) : ∀ y : Ty, PySem.W.notFirst K (ct c) (.type y.nm) = true := fun y => by
  rw [hct]
  exact List.all_eq_true.mp t y (ty_all y)
theorem mkT_h (KX : K.In h) (G : h.Ns mainGlobals mg) (hct : ct c = gA K x) (t : tMk x K = true) : MkT K mg ct c x := by
  obtain ⟨h1, h2⟩ := and2 t
  obtain ⟨h3, h4⟩ := and2 h2
  exact mkT0 KX G hct h1 h3 (sameO_ok h4)
theorem csT_h {d : D} (KX : K.In h) (G : h.Ns mainGlobals mg) (t : tCon x d K = true) : CsT K mg ct x d := by
  unfold tCon at t
  split at t
  · rename_i u e
    obtain ⟨v, hv, hr⟩ := isV_ok (ct := ct) t
    exact ⟨v, u, PySem.W.mg_of KX G e, hv, hr⟩
  · cases t
end
theorem xo_h {K : Fr} {x : Str} (q : tXo x K = true) : ∃ nm qn N bs bm sn sub ab col dd m0 m1 m2 m3 m5, K.lookup (gA K x) = some (excClassObj nm qn (gA K x) N bs bm true sn sub ab col dd m0 m1 m2 m3 m5 "ValueError.__new__") ∧ PySem.HandSPX.refsVE bm = true := by
  unfold tXo at q
  split at q
  · rename_i t dd cd sl ho
    split at q
    · rename_i C' bm k0 k1 k2 k3 n k5 hm hs
      simp only [Bool.and_eq_true, decide_eq_true_eq, Bool.not_eq_true'] at q
      obtain ⟨h1, h2, h3, h4, h5, h6⟩ := q
      obtain ⟨nm, bs, mro, ns, qn, hdd, sn, sub, ab, col, del⟩ := cd
      dsimp only at hm h4 h5
      subst hm h4 h5 h1 h2 h3
      have hsl : sl = #[k0, k1, k2, k3, some (.builtin "ValueError.__new__"), k5] := by
        obtain ⟨l⟩ := sl
        simp only at hs
        rw [hs]
      subst hsl
      exact ⟨nm, qn, ns, bs, bm, sn, sub, ab, col, dd, k0, k1, k2, k3, k5, ho, h6⟩
    · cases q
  · cases q
theorem xi_h {K : Fr} {x q file : Str} {st : Stmt} {d : Df} (hd : d = ⟨(x, some "__init__"), "__init__", q, st, true, false⟩) (e : fnO K (d.ad K) = d.val) (c : tXi x q file K = true) :
    ∃ oc od kV doc pm an cda ct1 cc osl ccl cdd cvs ccs tf cl cld csl, K.lookup (mA K x "__init__") = some ⟨oc, od, .func (PySem.W.ksFn "__init__" q (defArgs st) (defBody st) (defScope st) .none kV doc pm an (.ref cda) ct1 cc), osl⟩ ∧ PySem.W.codeIn K (.ref cda) q = true ∧
      K.lookup cda = some ⟨ccl, cdd, .fields cvs, ccs⟩ ∧ cvs[2]? = some (.str file tf) ∧ K.lookup cc = some ⟨cl, cld, .cell (some (.ref (gA K x))), csl⟩ ∧ PySem.W.keepIn K (.ref (mA K x "__init__")) = true := by
  subst hd
  obtain ⟨kp, c2⟩ := and2 c
  have ea : He.fAd K (x, some "__init__") = mA K x "__init__" := rfl
  rw [ea] at kp c2
  have eb : Df.ad K ⟨(x, some "__init__"), "__init__", q, st, true, false⟩ = mA K x "__init__" := rfl
  rw [eb] at e
  unfold fnO at e
  cases ql : K.lookup (mA K x "__init__") with
  | none => rw [ql] at c2; cases c2
  | some o =>
    obtain ⟨oc, od, dt, osl⟩ := o
    rw [ql] at c2 e
    cases dt with
    | func fd =>
      obtain ⟨n1, n2, n3, n4, n5, n6, n7, n8, n9, n10, n11, n12, n13, n14, n15⟩ := fd
      have e2 : (some (n1, n2, n3, n4, n5, n6, n7.map (·.1), n15) : FnO) = some (("__init__" : Str), q, defArgs st, FuncBody.stmts (defBody st), defScope st, mainGlobals, ([("__class__" : Str)] : List Str), builtinsNs) := e
      simp only [Option.some.injEq, Prod.mk.injEq] at e2
      obtain ⟨h1, h2, h3, h4, h5, h6, h7, h8⟩ := e2
      dsimp only at c2
      split at c2
      · rename_i _ _ y cc cda
        obtain ⟨a1, a2⟩ := and2 c2
        obtain ⟨a3, a4⟩ := and2 a2
        obtain ⟨a5, a6⟩ := and2 a4
        have ey : y = "__class__" := by
          have : [y] = (["__class__"] : List Str) := h7
          exact (List.cons.inj this).1
        cases n8 with
        | none =>
          unfold isCode at a5
          split at a5
          · rename_i ccl cdd cvs ccs hcode
            split at a5
            · rename_i f tf hvs
              have ef := of_decide_eq_true a5
              subst ef
              unfold isCell at a6
              split at a6
              · rename_i cl cld C' csl hcell
                have eC := of_decide_eq_true a6
                subst eC
                subst h1 h2 h3 h4 h5 h6 h8 ey
                exact ⟨oc, od, n9, n10, n11, n12, cda, n14, cc, osl, ccl, cdd, cvs, ccs, tf, cl, cld, csl, rfl, a3, hcode, hvs, hcell, kp⟩
              · cases a6
            · cases a5
          · cases a5
        | _ => cases a1
      · cases c2
    | _ => cases c2
section
variable {fs : List (Fr → Bool)} {fn : List Df} {K : Fr}
theorem fact_h (c : obsK fs fn K = valK fn) (i : Nat) {f : Fr → Bool} (h : fs[i]? = some f := by rfl) : f K = true :=
  List.all_eq_true.mp (show (fs.all fun f => f K) = true from congrArg (fun z : AlH => z.1) c) f (List.mem_of_getElem? h)
theorem def_h (c : obsK fs fn K = valK fn) (i : Nat) {d : Df} (h : fn[i]? = some d := by rfl) : fnO K (d.ad K) = d.val := by
  have e : fn.map (fun d => fnO K (d.ad K)) = fn.map Df.val := congrArg (fun z : AlH => z.2) c
  have e2 : (fn.map fun d => fnO K (d.ad K))[i]? = (fn.map Df.val)[i]? := by rw [e]
  rw [List.getElem?_map, List.getElem?_map, h] at e2
  exact Option.some.inj e2
end
/-- the law's end over such a head -/
theorem law_endH {l : PySem.W.OpenLaw} {q : Program} {loose : List Str} {XP : (Str → Option Value) → Heap → Prop} {YP : World → Heap → Prop} {d : DefRec} {k : Nat} (hn : l.most = some 63) (hdf : d.params.defaults = []) (hr : Room k callerA)
    (F : ∀ (w : World) (mg : Str → Option Value) (fa : Addr) (h : Heap), YP w h → h.Ns mainGlobals mg → mg d.name = some (.ref fa) →
      ∃ (K : Fr), K.In h ∧ ∃ fd : FuncData, (∀ (s : Shared) (u : Value), BindsTo s fd ⟨[u], []⟩ [("_law_script", u)]) ∧ ∀ base : Heap, K.In base → base.Ns mainGlobals mg → FnOk l.prog w K mg base (L2.CX l.prog w) k fa fd ["_law_script"] (spLaw K)) :
    PySem.W.WalkO q loose XP YP l.row.toRowW d [] (fun f vs => PySem.call f vs) := by
  refine Att.attach_call hn hdf fun w s₀ s₁ mg mb fa o pm cd doc a vs ns G Y ho hd hcd hmg hobj hints hlen hg => ?_
  obtain ⟨K, KX, fd, hb, hF⟩ := F w mg fa _ Y G.T.g hmg
  refine law_call KX G.T.g G.T.b G.T.builtins G.T.nolimit hg hobj hints (Nat.le_trans hlen (by decide)) hr hF hb (fun H hO hS => ⟨a, ns, rfl, hS, hlen, fun _ => rfl⟩) fun H e s' h => ?_
  obtain ⟨a, B, H', cls, d, _, _, _, _, _, _, _, z⟩ := h
  exact z
theorem exs_h {K : Fr} {x : Str} {c : Nat} : ∀ {xs : List Str} {i : Nat}, tExs xs x c i K = true → ∀ j y, xs[j]? = some y → PySem.W.exmOne K (.ref (gA K y)) (.ref (gA K x)) = some ((i + j) == c)
  | [], _, _, _, _, h => by simp at h
  | z :: r, i, t, j, y, h => by
    obtain ⟨t1, t2⟩ := and2 (show (decide (PySem.W.exmOne K (.ref (gA K z)) (.ref (gA K x)) = some (i == c)) && tExs r x c (i + 1) K) = true from t)
    cases j with
    | zero =>
      have e : z = y := by simpa using h
      subst e
      exact of_decide_eq_true t1
    | succ j =>
      have := exs_h t2 j y (by simpa using h)
      rwa [show i + 1 + j = i + (j + 1) by omega] at this
theorem errH_h {K : Fr} {mg : Str → Option Value} {h : Heap} {ct : Nat → Addr} {c : Nat} {x : Str} {xs : List Str} (KX : K.In h) (G : h.Ns mainGlobals mg) (hct : ct c = gA K x) (ha : ∀ j y, xs[j]? = some y → ct j = gA K y) (g : tGlo x K = true) (t : tXh x K = true) (m : tExs xs x c 0 K = true) : ErrH K mg ct x c (exsOf xs.length c) := by
  unfold tXh at t
  simp only [Bool.and_eq_true] at t
  obtain ⟨h1, h2, h3, h4⟩ := t
  refine ⟨by rw [hct]; exact ⟨sameO_ok h1, sameO_ok h2, of_decide_eq_true h3, h4⟩, by rw [hct]; exact PySem.W.mg_of KX G (sameO_ok g), fun c1 b hb => ?_⟩
  unfold exsOf at hb
  split at hb
  · rename_i lt
    cases hb
    obtain ⟨y, hy⟩ : ∃ y, xs[c1]? = some y := ⟨_, List.getElem?_eq_getElem lt⟩
    rw [hct, ha c1 y hy]
    have := exs_h m c1 y hy
    rwa [Nat.zero_add] at this
  · cases hb
theorem excC_h {K : Fr} {x : Str} {D : Addr} (hct : D = gA K x) (t : tExI x K = true) : ExcC K D := by
  subst hct
  unfold tExI tXh at t
  simp only [Bool.and_eq_true] at t
  obtain ⟨⟨h1, h2, h3, h4⟩, h5, h6, h7, h8⟩ := t
  exact ⟨sameO_ok h1, sameO_ok h2, of_decide_eq_true h3, h4, sameO_ok h5, sameO_ok h6, of_decide_eq_true h7, of_decide_eq_true h8⟩
theorem isX_own {K : Fr} {mg : Str → Option Value} {h : Heap} {ct : Nat → Addr} {c : Nat} {x y : Str} {b : Bool} (KX : K.In h) (G : h.Ns mainGlobals mg) (hct : ct c = gA K x) (t : tExI x K = true) (g : tGlo y K = true) (k : tKit x y b K = true) : IsX K mg ct c y b :=
  ⟨excC_h hct t, .inl ⟨gA K y, PySem.W.mg_of KX G (sameO_ok g), by rw [hct]; exact of_decide_eq_true k⟩⟩
theorem isX_ty {K : Fr} {mg : Str → Option Value} {h : Heap} {ct : Nat → Addr} {c : Nat} {x y : Str} {t' : String} {b : Bool} (KX : K.In h) (G : h.Ns mainGlobals mg) (hct : ct c = gA K x) (t : tExI x K = true) (g : tFree y K = true) (hb : bootBuiltins y = some (.type t')) (k : tKiT x t' b K = true) : IsX K mg ct c y b :=
  ⟨excC_h hct t, .inr ⟨t', PySem.W.mg_none_of KX G (sameO_ok g), hb, by rw [hct]; exact of_decide_eq_true k⟩⟩
end Fd
set_option Elab.async false
set_option linter.all false
set_option maxRecDepth 100000
set_option maxHeartbeats 4000000
namespace Law
open PySem PySem.Spec PyProof.Rows L2 Fd
structure Txt (P : Program) (w : World) (K : PySem.W.Frag) (mg : Str → Option Value) (base : Heap) (ct : Nat → Addr) : Prop where
  abs : mg "abs" = none
  bool : mg "bool" = none
  int : mg "int" = none
  isinstance : mg "isinstance" = none
  len : mg "len" = none
  list : mg "list" = none
  range : mg "range" = none
  repr : mg "repr" = none
  tuple : mg "tuple" = none
  gcd : mg "gcd" = some (.builtin "math.gcd")
  c_DOWN : CsT K mg ct "DOWN" (.tup [.tup [.int 0, .int 1], .tup [.int (-1), .int 1]])
  c_LEFT : CsT K mg ct "LEFT" (.tup [.tup [.int (-1), .int 1], .tup [.int 0, .int 1]])
  c_ONE : CsT K mg ct "ONE" (.tup [.int 1, .int 1])
  c_RIGHT : CsT K mg ct "RIGHT" (.tup [.tup [.int 1, .int 1], .tup [.int 0, .int 1]])
  c_UP : CsT K mg ct "UP" (.tup [.tup [.int 0, .int 1], .tup [.int 1, .int 1]])
  c_ZERO : CsT K mg ct "ZERO" (.tup [.int 0, .int 1])
  f_is_whole : FnT K mg "is_whole" s_is_whole [.non, .non]
  f_is_ratio : FnT K mg "is_ratio" s_is_ratio []
  f_lowest_terms : FnT K mg "lowest_terms" s_lowest_terms []
  f_plus : FnT K mg "plus" s_plus []
  f_minus : FnT K mg "minus" s_minus []
  f_times : FnT K mg "times" s_times []
  f_over : FnT K mg "over" s_over []
  f_negative : FnT K mg "negative" s_negative []
  f_is_spot : FnT K mg "is_spot" s_is_spot []
  f_check_spot : FnT K mg "check_spot" s_check_spot []
  f_square_sum : FnT K mg "square_sum" s_square_sum []
  f_is_direction : FnT K mg "is_direction" s_is_direction []
  f_check_direction : FnT K mg "check_direction" s_check_direction []
  f_check_half : FnT K mg "check_half" s_check_half []
  f_direction_by : FnT K mg "direction_by" s_direction_by []
  f_half_of : FnT K mg "half_of" s_half_of []
  f_add_halves : FnT K mg "add_halves" s_add_halves []
  f_turn_along : FnT K mg "turn_along" s_turn_along []
  f_turned_by : FnT K mg "turned_by" s_turned_by []
  f_quarter_direction : FnT K mg "quarter_direction" s_quarter_direction []
  f_turned_quarters : FnT K mg "turned_quarters" s_turned_quarters []
  f_opposite_of : FnT K mg "opposite_of" s_opposite_of []
  f_mirrored_direction : FnT K mg "mirrored_direction" s_mirrored_direction []
  f_cosine_between : FnT K mg "cosine_between" s_cosine_between []
  f_sine_between : FnT K mg "sine_between" s_sine_between []
  f_law_hand : FnT K mg "_law_hand" s_law_hand []
  f_law_take : FnT K mg "_law_take" s_law_take []
  f_law_gcd : FnT K mg "_law_gcd" s_law_gcd []
  f_law_ratio : FnT K mg "_law_ratio" s_law_ratio []
  f_law_plus : FnT K mg "_law_plus" s_law_plus []
  f_law_less : FnT K mg "_law_less" s_law_less []
  f_law_times : FnT K mg "_law_times" s_law_times []
  f_law_over : FnT K mg "_law_over" s_law_over []
  f_law_is_ratio : FnT K mg "_law_is_ratio" s_law_is_ratio []
  f_law_mark : FnT K mg "_law_mark" s_law_mark []
  f_law_direction : FnT K mg "_law_direction" s_law_direction []
  f_law_half : FnT K mg "_law_half" s_law_half []
  f_law_wide : FnT K mg "_law_wide" s_law_wide []
  f_law_any_half : FnT K mg "_law_any_half" s_law_any_half []
  f_law_square : FnT K mg "_law_square" s_law_square []
  f_law_same : FnT K mg "_law_same" s_law_same []
  f_law_same_row : FnT K mg "_law_same_row" s_law_same_row []
  f_law_truth : FnT K mg "_law_truth" s_law_truth []
  f_law_form : FnT K mg "_law_form" s_law_form []
  f_law_is_spot : FnT K mg "_law_is_spot" s_law_is_spot []
  f_law_is_direction : FnT K mg "_law_is_direction" s_law_is_direction []
  f_law_odd : FnT K mg "_law_odd" s_law_odd []
  f_law_spoilt_direction : FnT K mg "_law_spoilt_direction" s_law_spoilt_direction []
  f_law_spoilt_half : FnT K mg "_law_spoilt_half" s_law_spoilt_half []
  f_law_is_half : FnT K mg "_law_is_half" s_law_is_half []
  f_law_called : FnT K mg "_law_called" s_law_called []
  f_law_told : FnT K mg "_law_told" s_law_told []
  f_law_due : FnT K mg "_law_due" s_law_due []
  f_law_quarters : FnT K mg "_law_quarters" s_law_quarters []
  x_BadRatio : ErrX P w K mg base ct "BadRatio" 0 ["what"]
  x_BadSpot : ErrX0 P w K mg base ct "BadSpot" 1
  h_BadSpot : ErrH K mg ct "BadSpot" 1 (exsOf 5 1)
  isx_BadSpot_ArmError : IsX K mg ct 1 "ArmError" true
  isx_BadSpot_ValueError : IsX K mg ct 1 "ValueError" true
  x_BadDirection : ErrX0 P w K mg base ct "BadDirection" 2
  h_BadDirection : ErrH K mg ct "BadDirection" 2 (exsOf 5 2)
  isx_BadDirection_ArmError : IsX K mg ct 2 "ArmError" true
  isx_BadDirection_ValueError : IsX K mg ct 2 "ValueError" true
  x_BadHalf : ErrX0 P w K mg base ct "BadHalf" 3
  h_BadHalf : ErrH K mg ct "BadHalf" 3 (exsOf 5 3)
  isx_BadHalf_ArmError : IsX K mg ct 3 "ArmError" true
  isx_BadHalf_ValueError : IsX K mg ct 3 "ValueError" true
  x_BadQuarters : ErrX0 P w K mg base ct "BadQuarters" 4
  h_BadQuarters : ErrH K mg ct "BadQuarters" 4 (exsOf 5 4)
  isx_BadQuarters_ArmError : IsX K mg ct 4 "ArmError" true
  isx_BadQuarters_ValueError : IsX K mg ct 4 "ValueError" true
section
variable {P : Program} {w : World} {K : PySem.W.Frag} {mg : Str → Option Value} {base : Heap} {ct : Nat → Addr}
abbrev N_law_take : List Str := ["_law_hand_here", "_law_many", "_law_cell", "_law_once", "_law_twice"]
theorem sc_law_take : FnScope N_law_take ["_law_hand_here", "_law_many"] (defScope s_law_take) := ⟨rfl, rfl, rfl, by decide +kernel, rfl, by decide +kernel, by decide +kernel⟩
theorem ok_law_take (T : Txt P w K mg base ct) : OkH P w K mg base ct "_law_take" 2 1 R_law_take := by
  obtain ⟨f, fd, hm, F⟩ := T.f_law_take.ex
  refine ⟨f, fd, ["_law_hand_here", "_law_many"], rfl, hm, F.kp, F.ok sc_law_take (fun vs H Q E h => h.1) fun cdv A outer s H vs Q E hr h => ?_, F.bindsN fun _ _ _ _ _ _ us hl => match us, hl with | [_, _], _ => rfl⟩
  exact ⟨_, (pss_cons (ps_while (passes_of rfl) (PW.pt (pw_and (pt_truth (pe_ix ix_list (pv 0) pe_int (fun _ _ => rfl)) (fun _ => rfl)) (pw_and1 (pt_cmpR op_eq (pe_ix ix_list (pe_ix ix_list (pv 0) pe_int (fun _ _ => rfl)) pe_int (fun _ _ => rfl)) pe_int (nomark _))))) (pss_one (ps_asg (pe_slice sl_list (pe_ix ix_list (pv 0) pe_int (fun _ _ => rfl)) (po_some pe_int) po_none) (pg_sub (pv 0) pe_int set_list (fun _ => rfl)))))
    (pss_cons (ps_if (pt_truth (pe_ix ix_list (pv 0) pe_int (fun _ _ => rfl)) (fun _ => rfl)) (pss_cons (ps_asg (pe_ix ix_list (pe_ix ix_list (pv 0) pe_int (fun _ _ => rfl)) pe_int (fun _ _ => rfl)) (pg_name (i := 2) sc_law_take.nd rfl (.inl rfl))) (pss_cons (ps_asg (pe_op op_divF (pe_callTy call_int1 (by rfl) T.int PyProof.Rows.boot_int (pa_cons (pv 2) pa_nil)) (pv 1)) (pg_sub (pe_ix ix_list (pv 0) pe_int (fun _ _ => rfl)) pe_int set_list (fun _ => rfl))) (pss_one (ps_ret (pe_op op_mod (pe_callTy call_int1 (by rfl) T.int PyProof.Rows.boot_int (pa_cons (pv 2) pa_nil)) (pv 1)))))) pss_nil)
    (pss_cons (ps_asg (pe_op op_add (pe_ix ix_list (pv 0) pe_int (fun _ _ => rfl)) pe_int) (pg_sub (pv 0) pe_int set_list (fun _ => rfl)))
    (pss_cons (ps_asg (pe_op op_mod (pe_callTy call_int1 (by rfl) T.int PyProof.Rows.boot_int (pa_cons (pe_op op_add (pe_op op_mul (pe_ix ix_list (pv 0) pe_int (fun _ _ => rfl)) pe_int) pe_int) pa_nil)) pe_int) (pg_sub (pv 0) pe_int set_list (fun _ => rfl)))
    (pss_cons (ps_asg (pe_op op_mod (pe_callTy call_int1 (by rfl) T.int PyProof.Rows.boot_int (pa_cons (pe_op op_add (pe_op op_mul (pe_ix ix_list (pv 0) pe_int (fun _ _ => rfl)) pe_int) (pe_op op_mul (pe_ix ix_list (pv 0) pe_int (fun _ _ => rfl)) pe_int)) pa_nil)) pe_int) (pg_name (i := 3) sc_law_take.nd rfl (.inl rfl)))
    (pss_cons (ps_asg (pe_op op_mod (pe_callTy call_int1 (by rfl) T.int PyProof.Rows.boot_int (pa_cons (pe_op op_add (pe_op op_add (pe_op op_mul (pv 3) (pv 3)) (pe_op op_mul (pe_ix ix_list (pv 0) pe_int (fun _ _ => rfl)) pe_int)) (pe_op op_fdiv (pv 3) pe_int)) pa_nil)) pe_int) (pg_name (i := 4) sc_law_take.nd rfl (.inl rfl)))
    (pss_one (ps_ret (pe_op op_mod (pe_callTy call_int1 (by rfl) T.int PyProof.Rows.boot_int (pa_cons (pe_op op_fdiv (pv 4) pe_int) pa_nil)) (pv 1)))))))))), take_read rfl h⟩
abbrev N_law_hand : List Str := ["_law_script", "_law_great", "_law_mixed", "_law_cell", "_law_size"]
theorem sc_law_hand : FnScope N_law_hand ["_law_script"] (defScope s_law_hand) := ⟨rfl, rfl, rfl, by decide +kernel, rfl, by decide +kernel, by decide +kernel⟩
theorem ok_law_hand (T : Txt P w K mg base ct) : OkN P w K mg base "_law_hand" 1 := by
  obtain ⟨f, fd, hm, F⟩ := T.f_law_hand.ex
  refine ⟨f, fd, ["_law_script"], rfl, hm, F.kp, F.ok sc_law_hand spN_len fun cdv A outer s H vs Q E hr h => ?_, F.bindsN fun _ _ _ _ _ _ us hl => match us, hl with | [_], _ => rfl⟩
  exact ⟨_, (pss_cons (ps_asg (pe_lst pa_nil) (pg_name (i := 1) sc_law_hand.nd rfl (.inl rfl)))
    (pss_cons (ps_asg (pe_op op_add (pe_callB call_len (by rfl) T.len PySem.boot_len (pa_cons (pv 0) pa_nil)) pe_int) (pg_name (i := 2) sc_law_hand.nd rfl (.inl rfl)))
    (pss_cons (ps_for (passes_of rfl) rfl (pi_list (pv 0)) (pg_name (i := 3) sc_law_hand.nd rfl (.inl rfl))
      (pss_cons (ps_asg (pe_callB call_abs (by rfl) T.abs PyProof.Rows.boot_abs (pa_cons (pe_callTy call_int1 (by rfl) T.int PyProof.Rows.boot_int (pa_cons (pv 3) pa_nil)) pa_nil)) (pg_name (i := 4) sc_law_hand.nd rfl (.inl rfl)))
      (pss_cons (ps_asg (pe_op op_add (pe_op op_mod (pe_callTy call_int1 (by rfl) T.int PyProof.Rows.boot_int (pa_cons (pe_op op_add (pe_op op_mul (pv 2) pe_int) (pv 4)) pa_nil)) pe_int) pe_int) (pg_name (i := 2) sc_law_hand.nd rfl (.inl rfl)))
      (pss_one (ps_if (pt_cmpR op_ge (pv 4) (pe_op op_pow pe_int pe_int) (nomark _)) (pss_one (ps_expr (pe_bm PySem.F.plainAttrs_list PySem.F.slot_list_append PySem.F.type_list_append mt_append (pv 1) (pa_cons (pv 4) pa_nil)))) pss_nil)))))
    (pss_one (ps_ret (pe_lst (pa_cons (pv 1) (pa_cons (pv 2) (pa_cons pe_int pa_nil))))))))), hand_read rfl h⟩

abbrev N_is_whole : List Str := ["thing", "low", "high"]
theorem sc_is_whole : FnScope N_is_whole ["thing", "low", "high"] (defScope s_is_whole) := ⟨rfl, rfl, rfl, by decide +kernel, rfl, by decide +kernel, by decide +kernel⟩
noncomputable def m_is_whole : M Fl := (seqF (ifF (orT (notT (bnd (bnd (getV 0) (isiM .int)) truthM)) (bnd (bnd (getV 0) (isiM .bool)) truthM)) (retF (pur (RB false))) (pur .nx))
    (seqF (ifF (andT (bnd (m2 (getV 1) (pur RN) notNM) asB) (bnd (m2 (getV 0) (getV 1) ltM) asB)) (retF (pur (RB false))) (pur .nx))
    (seqF (ifF (andT (bnd (m2 (getV 2) (pur RN) notNM) asB) (bnd (m2 (getV 0) (getV 2) gtM) asB)) (retF (pur (RB false))) (pur .nx))
    (retF (pur (RB true))))))
noncomputable def R_is_whole : List D → Res := runP 3 m_is_whole
def dd_is_whole : List D := [.non, .non]
theorem bd_is_whole (T : Txt P w K mg base ct) (f : Addr) (cdv : Value) (A : Around) (outer : List Env) (s : Shared) (H : Hp) (E : XK) (hr : Room 0 (A.deeper (envOfC "is_whole" (defScope s_is_whole) s.heap.objs.size f cdv))) : SDs (cxOf (L2.CX P w) P w K mg base N_is_whole "is_whole" (defScope s_is_whole) f cdv A outer s H E) ct (fun cls d _ H => E cls d H) (defBody s_is_whole) m_is_whole :=
    (sds_cons (sd_if (WD.td (wd_or (td_not (td_truth (ed_isi .int (by decide) (by rfl) T.isinstance (nv 0) (pe_bltn (by rfl) T.int PyProof.Rows.boot_int rfl)))) (wd_or1 (td_truth (ed_isi .bool (by decide) (by rfl) T.isinstance (nv 0) (pe_bltn (by rfl) T.bool PyProof.Rows.boot_bool rfl)))))) (sds_one (sd_ret ed_bl)) sds_nil)
    (sds_cons (sd_if (WD.td (wd_and (td_notN (nv 1) ed_non) (wd_and1 (td_lt (nv 0) (nv 1))))) (sds_one (sd_ret ed_bl)) sds_nil)
    (sds_cons (sd_if (WD.td (wd_and (td_notN (nv 2) ed_non) (wd_and1 (td_gt (nv 0) (nv 2))))) (sds_one (sd_ret ed_bl)) sds_nil)
    (sds_one (sd_ret ed_bl)))))
theorem ok_is_whole_1 (T : Txt P w K mg base ct) : OkP P w K mg base ct "is_whole" 3 1 R_is_whole (dd_is_whole.drop 0) :=
  okDf T.f_is_whole sc_is_whole 1 0 (by decide) rfl (fun _ => (.cons (.non) (.cons (.non) .nil))) (fun _ _ _ _ _ _ _ us its hl hi => match us, hl, its, hi with | [_], _, [_, _], _ => ⟨_, rfl, rfl⟩) (bd_is_whole T)
theorem ok_is_whole_2 (T : Txt P w K mg base ct) : OkP P w K mg base ct "is_whole" 3 1 R_is_whole (dd_is_whole.drop 1) :=
  okDf T.f_is_whole sc_is_whole 2 1 (by decide) rfl (fun _ => (.cons (.non) (.cons (.non) .nil))) (fun _ _ _ _ _ _ _ us its hl hi => match us, hl, its, hi with | [_, _], _, [_, _], _ => ⟨_, rfl, rfl⟩) (bd_is_whole T)
abbrev N_is_ratio : List Str := ["thing", "top", "bottom"]
theorem sc_is_ratio : FnScope N_is_ratio ["thing"] (defScope s_is_ratio) := ⟨rfl, rfl, rfl, by decide +kernel, rfl, by decide +kernel, by decide +kernel⟩
noncomputable def m_is_ratio : M Fl := (seqF (ifF (notT (andT (bnd (bnd (getV 0) (isiM .tuple)) truthM) (bnd (m2 (bnd (consB (getV 0) (pur [])) lenM) (pur (RI 2)) eqM) asB))) (retF (pur (RB false))) (pur .nx))
    (seqF (asgF (getV 0) (seqG (consG (setV 1) (consG (setV 2) nilG)) 2))
    (retF (andV (bnd (consA (getV 1) (pur [])) (callM 3 R_is_whole [.non, .non])) (andV (bnd (consA (getV 2) (consA (pur (RI 1)) (pur []))) (callM 3 R_is_whole [.non])) (m2 (bnd (consB (getV 1) (consB (getV 2) (pur []))) gcdM) (pur (RI 1)) eqM))))))
noncomputable def R_is_ratio : List D → Res := runP 3 m_is_ratio
theorem ok_is_ratio (T : Txt P w K mg base ct) : OkP P w K mg base ct "is_ratio" 1 2 R_is_ratio [] :=
  okP T.f_is_ratio sc_is_ratio (fun _ _ _ _ _ _ us hl => match us, hl with | [_], _ => rfl) fun f cdv A outer s H E hr =>
    (sds_cons (sd_if (td_not (WD.td (wd_and (td_truth (ed_isi .tuple (by decide) (by rfl) T.isinstance (nv 0) (pe_bltn (by rfl) T.tuple PyProof.Rows.boot_tuple rfl))) (wd_and1 (td_eq (hu64 hr) (ed_blt (fun _ h => pe_callB call_len (by rfl) T.len PySem.boot_len h) lenM_ok (bd_cons (nv 0) bd_nil)) ed_int))))) (sds_one (sd_ret ed_bl)) sds_nil)
    (sds_cons (sd_asg (nv 0) (gd_seq rfl (gds_cons (gn 1 sc_is_ratio.nd) (gds_cons (gn 2 sc_is_ratio.nd) gds_nilG))))
    (sds_one (sd_ret (ed_and (ed_callP (ok_is_whole_1 T) (hr.mono (by decide)) (takes_of rfl rfl rfl rfl) (ad_cons (nv 1) ad_nil)) (ed_and (ed_callP (ok_is_whole_2 T) (hr.mono (by decide)) (takes_of rfl rfl rfl rfl) (ad_cons (nv 2) (ad_cons ed_int ad_nil))) (ed_one (ed_eq (hu64 hr) (ed_blt (fun _ h => pe_callBfun cr_gcd (by rfl) T.gcd h) gcdM_ok (bd_cons (nv 1) (bd_cons (nv 2) bd_nil))) ed_int))))))))
abbrev N_lowest_terms : List Str := ["top", "bottom", "shared"]
theorem sc_lowest_terms : FnScope N_lowest_terms ["top", "bottom"] (defScope s_lowest_terms) := ⟨rfl, rfl, rfl, by decide +kernel, rfl, by decide +kernel, by decide +kernel⟩
noncomputable def m_lowest_terms : M Fl := (seqF (ifF (bnd (m2 (getV 1) (pur (RI 0)) ltM) asB) (parF 0 1 (consA (bnd (getV 0) negM) (consA (bnd (getV 1) negM) (pur [])))) (pur .nx))
    (seqF (asgF (bnd (consB (getV 0) (consB (getV 1) (pur []))) gcdM) (setV 2))
    (retF (bnd (consA (m2 (getV 0) (getV 2) divM) (consA (m2 (getV 1) (getV 2) divM) (pur []))) tupM))))
noncomputable def R_lowest_terms : List D → Res := runP 3 m_lowest_terms
theorem ok_lowest_terms (T : Txt P w K mg base ct) : OkP P w K mg base ct "lowest_terms" 2 1 R_lowest_terms [] :=
  okP T.f_lowest_terms sc_lowest_terms (fun _ _ _ _ _ _ us hl => match us, hl with | [_, _], _ => rfl) fun f cdv A outer s H E hr =>
    (sds_cons (sd_if (td_lt (nv 1) ed_int) (sds_one (sd_par (i := 0) (j := 1) rfl sc_lowest_terms.nd rfl rfl (by decide) rfl rfl (ad_cons (ed_neg (nv 0)) (ad_cons (ed_neg (nv 1)) ad_nil)) (by rfl))) sds_nil)
    (sds_cons (sd_asg (ed_blt (fun _ h => pe_callBfun cr_gcd (by rfl) T.gcd h) gcdM_ok (bd_cons (nv 0) (bd_cons (nv 1) bd_nil))) (gn 2 sc_lowest_terms.nd))
    (sds_one (sd_ret (ed_tup (ad_cons (ed_div (nv 0) (nv 2)) (ad_cons (ed_div (nv 1) (nv 2)) ad_nil)))))))
abbrev N_plus : List Str := ["one", "other"]
theorem sc_plus : FnScope N_plus ["one", "other"] (defScope s_plus) := ⟨rfl, rfl, rfl, by decide +kernel, rfl, by decide +kernel, by decide +kernel⟩
noncomputable def m_plus : M Fl := (retF (bnd (consA (m2 (m2 (m2 (getV 0) (pur (RI 0)) ixM) (m2 (getV 1) (pur (RI 1)) ixM) mulI) (m2 (m2 (getV 1) (pur (RI 0)) ixM) (m2 (getV 0) (pur (RI 1)) ixM) mulI) addM) (consA (m2 (m2 (getV 0) (pur (RI 1)) ixM) (m2 (getV 1) (pur (RI 1)) ixM) mulI) (pur []))) (callM 2 R_lowest_terms [])))
noncomputable def R_plus : List D → Res := runP 2 m_plus
theorem ok_plus (T : Txt P w K mg base ct) : OkP P w K mg base ct "plus" 2 2 R_plus [] :=
  okP T.f_plus sc_plus (fun _ _ _ _ _ _ us hl => match us, hl with | [_, _], _ => rfl) fun f cdv A outer s H E hr =>
    (sds_one (sd_ret (ed_callP (ok_lowest_terms T) (hr.mono (by decide)) (takes_of rfl rfl rfl rfl) (ad_cons (ed_add (ed_mulI (ed_sub1 (nv 0) ed_int) (ed_sub1 (nv 1) ed_int)) (ed_mulI (ed_sub1 (nv 1) ed_int) (ed_sub1 (nv 0) ed_int))) (ad_cons (ed_mulI (ed_sub1 (nv 0) ed_int) (ed_sub1 (nv 1) ed_int)) ad_nil)))))
abbrev N_minus : List Str := ["one", "other"]
theorem sc_minus : FnScope N_minus ["one", "other"] (defScope s_minus) := ⟨rfl, rfl, rfl, by decide +kernel, rfl, by decide +kernel, by decide +kernel⟩
noncomputable def m_minus : M Fl := (retF (bnd (consA (m2 (m2 (m2 (getV 0) (pur (RI 0)) ixM) (m2 (getV 1) (pur (RI 1)) ixM) mulI) (m2 (m2 (getV 1) (pur (RI 0)) ixM) (m2 (getV 0) (pur (RI 1)) ixM) mulI) subM) (consA (m2 (m2 (getV 0) (pur (RI 1)) ixM) (m2 (getV 1) (pur (RI 1)) ixM) mulI) (pur []))) (callM 2 R_lowest_terms [])))
noncomputable def R_minus : List D → Res := runP 2 m_minus
theorem ok_minus (T : Txt P w K mg base ct) : OkP P w K mg base ct "minus" 2 2 R_minus [] :=
  okP T.f_minus sc_minus (fun _ _ _ _ _ _ us hl => match us, hl with | [_, _], _ => rfl) fun f cdv A outer s H E hr =>
    (sds_one (sd_ret (ed_callP (ok_lowest_terms T) (hr.mono (by decide)) (takes_of rfl rfl rfl rfl) (ad_cons (ed_sub (ed_mulI (ed_sub1 (nv 0) ed_int) (ed_sub1 (nv 1) ed_int)) (ed_mulI (ed_sub1 (nv 1) ed_int) (ed_sub1 (nv 0) ed_int))) (ad_cons (ed_mulI (ed_sub1 (nv 0) ed_int) (ed_sub1 (nv 1) ed_int)) ad_nil)))))
abbrev N_times : List Str := ["one", "other"]
theorem sc_times : FnScope N_times ["one", "other"] (defScope s_times) := ⟨rfl, rfl, rfl, by decide +kernel, rfl, by decide +kernel, by decide +kernel⟩
noncomputable def m_times : M Fl := (retF (bnd (consA (m2 (m2 (getV 0) (pur (RI 0)) ixM) (m2 (getV 1) (pur (RI 0)) ixM) mulI) (consA (m2 (m2 (getV 0) (pur (RI 1)) ixM) (m2 (getV 1) (pur (RI 1)) ixM) mulI) (pur []))) (callM 2 R_lowest_terms [])))
noncomputable def R_times : List D → Res := runP 2 m_times
theorem ok_times (T : Txt P w K mg base ct) : OkP P w K mg base ct "times" 2 2 R_times [] :=
  okP T.f_times sc_times (fun _ _ _ _ _ _ us hl => match us, hl with | [_, _], _ => rfl) fun f cdv A outer s H E hr =>
    (sds_one (sd_ret (ed_callP (ok_lowest_terms T) (hr.mono (by decide)) (takes_of rfl rfl rfl rfl) (ad_cons (ed_mulI (ed_sub1 (nv 0) ed_int) (ed_sub1 (nv 1) ed_int)) (ad_cons (ed_mulI (ed_sub1 (nv 0) ed_int) (ed_sub1 (nv 1) ed_int)) ad_nil)))))
abbrev N_over : List Str := ["one", "other"]
theorem sc_over : FnScope N_over ["one", "other"] (defScope s_over) := ⟨rfl, rfl, rfl, by decide +kernel, rfl, by decide +kernel, by decide +kernel⟩
noncomputable def m_over : M Fl := (seqF (ifF (bnd (m2 (m2 (getV 1) (pur (RI 0)) ixM) (pur (RI 0)) eqM) asB) (raiseF 0 ["what"] (consA (pur (RS ("zero" : Str))) (pur []))) (pur .nx))
    (retF (bnd (consA (m2 (m2 (getV 0) (pur (RI 0)) ixM) (m2 (getV 1) (pur (RI 1)) ixM) mulI) (consA (m2 (m2 (getV 0) (pur (RI 1)) ixM) (m2 (getV 1) (pur (RI 0)) ixM) mulI) (pur []))) (callM 2 R_lowest_terms []))))
noncomputable def R_over : List D → Res := runP 2 m_over
theorem ok_over (T : Txt P w K mg base ct) : OkP P w K mg base ct "over" 2 3 R_over [] :=
  okP T.f_over sc_over (fun _ _ _ _ _ _ us hl => match us, hl with | [_, _], _ => rfl) fun f cdv A outer s H E hr =>
    (sds_cons (sd_if (td_eq (hu64 hr) (ed_sub1 (nv 1) ed_int) ed_int) (sds_one (sd_raiseE (c := 0) (fs := ["what"]) T.x_BadRatio (by decide) rfl (takes_of rfl rfl rfl rfl) (hr.mono (by decide)) (ad_cons ed_str ad_nil))) sds_nil)
    (sds_one (sd_ret (ed_callP (ok_lowest_terms T) (hr.mono (by decide)) (takes_of rfl rfl rfl rfl) (ad_cons (ed_mulI (ed_sub1 (nv 0) ed_int) (ed_sub1 (nv 1) ed_int)) (ad_cons (ed_mulI (ed_sub1 (nv 0) ed_int) (ed_sub1 (nv 1) ed_int)) ad_nil))))))
abbrev N_negative : List Str := ["one"]
theorem sc_negative : FnScope N_negative ["one"] (defScope s_negative) := ⟨rfl, rfl, rfl, by decide +kernel, rfl, by decide +kernel, by decide +kernel⟩
noncomputable def m_negative : M Fl := (retF (bnd (consA (bnd (m2 (getV 0) (pur (RI 0)) ixM) negM) (consA (m2 (getV 0) (pur (RI 1)) ixM) (pur []))) tupM))
noncomputable def R_negative : List D → Res := runP 1 m_negative
theorem ok_negative (T : Txt P w K mg base ct) : OkP P w K mg base ct "negative" 1 1 R_negative [] :=
  okP T.f_negative sc_negative (fun _ _ _ _ _ _ us hl => match us, hl with | [_], _ => rfl) fun f cdv A outer s H E hr =>
    (sds_one (sd_ret (ed_tup (ad_cons (ed_neg (ed_sub1 (nv 0) ed_int)) (ad_cons (ed_sub1 (nv 0) ed_int) ad_nil)))))
abbrev N_is_spot : List Str := ["thing"]
theorem sc_is_spot : FnScope N_is_spot ["thing"] (defScope s_is_spot) := ⟨rfl, rfl, rfl, by decide +kernel, rfl, by decide +kernel, by decide +kernel⟩
noncomputable def m_is_spot : M Fl := (seqF (ifF (orT (notT (bnd (bnd (getV 0) (isiM2 .list .tuple)) truthM)) (bnd (m2 (bnd (consB (getV 0) (pur [])) lenM) (pur (RI 2)) neM) asB)) (retF (pur (RB false))) (pur .nx))
    (retF (andV (bnd (consA (m2 (getV 0) (pur (RI 0)) ixM) (pur [])) (callM 1 R_is_ratio [])) (bnd (consA (m2 (getV 0) (pur (RI 1)) ixM) (pur [])) (callM 1 R_is_ratio [])))))
noncomputable def R_is_spot : List D → Res := runP 1 m_is_spot
theorem ok_is_spot (T : Txt P w K mg base ct) : OkP P w K mg base ct "is_spot" 1 3 R_is_spot [] :=
  okP T.f_is_spot sc_is_spot (fun _ _ _ _ _ _ us hl => match us, hl with | [_], _ => rfl) fun f cdv A outer s H E hr =>
    (sds_cons (sd_if (WD.td (wd_or (td_not (td_truth (ed_isi2 .list .tuple (by decide) (by decide) (by rfl) T.isinstance (nv 0) (pe_bltn (by rfl) T.list PyProof.Rows.boot_list rfl) (pe_bltn (by rfl) T.tuple PyProof.Rows.boot_tuple rfl)))) (wd_or1 (td_ne (hu64 hr) (ed_blt (fun _ h => pe_callB call_len (by rfl) T.len PySem.boot_len h) lenM_ok (bd_cons (nv 0) bd_nil)) ed_int)))) (sds_one (sd_ret ed_bl)) sds_nil)
    (sds_one (sd_ret (ed_and (ed_callP (ok_is_ratio T) (hr.mono (by decide)) (takes_of rfl rfl rfl rfl) (ad_cons (ed_sub1 (nv 0) ed_int) ad_nil)) (ed_one (ed_callP (ok_is_ratio T) (hr.mono (by decide)) (takes_of rfl rfl rfl rfl) (ad_cons (ed_sub1 (nv 0) ed_int) ad_nil)))))))
abbrev N_check_spot : List Str := ["spot"]
theorem sc_check_spot : FnScope N_check_spot ["spot"] (defScope s_check_spot) := ⟨rfl, rfl, rfl, by decide +kernel, rfl, by decide +kernel, by decide +kernel⟩
noncomputable def m_check_spot : M Fl := (seqF (ifF (notT (bnd (bnd (consA (getV 0) (pur [])) (callM 1 R_is_spot [])) truthM)) (raise0F 1) (pur .nx))
    (retF (bnd (consB (getV 0) (pur [])) tupleM)))
noncomputable def R_check_spot : List D → Res := runP 1 m_check_spot
theorem ok_check_spot (T : Txt P w K mg base ct) : OkP P w K mg base ct "check_spot" 1 4 R_check_spot [] :=
  okP T.f_check_spot sc_check_spot (fun _ _ _ _ _ _ us hl => match us, hl with | [_], _ => rfl) fun f cdv A outer s H E hr =>
    (sds_cons (sd_if (td_not (td_truth (ed_callP (ok_is_spot T) (hr.mono (by decide)) (takes_of rfl rfl rfl rfl) (ad_cons (nv 0) ad_nil)))) (sds_one (sd_raiseE0 (c := 1) T.x_BadSpot rfl (takes_of rfl rfl rfl rfl) (hr.mono (by decide)))) sds_nil)
    (sds_one (sd_ret (ed_blt (fun _ h => pe_callTy call_tuple_of (by rfl) T.tuple PyProof.Rows.boot_tuple h) tupleM_ok (bd_cons (nv 0) bd_nil)))))
abbrev N_square_sum : List Str := ["spot", "x", "y"]
theorem sc_square_sum : FnScope N_square_sum ["spot"] (defScope s_square_sum) := ⟨rfl, rfl, rfl, by decide +kernel, rfl, by decide +kernel, by decide +kernel⟩
noncomputable def m_square_sum : M Fl := (seqF (asgF (getV 0) (seqG (consG (setV 1) (consG (setV 2) nilG)) 2))
    (retF (bnd (consA (bnd (consA (getV 1) (consA (getV 1) (pur []))) (callM 2 R_times [])) (consA (bnd (consA (getV 2) (consA (getV 2) (pur []))) (callM 2 R_times [])) (pur []))) (callM 2 R_plus []))))
noncomputable def R_square_sum : List D → Res := runP 3 m_square_sum
theorem ok_square_sum (T : Txt P w K mg base ct) : OkP P w K mg base ct "square_sum" 1 3 R_square_sum [] :=
  okP T.f_square_sum sc_square_sum (fun _ _ _ _ _ _ us hl => match us, hl with | [_], _ => rfl) fun f cdv A outer s H E hr =>
    (sds_cons (sd_asg (nv 0) (gd_seq rfl (gds_cons (gn 1 sc_square_sum.nd) (gds_cons (gn 2 sc_square_sum.nd) gds_nilG))))
    (sds_one (sd_ret (ed_callP (ok_plus T) (hr.mono (by decide)) (takes_of rfl rfl rfl rfl) (ad_cons (ed_callP (ok_times T) (hr.mono (by decide)) (takes_of rfl rfl rfl rfl) (ad_cons (nv 1) (ad_cons (nv 1) ad_nil))) (ad_cons (ed_callP (ok_times T) (hr.mono (by decide)) (takes_of rfl rfl rfl rfl) (ad_cons (nv 2) (ad_cons (nv 2) ad_nil))) ad_nil))))))
abbrev N_is_direction : List Str := ["thing"]
theorem sc_is_direction : FnScope N_is_direction ["thing"] (defScope s_is_direction) := ⟨rfl, rfl, rfl, by decide +kernel, rfl, by decide +kernel, by decide +kernel⟩
noncomputable def m_is_direction : M Fl := (retF (andV (bnd (consA (getV 0) (pur [])) (callM 1 R_is_spot [])) (m2 (bnd (consA (getV 0) (pur [])) (callM 1 R_square_sum [])) (pur (RD (.tup [.int 1, .int 1]))) eqM)))
noncomputable def R_is_direction : List D → Res := runP 1 m_is_direction
theorem ok_is_direction (T : Txt P w K mg base ct) : OkP P w K mg base ct "is_direction" 1 4 R_is_direction [] :=
  okP T.f_is_direction sc_is_direction (fun _ _ _ _ _ _ us hl => match us, hl with | [_], _ => rfl) fun f cdv A outer s H E hr =>
    (sds_one (sd_ret (ed_and (ed_callP (ok_is_spot T) (hr.mono (by decide)) (takes_of rfl rfl rfl rfl) (ad_cons (nv 0) ad_nil)) (ed_one (ed_eq (hu64 hr) (ed_callP (ok_square_sum T) (hr.mono (by decide)) (takes_of rfl rfl rfl rfl) (ad_cons (nv 0) ad_nil)) (ed_glob T.c_ONE))))))
abbrev N_check_direction : List Str := ["direction"]
theorem sc_check_direction : FnScope N_check_direction ["direction"] (defScope s_check_direction) := ⟨rfl, rfl, rfl, by decide +kernel, rfl, by decide +kernel, by decide +kernel⟩
noncomputable def m_check_direction : M Fl := (seqF (ifF (notT (bnd (bnd (consA (getV 0) (pur [])) (callM 1 R_is_direction [])) truthM)) (raise0F 2) (pur .nx))
    (retF (bnd (consB (getV 0) (pur [])) tupleM)))
noncomputable def R_check_direction : List D → Res := runP 1 m_check_direction
theorem ok_check_direction (T : Txt P w K mg base ct) : OkP P w K mg base ct "check_direction" 1 5 R_check_direction [] :=
  okP T.f_check_direction sc_check_direction (fun _ _ _ _ _ _ us hl => match us, hl with | [_], _ => rfl) fun f cdv A outer s H E hr =>
    (sds_cons (sd_if (td_not (td_truth (ed_callP (ok_is_direction T) (hr.mono (by decide)) (takes_of rfl rfl rfl rfl) (ad_cons (nv 0) ad_nil)))) (sds_one (sd_raiseE0 (c := 2) T.x_BadDirection rfl (takes_of rfl rfl rfl rfl) (hr.mono (by decide)))) sds_nil)
    (sds_one (sd_ret (ed_blt (fun _ h => pe_callTy call_tuple_of (by rfl) T.tuple PyProof.Rows.boot_tuple h) tupleM_ok (bd_cons (nv 0) bd_nil)))))
abbrev N_check_half : List Str := ["half"]
theorem sc_check_half : FnScope N_check_half ["half"] (defScope s_check_half) := ⟨rfl, rfl, rfl, by decide +kernel, rfl, by decide +kernel, by decide +kernel⟩
noncomputable def m_check_half : M Fl := (seqF (ifF (andT (bnd (m2 (getV 0) (pur RN) notNM) asB) (notT (bnd (bnd (consA (getV 0) (pur [])) (callM 1 R_is_ratio [])) truthM))) (raise0F 3) (pur .nx))
    (retF (getV 0)))
noncomputable def R_check_half : List D → Res := runP 1 m_check_half
theorem ok_check_half (T : Txt P w K mg base ct) : OkP P w K mg base ct "check_half" 1 3 R_check_half [] :=
  okP T.f_check_half sc_check_half (fun _ _ _ _ _ _ us hl => match us, hl with | [_], _ => rfl) fun f cdv A outer s H E hr =>
    (sds_cons (sd_if (WD.td (wd_and (td_notN (nv 0) ed_non) (wd_and1 (td_not (td_truth (ed_callP (ok_is_ratio T) (hr.mono (by decide)) (takes_of rfl rfl rfl rfl) (ad_cons (nv 0) ad_nil))))))) (sds_one (sd_raiseE0 (c := 3) T.x_BadHalf rfl (takes_of rfl rfl rfl rfl) (hr.mono (by decide)))) sds_nil)
    (sds_one (sd_ret (nv 0))))
abbrev N_direction_by : List Str := ["half", "top", "bottom", "whole"]
theorem sc_direction_by : FnScope N_direction_by ["half"] (defScope s_direction_by) := ⟨rfl, rfl, rfl, by decide +kernel, rfl, by decide +kernel, by decide +kernel⟩
noncomputable def m_direction_by : M Fl := (seqF (ifF (bnd (m2 (bnd (consA (getV 0) (pur [])) (callM 1 R_check_half [])) (pur RN) isNM) asB) (retF (pur (RD (.tup [.tup [.int 0, .int 1], .tup [.int (-1), .int 1]])))) (pur .nx))
    (seqF (asgF (getV 0) (seqG (consG (setV 1) (consG (setV 2) nilG)) 2))
    (seqF (asgF (m2 (m2 (getV 1) (getV 1) mulI) (m2 (getV 2) (getV 2) mulI) addM) (setV 3))
    (retF (bnd (consA (bnd (consA (m2 (m2 (bnd (pur (RI 2)) negM) (getV 1) mulI) (getV 2) mulI) (consA (getV 3) (pur []))) (callM 2 R_lowest_terms [])) (consA (bnd (consA (m2 (m2 (getV 2) (getV 2) mulI) (m2 (getV 1) (getV 1) mulI) subM) (consA (getV 3) (pur []))) (callM 2 R_lowest_terms [])) (pur []))) tupM)))))
noncomputable def R_direction_by : List D → Res := runP 4 m_direction_by
theorem ok_direction_by (T : Txt P w K mg base ct) : OkP P w K mg base ct "direction_by" 1 4 R_direction_by [] :=
  okP T.f_direction_by sc_direction_by (fun _ _ _ _ _ _ us hl => match us, hl with | [_], _ => rfl) fun f cdv A outer s H E hr =>
    (sds_cons (sd_if (td_isN (ed_callP (ok_check_half T) (hr.mono (by decide)) (takes_of rfl rfl rfl rfl) (ad_cons (nv 0) ad_nil)) ed_non) (sds_one (sd_ret (ed_glob T.c_DOWN))) sds_nil)
    (sds_cons (sd_asg (nv 0) (gd_seq rfl (gds_cons (gn 1 sc_direction_by.nd) (gds_cons (gn 2 sc_direction_by.nd) gds_nilG))))
    (sds_cons (sd_asg (ed_add (ed_mulI (nv 1) (nv 1)) (ed_mulI (nv 2) (nv 2))) (gn 3 sc_direction_by.nd))
    (sds_one (sd_ret (ed_tup (ad_cons (ed_callP (ok_lowest_terms T) (hr.mono (by decide)) (takes_of rfl rfl rfl rfl) (ad_cons (ed_mulI (ed_mulI (ed_neg ed_int) (nv 1)) (nv 2)) (ad_cons (nv 3) ad_nil))) (ad_cons (ed_callP (ok_lowest_terms T) (hr.mono (by decide)) (takes_of rfl rfl rfl rfl) (ad_cons (ed_sub (ed_mulI (nv 2) (nv 2)) (ed_mulI (nv 1) (nv 1))) (ad_cons (nv 3) ad_nil))) ad_nil))))))))
abbrev N_half_of : List Str := ["direction", "x", "y"]
theorem sc_half_of : FnScope N_half_of ["direction"] (defScope s_half_of) := ⟨rfl, rfl, rfl, by decide +kernel, rfl, by decide +kernel, by decide +kernel⟩
noncomputable def m_half_of : M Fl := (seqF (asgF (bnd (consA (getV 0) (pur [])) (callM 1 R_check_direction [])) (seqG (consG (setV 1) (consG (setV 2) nilG)) 2))
    (seqF (ifF (bnd (m2 (getV 2) (bnd (consA (bnd (pur (RI 1)) negM) (consA (pur (RI 1)) (pur []))) tupM) eqM) asB) (retF (pur RN)) (pur .nx))
    (retF (bnd (consA (bnd (consA (getV 1) (consA (bnd (consA (pur (RD (.tup [.int 1, .int 1]))) (consA (getV 2) (pur []))) (callM 2 R_plus [])) (pur []))) (callM 2 R_over [])) (pur [])) (callM 1 R_negative [])))))
noncomputable def R_half_of : List D → Res := runP 3 m_half_of
theorem ok_half_of (T : Txt P w K mg base ct) : OkP P w K mg base ct "half_of" 1 6 R_half_of [] :=
  okP T.f_half_of sc_half_of (fun _ _ _ _ _ _ us hl => match us, hl with | [_], _ => rfl) fun f cdv A outer s H E hr =>
    (sds_cons (sd_asg (ed_callP (ok_check_direction T) (hr.mono (by decide)) (takes_of rfl rfl rfl rfl) (ad_cons (nv 0) ad_nil)) (gd_seq rfl (gds_cons (gn 1 sc_half_of.nd) (gds_cons (gn 2 sc_half_of.nd) gds_nilG))))
    (sds_cons (sd_if (td_eq (hu64 hr) (nv 2) (ed_tup (ad_cons (ed_neg ed_int) (ad_cons ed_int ad_nil)))) (sds_one (sd_ret ed_non)) sds_nil)
    (sds_one (sd_ret (ed_callP (ok_negative T) (hr.mono (by decide)) (takes_of rfl rfl rfl rfl) (ad_cons (ed_callP (ok_over T) (hr.mono (by decide)) (takes_of rfl rfl rfl rfl) (ad_cons (nv 1) (ad_cons (ed_callP (ok_plus T) (hr.mono (by decide)) (takes_of rfl rfl rfl rfl) (ad_cons (ed_glob T.c_ONE) (ad_cons (nv 2) ad_nil))) ad_nil))) ad_nil))))))
abbrev N_add_halves : List Str := ["one", "other", "known", "rest"]
theorem sc_add_halves : FnScope N_add_halves ["one", "other"] (defScope s_add_halves) := ⟨rfl, rfl, rfl, by decide +kernel, rfl, by decide +kernel, by decide +kernel⟩
noncomputable def m_add_halves : M Fl := (seqF (dropF (bnd (consA (getV 0) (pur [])) (callM 1 R_check_half [])))
    (seqF (dropF (bnd (consA (getV 1) (pur [])) (callM 1 R_check_half [])))
    (seqF (ifF (andT (bnd (m2 (getV 0) (pur RN) isNM) asB) (bnd (m2 (getV 1) (pur RN) isNM) asB)) (retF (pur (RD (.tup [.int 0, .int 1])))) (pur .nx))
    (seqF (ifF (orT (bnd (m2 (getV 0) (pur RN) isNM) asB) (bnd (m2 (getV 1) (pur RN) isNM) asB)) (seqF (asgF (ifE (bnd (m2 (getV 0) (pur RN) isNM) asB) (getV 1) (getV 0)) (setV 2))
    (retF (ifE (bnd (m2 (getV 2) (pur (RD (.tup [.int 0, .int 1]))) eqM) asB) (pur RN) (bnd (consA (bnd (consA (bnd (pur (RI 1)) negM) (consA (pur (RI 1)) (pur []))) tupM) (consA (getV 2) (pur []))) (callM 2 R_over []))))) (pur .nx))
    (seqF (asgF (bnd (consA (pur (RD (.tup [.int 1, .int 1]))) (consA (bnd (consA (getV 0) (consA (getV 1) (pur []))) (callM 2 R_times [])) (pur []))) (callM 2 R_minus [])) (setV 3))
    (retF (ifE (bnd (m2 (getV 3) (pur (RD (.tup [.int 0, .int 1]))) eqM) asB) (pur RN) (bnd (consA (bnd (consA (getV 0) (consA (getV 1) (pur []))) (callM 2 R_plus [])) (consA (getV 3) (pur []))) (callM 2 R_over [])))))))))
noncomputable def R_add_halves : List D → Res := runP 4 m_add_halves
theorem ok_add_halves (T : Txt P w K mg base ct) : OkP P w K mg base ct "add_halves" 2 4 R_add_halves [] :=
  okP T.f_add_halves sc_add_halves (fun _ _ _ _ _ _ us hl => match us, hl with | [_, _], _ => rfl) fun f cdv A outer s H E hr =>
    (sds_cons (sd_expr (ed_callP (ok_check_half T) (hr.mono (by decide)) (takes_of rfl rfl rfl rfl) (ad_cons (nv 0) ad_nil)))
    (sds_cons (sd_expr (ed_callP (ok_check_half T) (hr.mono (by decide)) (takes_of rfl rfl rfl rfl) (ad_cons (nv 1) ad_nil)))
    (sds_cons (sd_if (WD.td (wd_and (td_isN (nv 0) ed_non) (wd_and1 (td_isN (nv 1) ed_non)))) (sds_one (sd_ret (ed_glob T.c_ZERO))) sds_nil)
    (sds_cons (sd_if (WD.td (wd_or (td_isN (nv 0) ed_non) (wd_or1 (td_isN (nv 1) ed_non)))) (sds_cons (sd_asg (ed_if (td_isN (nv 0) ed_non) (nv 1) (nv 0)) (gn 2 sc_add_halves.nd))
    (sds_one (sd_ret (ed_if (td_eq (hu64 hr) (nv 2) (ed_glob T.c_ZERO)) ed_non (ed_callP (ok_over T) (hr.mono (by decide)) (takes_of rfl rfl rfl rfl) (ad_cons (ed_tup (ad_cons (ed_neg ed_int) (ad_cons ed_int ad_nil))) (ad_cons (nv 2) ad_nil))))))) sds_nil)
    (sds_cons (sd_asg (ed_callP (ok_minus T) (hr.mono (by decide)) (takes_of rfl rfl rfl rfl) (ad_cons (ed_glob T.c_ONE) (ad_cons (ed_callP (ok_times T) (hr.mono (by decide)) (takes_of rfl rfl rfl rfl) (ad_cons (nv 0) (ad_cons (nv 1) ad_nil))) ad_nil))) (gn 3 sc_add_halves.nd))
    (sds_one (sd_ret (ed_if (td_eq (hu64 hr) (nv 3) (ed_glob T.c_ZERO)) ed_non (ed_callP (ok_over T) (hr.mono (by decide)) (takes_of rfl rfl rfl rfl) (ad_cons (ed_callP (ok_plus T) (hr.mono (by decide)) (takes_of rfl rfl rfl rfl) (ad_cons (nv 0) (ad_cons (nv 1) ad_nil))) (ad_cons (nv 3) ad_nil)))))))))))
abbrev N_turn_along : List Str := ["direction", "turner", "x", "y", "u", "v"]
theorem sc_turn_along : FnScope N_turn_along ["direction", "turner"] (defScope s_turn_along) := ⟨rfl, rfl, rfl, by decide +kernel, rfl, by decide +kernel, by decide +kernel⟩
noncomputable def m_turn_along : M Fl := (seqF (asgF (getV 0) (seqG (consG (setV 2) (consG (setV 3) nilG)) 2))
    (seqF (asgF (getV 1) (seqG (consG (setV 4) (consG (setV 5) nilG)) 2))
    (retF (bnd (consA (bnd (consA (bnd (consA (getV 2) (consA (getV 5) (pur []))) (callM 2 R_times [])) (consA (bnd (consA (getV 3) (consA (getV 4) (pur []))) (callM 2 R_times [])) (pur []))) (callM 2 R_plus [])) (consA (bnd (consA (bnd (consA (getV 3) (consA (getV 5) (pur []))) (callM 2 R_times [])) (consA (bnd (consA (getV 2) (consA (getV 4) (pur []))) (callM 2 R_times [])) (pur []))) (callM 2 R_minus [])) (pur []))) tupM))))
noncomputable def R_turn_along : List D → Res := runP 6 m_turn_along
theorem ok_turn_along (T : Txt P w K mg base ct) : OkP P w K mg base ct "turn_along" 2 3 R_turn_along [] :=
  okP T.f_turn_along sc_turn_along (fun _ _ _ _ _ _ us hl => match us, hl with | [_, _], _ => rfl) fun f cdv A outer s H E hr =>
    (sds_cons (sd_asg (nv 0) (gd_seq rfl (gds_cons (gn 2 sc_turn_along.nd) (gds_cons (gn 3 sc_turn_along.nd) gds_nilG))))
    (sds_cons (sd_asg (nv 1) (gd_seq rfl (gds_cons (gn 4 sc_turn_along.nd) (gds_cons (gn 5 sc_turn_along.nd) gds_nilG))))
    (sds_one (sd_ret (ed_tup (ad_cons (ed_callP (ok_plus T) (hr.mono (by decide)) (takes_of rfl rfl rfl rfl) (ad_cons (ed_callP (ok_times T) (hr.mono (by decide)) (takes_of rfl rfl rfl rfl) (ad_cons (nv 2) (ad_cons (nv 5) ad_nil))) (ad_cons (ed_callP (ok_times T) (hr.mono (by decide)) (takes_of rfl rfl rfl rfl) (ad_cons (nv 3) (ad_cons (nv 4) ad_nil))) ad_nil))) (ad_cons (ed_callP (ok_minus T) (hr.mono (by decide)) (takes_of rfl rfl rfl rfl) (ad_cons (ed_callP (ok_times T) (hr.mono (by decide)) (takes_of rfl rfl rfl rfl) (ad_cons (nv 3) (ad_cons (nv 5) ad_nil))) (ad_cons (ed_callP (ok_times T) (hr.mono (by decide)) (takes_of rfl rfl rfl rfl) (ad_cons (nv 2) (ad_cons (nv 4) ad_nil))) ad_nil))) ad_nil)))))))
abbrev N_turned_by : List Str := ["direction", "half", "checked"]
theorem sc_turned_by : FnScope N_turned_by ["direction", "half"] (defScope s_turned_by) := ⟨rfl, rfl, rfl, by decide +kernel, rfl, by decide +kernel, by decide +kernel⟩
noncomputable def m_turned_by : M Fl := (seqF (asgF (bnd (consA (getV 0) (pur [])) (callM 1 R_check_direction [])) (setV 2))
    (retF (bnd (consA (getV 2) (consA (bnd (bnd (consA (getV 1) (pur [])) (callM 1 R_direction_by [])) frz) (pur []))) (callM 2 R_turn_along []))))
noncomputable def R_turned_by : List D → Res := runP 3 m_turned_by
theorem ok_turned_by (T : Txt P w K mg base ct) : OkP P w K mg base ct "turned_by" 2 6 R_turned_by [] :=
  okP T.f_turned_by sc_turned_by (fun _ _ _ _ _ _ us hl => match us, hl with | [_, _], _ => rfl) fun f cdv A outer s H E hr =>
    (sds_cons (sd_asg (ed_callP (ok_check_direction T) (hr.mono (by decide)) (takes_of rfl rfl rfl rfl) (ad_cons (nv 0) ad_nil)) (gn 2 sc_turned_by.nd))
    (sds_one (sd_ret (ed_callP (ok_turn_along T) (hr.mono (by decide)) (takes_of rfl rfl rfl rfl) (ad_cons (nv 2) (ad_cons (ed_frz (ed_callP (ok_direction_by T) (hr.mono (by decide)) (takes_of rfl rfl rfl rfl) (ad_cons (nv 1) ad_nil))) ad_nil))))))
abbrev N_quarter_direction : List Str := ["quarters"]
theorem sc_quarter_direction : FnScope N_quarter_direction ["quarters"] (defScope s_quarter_direction) := ⟨rfl, rfl, rfl, by decide +kernel, rfl, by decide +kernel, by decide +kernel⟩
noncomputable def m_quarter_direction : M Fl := (seqF (ifF (notT (bnd (bnd (consA (getV 0) (pur [])) (callM 3 R_is_whole [.non, .non])) truthM)) (raise0F 4) (pur .nx))
    (retF (m2 (bnd (consA (pur (RD (.tup [.tup [.int 0, .int 1], .tup [.int 1, .int 1]]))) (consA (pur (RD (.tup [.tup [.int (-1), .int 1], .tup [.int 0, .int 1]]))) (consA (pur (RD (.tup [.tup [.int 0, .int 1], .tup [.int (-1), .int 1]]))) (consA (pur (RD (.tup [.tup [.int 1, .int 1], .tup [.int 0, .int 1]]))) (pur []))))) tupM) (m2 (getV 0) (pur (RI 4)) modM) ixM)))
noncomputable def R_quarter_direction : List D → Res := runP 1 m_quarter_direction
theorem ok_quarter_direction (T : Txt P w K mg base ct) : OkP P w K mg base ct "quarter_direction" 1 3 R_quarter_direction [] :=
  okP T.f_quarter_direction sc_quarter_direction (fun _ _ _ _ _ _ us hl => match us, hl with | [_], _ => rfl) fun f cdv A outer s H E hr =>
    (sds_cons (sd_if (td_not (td_truth (ed_callP (ok_is_whole_1 T) (hr.mono (by decide)) (takes_of rfl rfl rfl rfl) (ad_cons (nv 0) ad_nil)))) (sds_one (sd_raiseE0 (c := 4) T.x_BadQuarters rfl (takes_of rfl rfl rfl rfl) (hr.mono (by decide)))) sds_nil)
    (sds_one (sd_ret (ed_sub1 (ed_tup (ad_cons (ed_glob T.c_UP) (ad_cons (ed_glob T.c_LEFT) (ad_cons (ed_glob T.c_DOWN) (ad_cons (ed_glob T.c_RIGHT) ad_nil))))) (ed_mod (nv 0) ed_int)))))
abbrev N_turned_quarters : List Str := ["direction", "quarters", "checked"]
theorem sc_turned_quarters : FnScope N_turned_quarters ["direction", "quarters"] (defScope s_turned_quarters) := ⟨rfl, rfl, rfl, by decide +kernel, rfl, by decide +kernel, by decide +kernel⟩
noncomputable def m_turned_quarters : M Fl := (seqF (asgF (bnd (consA (getV 0) (pur [])) (callM 1 R_check_direction [])) (setV 2))
    (retF (bnd (consA (getV 2) (consA (bnd (bnd (consA (getV 1) (pur [])) (callM 1 R_quarter_direction [])) frz) (pur []))) (callM 2 R_turn_along []))))
noncomputable def R_turned_quarters : List D → Res := runP 3 m_turned_quarters
theorem ok_turned_quarters (T : Txt P w K mg base ct) : OkP P w K mg base ct "turned_quarters" 2 6 R_turned_quarters [] :=
  okP T.f_turned_quarters sc_turned_quarters (fun _ _ _ _ _ _ us hl => match us, hl with | [_, _], _ => rfl) fun f cdv A outer s H E hr =>
    (sds_cons (sd_asg (ed_callP (ok_check_direction T) (hr.mono (by decide)) (takes_of rfl rfl rfl rfl) (ad_cons (nv 0) ad_nil)) (gn 2 sc_turned_quarters.nd))
    (sds_one (sd_ret (ed_callP (ok_turn_along T) (hr.mono (by decide)) (takes_of rfl rfl rfl rfl) (ad_cons (nv 2) (ad_cons (ed_frz (ed_callP (ok_quarter_direction T) (hr.mono (by decide)) (takes_of rfl rfl rfl rfl) (ad_cons (nv 1) ad_nil))) ad_nil))))))
abbrev N_opposite_of : List Str := ["direction", "x", "y"]
theorem sc_opposite_of : FnScope N_opposite_of ["direction"] (defScope s_opposite_of) := ⟨rfl, rfl, rfl, by decide +kernel, rfl, by decide +kernel, by decide +kernel⟩
noncomputable def m_opposite_of : M Fl := (seqF (asgF (bnd (consA (getV 0) (pur [])) (callM 1 R_check_direction [])) (seqG (consG (setV 1) (consG (setV 2) nilG)) 2))
    (retF (bnd (consA (bnd (consA (getV 1) (pur [])) (callM 1 R_negative [])) (consA (bnd (consA (getV 2) (pur [])) (callM 1 R_negative [])) (pur []))) tupM)))
noncomputable def R_opposite_of : List D → Res := runP 3 m_opposite_of
theorem ok_opposite_of (T : Txt P w K mg base ct) : OkP P w K mg base ct "opposite_of" 1 6 R_opposite_of [] :=
  okP T.f_opposite_of sc_opposite_of (fun _ _ _ _ _ _ us hl => match us, hl with | [_], _ => rfl) fun f cdv A outer s H E hr =>
    (sds_cons (sd_asg (ed_callP (ok_check_direction T) (hr.mono (by decide)) (takes_of rfl rfl rfl rfl) (ad_cons (nv 0) ad_nil)) (gd_seq rfl (gds_cons (gn 1 sc_opposite_of.nd) (gds_cons (gn 2 sc_opposite_of.nd) gds_nilG))))
    (sds_one (sd_ret (ed_tup (ad_cons (ed_callP (ok_negative T) (hr.mono (by decide)) (takes_of rfl rfl rfl rfl) (ad_cons (nv 1) ad_nil)) (ad_cons (ed_callP (ok_negative T) (hr.mono (by decide)) (takes_of rfl rfl rfl rfl) (ad_cons (nv 2) ad_nil)) ad_nil))))))
abbrev N_mirrored_direction : List Str := ["direction", "x", "y"]
theorem sc_mirrored_direction : FnScope N_mirrored_direction ["direction"] (defScope s_mirrored_direction) := ⟨rfl, rfl, rfl, by decide +kernel, rfl, by decide +kernel, by decide +kernel⟩
noncomputable def m_mirrored_direction : M Fl := (seqF (asgF (bnd (consA (getV 0) (pur [])) (callM 1 R_check_direction [])) (seqG (consG (setV 1) (consG (setV 2) nilG)) 2))
    (retF (bnd (consA (bnd (consA (getV 1) (pur [])) (callM 1 R_negative [])) (consA (getV 2) (pur []))) tupM)))
noncomputable def R_mirrored_direction : List D → Res := runP 3 m_mirrored_direction
theorem ok_mirrored_direction (T : Txt P w K mg base ct) : OkP P w K mg base ct "mirrored_direction" 1 6 R_mirrored_direction [] :=
  okP T.f_mirrored_direction sc_mirrored_direction (fun _ _ _ _ _ _ us hl => match us, hl with | [_], _ => rfl) fun f cdv A outer s H E hr =>
    (sds_cons (sd_asg (ed_callP (ok_check_direction T) (hr.mono (by decide)) (takes_of rfl rfl rfl rfl) (ad_cons (nv 0) ad_nil)) (gd_seq rfl (gds_cons (gn 1 sc_mirrored_direction.nd) (gds_cons (gn 2 sc_mirrored_direction.nd) gds_nilG))))
    (sds_one (sd_ret (ed_tup (ad_cons (ed_callP (ok_negative T) (hr.mono (by decide)) (takes_of rfl rfl rfl rfl) (ad_cons (nv 1) ad_nil)) (ad_cons (nv 2) ad_nil))))))
abbrev N_cosine_between : List Str := ["one", "other", "left", "right"]
theorem sc_cosine_between : FnScope N_cosine_between ["one", "other"] (defScope s_cosine_between) := ⟨rfl, rfl, rfl, by decide +kernel, rfl, by decide +kernel, by decide +kernel⟩
noncomputable def m_cosine_between : M Fl := (seqF (asgF (bnd (consA (getV 0) (pur [])) (callM 1 R_check_direction [])) (setV 2))
    (seqF (asgF (bnd (consA (getV 1) (pur [])) (callM 1 R_check_direction [])) (setV 3))
    (retF (bnd (consA (bnd (consA (m2 (getV 2) (pur (RI 0)) ixM) (consA (m2 (getV 3) (pur (RI 0)) ixM) (pur []))) (callM 2 R_times [])) (consA (bnd (consA (m2 (getV 2) (pur (RI 1)) ixM) (consA (m2 (getV 3) (pur (RI 1)) ixM) (pur []))) (callM 2 R_times [])) (pur []))) (callM 2 R_plus [])))))
noncomputable def R_cosine_between : List D → Res := runP 4 m_cosine_between
theorem ok_cosine_between (T : Txt P w K mg base ct) : OkP P w K mg base ct "cosine_between" 2 6 R_cosine_between [] :=
  okP T.f_cosine_between sc_cosine_between (fun _ _ _ _ _ _ us hl => match us, hl with | [_, _], _ => rfl) fun f cdv A outer s H E hr =>
    (sds_cons (sd_asg (ed_callP (ok_check_direction T) (hr.mono (by decide)) (takes_of rfl rfl rfl rfl) (ad_cons (nv 0) ad_nil)) (gn 2 sc_cosine_between.nd))
    (sds_cons (sd_asg (ed_callP (ok_check_direction T) (hr.mono (by decide)) (takes_of rfl rfl rfl rfl) (ad_cons (nv 1) ad_nil)) (gn 3 sc_cosine_between.nd))
    (sds_one (sd_ret (ed_callP (ok_plus T) (hr.mono (by decide)) (takes_of rfl rfl rfl rfl) (ad_cons (ed_callP (ok_times T) (hr.mono (by decide)) (takes_of rfl rfl rfl rfl) (ad_cons (ed_sub1 (nv 2) ed_int) (ad_cons (ed_sub1 (nv 3) ed_int) ad_nil))) (ad_cons (ed_callP (ok_times T) (hr.mono (by decide)) (takes_of rfl rfl rfl rfl) (ad_cons (ed_sub1 (nv 2) ed_int) (ad_cons (ed_sub1 (nv 3) ed_int) ad_nil))) ad_nil)))))))
abbrev N_sine_between : List Str := ["one", "other", "left", "right"]
theorem sc_sine_between : FnScope N_sine_between ["one", "other"] (defScope s_sine_between) := ⟨rfl, rfl, rfl, by decide +kernel, rfl, by decide +kernel, by decide +kernel⟩
noncomputable def m_sine_between : M Fl := (seqF (asgF (bnd (consA (getV 0) (pur [])) (callM 1 R_check_direction [])) (setV 2))
    (seqF (asgF (bnd (consA (getV 1) (pur [])) (callM 1 R_check_direction [])) (setV 3))
    (retF (bnd (consA (bnd (consA (m2 (getV 2) (pur (RI 0)) ixM) (consA (m2 (getV 3) (pur (RI 1)) ixM) (pur []))) (callM 2 R_times [])) (consA (bnd (consA (m2 (getV 2) (pur (RI 1)) ixM) (consA (m2 (getV 3) (pur (RI 0)) ixM) (pur []))) (callM 2 R_times [])) (pur []))) (callM 2 R_minus [])))))
noncomputable def R_sine_between : List D → Res := runP 4 m_sine_between
theorem ok_sine_between (T : Txt P w K mg base ct) : OkP P w K mg base ct "sine_between" 2 6 R_sine_between [] :=
  okP T.f_sine_between sc_sine_between (fun _ _ _ _ _ _ us hl => match us, hl with | [_, _], _ => rfl) fun f cdv A outer s H E hr =>
    (sds_cons (sd_asg (ed_callP (ok_check_direction T) (hr.mono (by decide)) (takes_of rfl rfl rfl rfl) (ad_cons (nv 0) ad_nil)) (gn 2 sc_sine_between.nd))
    (sds_cons (sd_asg (ed_callP (ok_check_direction T) (hr.mono (by decide)) (takes_of rfl rfl rfl rfl) (ad_cons (nv 1) ad_nil)) (gn 3 sc_sine_between.nd))
    (sds_one (sd_ret (ed_callP (ok_minus T) (hr.mono (by decide)) (takes_of rfl rfl rfl rfl) (ad_cons (ed_callP (ok_times T) (hr.mono (by decide)) (takes_of rfl rfl rfl rfl) (ad_cons (ed_sub1 (nv 2) ed_int) (ad_cons (ed_sub1 (nv 3) ed_int) ad_nil))) (ad_cons (ed_callP (ok_times T) (hr.mono (by decide)) (takes_of rfl rfl rfl rfl) (ad_cons (ed_sub1 (nv 2) ed_int) (ad_cons (ed_sub1 (nv 3) ed_int) ad_nil))) ad_nil)))))))
abbrev N_law_gcd : List Str := ["_law_one", "_law_other"]
theorem sc_law_gcd : FnScope N_law_gcd ["_law_one", "_law_other"] (defScope s_law_gcd) := ⟨rfl, rfl, rfl, by decide +kernel, rfl, by decide +kernel, by decide +kernel⟩
noncomputable def m_law_gcd : M Fl := (seqF (parF 0 1 (consA (bnd (consB (getV 0) (pur [])) absM) (consA (bnd (consB (getV 1) (pur [])) absM) (pur []))))
    (seqF (whileL (bnd (getV 1) truthM) (parF 0 1 (consA (getV 1) (consA (m2 (bnd (consB (getV 0) (pur [])) intM) (getV 1) modM) (pur [])))) 100000)
    (retF (getV 0))))
noncomputable def R_law_gcd : List D → Res := runP 2 m_law_gcd
theorem ok_law_gcd (T : Txt P w K mg base ct) : OkP P w K mg base ct "_law_gcd" 2 1 R_law_gcd [] :=
  okP T.f_law_gcd sc_law_gcd (fun _ _ _ _ _ _ us hl => match us, hl with | [_, _], _ => rfl) fun f cdv A outer s H E hr =>
    (sds_cons (sd_par (i := 0) (j := 1) rfl sc_law_gcd.nd rfl rfl (by decide) rfl rfl (ad_cons (ed_blt (fun _ h => pe_callB call_abs (by rfl) T.abs PyProof.Rows.boot_abs h) absM_ok (bd_cons (nv 0) bd_nil)) (ad_cons (ed_blt (fun _ h => pe_callB call_abs (by rfl) T.abs PyProof.Rows.boot_abs h) absM_ok (bd_cons (nv 1) bd_nil)) ad_nil)) (by rfl))
    (sds_cons (sd_while 100000 (passes_of rfl) (td_truth (nv 1)) (sds_one (sd_par (i := 0) (j := 1) rfl sc_law_gcd.nd rfl rfl (by decide) rfl rfl (ad_cons (nv 1) (ad_cons (ed_mod (ed_blt (fun _ h => pe_callTy call_int1 (by rfl) T.int PyProof.Rows.boot_int h) intM_ok (bd_cons (nv 0) bd_nil)) (nv 1)) ad_nil)) (by rfl))))
    (sds_one (sd_ret (nv 0)))))
abbrev N_law_ratio : List Str := ["_law_top", "_law_bottom", "_law_part"]
theorem sc_law_ratio : FnScope N_law_ratio ["_law_top", "_law_bottom"] (defScope s_law_ratio) := ⟨rfl, rfl, rfl, by decide +kernel, rfl, by decide +kernel, by decide +kernel⟩
noncomputable def m_law_ratio : M Fl := (seqF (asgF (bnd (bnd (consA (getV 0) (consA (getV 1) (pur []))) (callM 2 R_law_gcd [])) frz) (setV 2))
    (seqF (ifF (bnd (m2 (getV 1) (pur (RI 0)) ltM) asB) (asgF (bnd (getV 2) negM) (setV 2)) (pur .nx))
    (retF (bnd (consA (m2 (getV 0) (getV 2) divM) (consA (m2 (getV 1) (getV 2) divM) (pur []))) tupM))))
noncomputable def R_law_ratio : List D → Res := runP 3 m_law_ratio
theorem ok_law_ratio (T : Txt P w K mg base ct) : OkP P w K mg base ct "_law_ratio" 2 2 R_law_ratio [] :=
  okP T.f_law_ratio sc_law_ratio (fun _ _ _ _ _ _ us hl => match us, hl with | [_, _], _ => rfl) fun f cdv A outer s H E hr =>
    (sds_cons (sd_asg (ed_frz (ed_callP (ok_law_gcd T) (hr.mono (by decide)) (takes_of rfl rfl rfl rfl) (ad_cons (nv 0) (ad_cons (nv 1) ad_nil)))) (gn 2 sc_law_ratio.nd))
    (sds_cons (sd_if (td_lt (nv 1) ed_int) (sds_one (sd_asg (ed_neg (nv 2)) (gn 2 sc_law_ratio.nd))) sds_nil)
    (sds_one (sd_ret (ed_tup (ad_cons (ed_div (nv 0) (nv 2)) (ad_cons (ed_div (nv 1) (nv 2)) ad_nil)))))))
abbrev N_law_plus : List Str := ["_law_one", "_law_other"]
theorem sc_law_plus : FnScope N_law_plus ["_law_one", "_law_other"] (defScope s_law_plus) := ⟨rfl, rfl, rfl, by decide +kernel, rfl, by decide +kernel, by decide +kernel⟩
noncomputable def m_law_plus : M Fl := (retF (bnd (consA (m2 (m2 (m2 (getV 0) (pur (RI 0)) ixM) (m2 (getV 1) (pur (RI 1)) ixM) mulI) (m2 (m2 (getV 1) (pur (RI 0)) ixM) (m2 (getV 0) (pur (RI 1)) ixM) mulI) addM) (consA (m2 (m2 (getV 0) (pur (RI 1)) ixM) (m2 (getV 1) (pur (RI 1)) ixM) mulI) (pur []))) (callM 2 R_law_ratio [])))
noncomputable def R_law_plus : List D → Res := runP 2 m_law_plus
theorem ok_law_plus (T : Txt P w K mg base ct) : OkP P w K mg base ct "_law_plus" 2 3 R_law_plus [] :=
  okP T.f_law_plus sc_law_plus (fun _ _ _ _ _ _ us hl => match us, hl with | [_, _], _ => rfl) fun f cdv A outer s H E hr =>
    (sds_one (sd_ret (ed_callP (ok_law_ratio T) (hr.mono (by decide)) (takes_of rfl rfl rfl rfl) (ad_cons (ed_add (ed_mulI (ed_sub1 (nv 0) ed_int) (ed_sub1 (nv 1) ed_int)) (ed_mulI (ed_sub1 (nv 1) ed_int) (ed_sub1 (nv 0) ed_int))) (ad_cons (ed_mulI (ed_sub1 (nv 0) ed_int) (ed_sub1 (nv 1) ed_int)) ad_nil)))))
abbrev N_law_less : List Str := ["_law_one", "_law_other"]
theorem sc_law_less : FnScope N_law_less ["_law_one", "_law_other"] (defScope s_law_less) := ⟨rfl, rfl, rfl, by decide +kernel, rfl, by decide +kernel, by decide +kernel⟩
noncomputable def m_law_less : M Fl := (retF (bnd (consA (m2 (m2 (m2 (getV 0) (pur (RI 0)) ixM) (m2 (getV 1) (pur (RI 1)) ixM) mulI) (m2 (m2 (getV 1) (pur (RI 0)) ixM) (m2 (getV 0) (pur (RI 1)) ixM) mulI) subM) (consA (m2 (m2 (getV 0) (pur (RI 1)) ixM) (m2 (getV 1) (pur (RI 1)) ixM) mulI) (pur []))) (callM 2 R_law_ratio [])))
noncomputable def R_law_less : List D → Res := runP 2 m_law_less
theorem ok_law_less (T : Txt P w K mg base ct) : OkP P w K mg base ct "_law_less" 2 3 R_law_less [] :=
  okP T.f_law_less sc_law_less (fun _ _ _ _ _ _ us hl => match us, hl with | [_, _], _ => rfl) fun f cdv A outer s H E hr =>
    (sds_one (sd_ret (ed_callP (ok_law_ratio T) (hr.mono (by decide)) (takes_of rfl rfl rfl rfl) (ad_cons (ed_sub (ed_mulI (ed_sub1 (nv 0) ed_int) (ed_sub1 (nv 1) ed_int)) (ed_mulI (ed_sub1 (nv 1) ed_int) (ed_sub1 (nv 0) ed_int))) (ad_cons (ed_mulI (ed_sub1 (nv 0) ed_int) (ed_sub1 (nv 1) ed_int)) ad_nil)))))
abbrev N_law_times : List Str := ["_law_one", "_law_other"]
theorem sc_law_times : FnScope N_law_times ["_law_one", "_law_other"] (defScope s_law_times) := ⟨rfl, rfl, rfl, by decide +kernel, rfl, by decide +kernel, by decide +kernel⟩
noncomputable def m_law_times : M Fl := (retF (bnd (consA (m2 (m2 (getV 0) (pur (RI 0)) ixM) (m2 (getV 1) (pur (RI 0)) ixM) mulI) (consA (m2 (m2 (getV 0) (pur (RI 1)) ixM) (m2 (getV 1) (pur (RI 1)) ixM) mulI) (pur []))) (callM 2 R_law_ratio [])))
noncomputable def R_law_times : List D → Res := runP 2 m_law_times
theorem ok_law_times (T : Txt P w K mg base ct) : OkP P w K mg base ct "_law_times" 2 3 R_law_times [] :=
  okP T.f_law_times sc_law_times (fun _ _ _ _ _ _ us hl => match us, hl with | [_, _], _ => rfl) fun f cdv A outer s H E hr =>
    (sds_one (sd_ret (ed_callP (ok_law_ratio T) (hr.mono (by decide)) (takes_of rfl rfl rfl rfl) (ad_cons (ed_mulI (ed_sub1 (nv 0) ed_int) (ed_sub1 (nv 1) ed_int)) (ad_cons (ed_mulI (ed_sub1 (nv 0) ed_int) (ed_sub1 (nv 1) ed_int)) ad_nil)))))
abbrev N_law_over : List Str := ["_law_one", "_law_other"]
theorem sc_law_over : FnScope N_law_over ["_law_one", "_law_other"] (defScope s_law_over) := ⟨rfl, rfl, rfl, by decide +kernel, rfl, by decide +kernel, by decide +kernel⟩
noncomputable def m_law_over : M Fl := (retF (bnd (consA (m2 (m2 (getV 0) (pur (RI 0)) ixM) (m2 (getV 1) (pur (RI 1)) ixM) mulI) (consA (m2 (m2 (getV 0) (pur (RI 1)) ixM) (m2 (getV 1) (pur (RI 0)) ixM) mulI) (pur []))) (callM 2 R_law_ratio [])))
noncomputable def R_law_over : List D → Res := runP 2 m_law_over
theorem ok_law_over (T : Txt P w K mg base ct) : OkP P w K mg base ct "_law_over" 2 3 R_law_over [] :=
  okP T.f_law_over sc_law_over (fun _ _ _ _ _ _ us hl => match us, hl with | [_, _], _ => rfl) fun f cdv A outer s H E hr =>
    (sds_one (sd_ret (ed_callP (ok_law_ratio T) (hr.mono (by decide)) (takes_of rfl rfl rfl rfl) (ad_cons (ed_mulI (ed_sub1 (nv 0) ed_int) (ed_sub1 (nv 1) ed_int)) (ad_cons (ed_mulI (ed_sub1 (nv 0) ed_int) (ed_sub1 (nv 1) ed_int)) ad_nil)))))
abbrev N_law_is_ratio : List Str := ["_law_thing", "_law_part"]
theorem sc_law_is_ratio : FnScope N_law_is_ratio ["_law_thing"] (defScope s_law_is_ratio) := ⟨rfl, rfl, rfl, by decide +kernel, rfl, by decide +kernel, by decide +kernel⟩
noncomputable def m_law_is_ratio : M Fl := (seqF (ifF (orT (notT (bnd (bnd (getV 0) (isiM .tuple)) truthM)) (bnd (m2 (bnd (consB (getV 0) (pur [])) lenM) (pur (RI 2)) neM) asB)) (retF (pur (RB false))) (pur .nx))
    (seqF (forF (bnd (getV 0) seqSrc) (setV 1) (ifF (orT (notT (bnd (bnd (getV 1) (isiM .int)) truthM)) (bnd (bnd (getV 1) (isiM .bool)) truthM)) (retF (pur (RB false))) (pur .nx)))
    (retF (andV (m2 (m2 (getV 0) (pur (RI 1)) ixM) (pur (RI 1)) geM) (m2 (bnd (consA (m2 (getV 0) (pur (RI 0)) ixM) (consA (m2 (getV 0) (pur (RI 1)) ixM) (pur []))) (callM 2 R_law_gcd [])) (pur (RI 1)) eqM)))))
noncomputable def R_law_is_ratio : List D → Res := runP 2 m_law_is_ratio
theorem ok_law_is_ratio (T : Txt P w K mg base ct) : OkP P w K mg base ct "_law_is_ratio" 1 2 R_law_is_ratio [] :=
  okP T.f_law_is_ratio sc_law_is_ratio (fun _ _ _ _ _ _ us hl => match us, hl with | [_], _ => rfl) fun f cdv A outer s H E hr =>
    (sds_cons (sd_if (WD.td (wd_or (td_not (td_truth (ed_isi .tuple (by decide) (by rfl) T.isinstance (nv 0) (pe_bltn (by rfl) T.tuple PyProof.Rows.boot_tuple rfl)))) (wd_or1 (td_ne (hu64 hr) (ed_blt (fun _ h => pe_callB call_len (by rfl) T.len PySem.boot_len h) lenM_ok (bd_cons (nv 0) bd_nil)) ed_int)))) (sds_one (sd_ret ed_bl)) sds_nil)
    (sds_cons (sd_for (passes_of rfl) rfl (id_seq (nv 0)) (gn 1 sc_law_is_ratio.nd) (sds_one (sd_if (WD.td (wd_or (td_not (td_truth (ed_isi .int (by decide) (by rfl) T.isinstance (nv 1) (pe_bltn (by rfl) T.int PyProof.Rows.boot_int rfl)))) (wd_or1 (td_truth (ed_isi .bool (by decide) (by rfl) T.isinstance (nv 1) (pe_bltn (by rfl) T.bool PyProof.Rows.boot_bool rfl)))))) (sds_one (sd_ret ed_bl)) sds_nil)))
    (sds_one (sd_ret (ed_and (ed_ge (ed_sub1 (nv 0) ed_int) ed_int) (ed_one (ed_eq (hu64 hr) (ed_callP (ok_law_gcd T) (hr.mono (by decide)) (takes_of rfl rfl rfl rfl) (ad_cons (ed_sub1 (nv 0) ed_int) (ad_cons (ed_sub1 (nv 0) ed_int) ad_nil))) ed_int)))))))
abbrev N_law_mark : List Str := ["_law_hand_here"]
theorem sc_law_mark : FnScope N_law_mark ["_law_hand_here"] (defScope s_law_mark) := ⟨rfl, rfl, rfl, by decide +kernel, rfl, by decide +kernel, by decide +kernel⟩
noncomputable def m_law_mark : M Fl := (retF (bnd (consA (m2 (bnd (consA (getV 0) (consA (pur (RI 13)) (pur []))) (callH 2 R_law_take [])) (pur (RI 4)) subM) (consA (pur (RI 2)) (pur []))) (callM 2 R_law_ratio [])))
noncomputable def R_law_mark : List SV → Hand → Res × Hand := runH 1 m_law_mark
theorem ok_law_mark (T : Txt P w K mg base ct) : OkH P w K mg base ct "_law_mark" 1 3 R_law_mark :=
  okH T.f_law_mark sc_law_mark (fun _ _ _ _ _ _ us hl => match us, hl with | [_], _ => rfl) fun f cdv A outer s H E hr =>
    (sds_one (sd_ret (ed_callP (ok_law_ratio T) (hr.mono (by decide)) (takes_of rfl rfl rfl rfl) (ad_cons (ed_sub (ed_callHP (ok_law_take T) (hr.mono (by decide)) (takes_of rfl rfl rfl rfl) (ad_cons (nv 0) (ad_cons ed_int ad_nil))) ed_int) (ad_cons ed_int ad_nil)))))
abbrev N_law_direction : List Str := ["_law_half_here", "_law_square_here", "_law_bottom"]
theorem sc_law_direction : FnScope N_law_direction ["_law_half_here"] (defScope s_law_direction) := ⟨rfl, rfl, rfl, by decide +kernel, rfl, by decide +kernel, by decide +kernel⟩
noncomputable def m_law_direction : M Fl := (seqF (ifF (bnd (m2 (getV 0) (pur RN) isNM) asB) (retF (bnd (consA (bnd (consA (pur (RI 0)) (consA (pur (RI 1)) (pur []))) tupM) (consA (bnd (consA (bnd (pur (RI 1)) negM) (consA (pur (RI 1)) (pur []))) tupM) (pur []))) tupM)) (pur .nx))
    (seqF (asgF (bnd (consA (getV 0) (consA (getV 0) (pur []))) (callM 2 R_law_times [])) (setV 1))
    (seqF (asgF (bnd (consA (bnd (consA (pur (RI 1)) (consA (pur (RI 1)) (pur []))) tupM) (consA (getV 1) (pur []))) (callM 2 R_law_plus [])) (setV 2))
    (retF (bnd (consA (bnd (consA (bnd (consA (bnd (consA (bnd (pur (RI 2)) negM) (consA (pur (RI 1)) (pur []))) tupM) (consA (getV 0) (pur []))) (callM 2 R_law_times [])) (consA (getV 2) (pur []))) (callM 2 R_law_over [])) (consA (bnd (consA (bnd (consA (bnd (consA (pur (RI 1)) (consA (pur (RI 1)) (pur []))) tupM) (consA (getV 1) (pur []))) (callM 2 R_law_less [])) (consA (getV 2) (pur []))) (callM 2 R_law_over [])) (pur []))) tupM)))))
noncomputable def R_law_direction : List D → Res := runP 3 m_law_direction
theorem ok_law_direction (T : Txt P w K mg base ct) : OkP P w K mg base ct "_law_direction" 1 4 R_law_direction [] :=
  okP T.f_law_direction sc_law_direction (fun _ _ _ _ _ _ us hl => match us, hl with | [_], _ => rfl) fun f cdv A outer s H E hr =>
    (sds_cons (sd_if (td_isN (nv 0) ed_non) (sds_one (sd_ret (ed_tup (ad_cons (ed_tup (ad_cons ed_int (ad_cons ed_int ad_nil))) (ad_cons (ed_tup (ad_cons (ed_neg ed_int) (ad_cons ed_int ad_nil))) ad_nil))))) sds_nil)
    (sds_cons (sd_asg (ed_callP (ok_law_times T) (hr.mono (by decide)) (takes_of rfl rfl rfl rfl) (ad_cons (nv 0) (ad_cons (nv 0) ad_nil))) (gn 1 sc_law_direction.nd))
    (sds_cons (sd_asg (ed_callP (ok_law_plus T) (hr.mono (by decide)) (takes_of rfl rfl rfl rfl) (ad_cons (ed_tup (ad_cons ed_int (ad_cons ed_int ad_nil))) (ad_cons (nv 1) ad_nil))) (gn 2 sc_law_direction.nd))
    (sds_one (sd_ret (ed_tup (ad_cons (ed_callP (ok_law_over T) (hr.mono (by decide)) (takes_of rfl rfl rfl rfl) (ad_cons (ed_callP (ok_law_times T) (hr.mono (by decide)) (takes_of rfl rfl rfl rfl) (ad_cons (ed_tup (ad_cons (ed_neg ed_int) (ad_cons ed_int ad_nil))) (ad_cons (nv 0) ad_nil))) (ad_cons (nv 2) ad_nil))) (ad_cons (ed_callP (ok_law_over T) (hr.mono (by decide)) (takes_of rfl rfl rfl rfl) (ad_cons (ed_callP (ok_law_less T) (hr.mono (by decide)) (takes_of rfl rfl rfl rfl) (ad_cons (ed_tup (ad_cons ed_int (ad_cons ed_int ad_nil))) (ad_cons (nv 1) ad_nil))) (ad_cons (nv 2) ad_nil))) ad_nil))))))))
abbrev N_law_half : List Str := ["_law_hand_here", "_law_turn"]
theorem sc_law_half : FnScope N_law_half ["_law_hand_here"] (defScope s_law_half) := ⟨rfl, rfl, rfl, by decide +kernel, rfl, by decide +kernel, by decide +kernel⟩
noncomputable def m_law_half : M Fl := (seqF (asgF (bnd (consA (getV 0) (consA (pur (RI 14)) (pur []))) (callH 2 R_law_take [])) (setV 1))
    (seqF (ifF (bnd (m2 (getV 1) (pur (RI 12)) eqM) asB) (retF (pur RN)) (pur .nx))
    (seqF (ifF (bnd (m2 (getV 1) (pur (RI 13)) eqM) asB) (retF (bnd (consA (m2 (bnd (consA (getV 0) (consA (pur (RI 41)) (pur []))) (callH 2 R_law_take [])) (pur (RI 20)) subM) (consA (m2 (pur (RI 1)) (bnd (consA (getV 0) (consA (pur (RI 9)) (pur []))) (callH 2 R_law_take [])) addM) (pur []))) (callM 2 R_law_ratio []))) (pur .nx))
    (retF (m2 (bnd (consA (bnd (consA (pur (RI 0)) (consA (pur (RI 1)) (pur []))) tupM) (consA (bnd (consA (pur (RI 1)) (consA (pur (RI 3)) (pur []))) tupM) (consA (bnd (consA (pur (RI 1)) (consA (pur (RI 2)) (pur []))) tupM) (consA (bnd (consA (pur (RI 1)) (consA (pur (RI 1)) (pur []))) tupM) (consA (bnd (consA (pur (RI 2)) (consA (pur (RI 1)) (pur []))) tupM) (consA (bnd (consA (pur (RI 3)) (consA (pur (RI 1)) (pur []))) tupM) (consA (bnd (consA (bnd (pur (RI 1)) negM) (consA (pur (RI 3)) (pur []))) tupM) (consA (bnd (consA (bnd (pur (RI 1)) negM) (consA (pur (RI 2)) (pur []))) tupM) (consA (bnd (consA (bnd (pur (RI 1)) negM) (consA (pur (RI 1)) (pur []))) tupM) (consA (bnd (consA (bnd (pur (RI 2)) negM) (consA (pur (RI 1)) (pur []))) tupM) (consA (bnd (consA (bnd (pur (RI 3)) negM) (consA (pur (RI 1)) (pur []))) tupM) (consA (bnd (consA (pur (RI 0)) (consA (pur (RI 1)) (pur []))) tupM) (pur []))))))))))))) lstM) (getV 1) ixM)))))
noncomputable def R_law_half : List SV → Hand → Res × Hand := runH 2 m_law_half
theorem ok_law_half (T : Txt P w K mg base ct) : OkH P w K mg base ct "_law_half" 1 3 R_law_half :=
  okH T.f_law_half sc_law_half (fun _ _ _ _ _ _ us hl => match us, hl with | [_], _ => rfl) fun f cdv A outer s H E hr =>
    (sds_cons (sd_asg (ed_callHP (ok_law_take T) (hr.mono (by decide)) (takes_of rfl rfl rfl rfl) (ad_cons (nv 0) (ad_cons ed_int ad_nil))) (gn 1 sc_law_half.nd))
    (sds_cons (sd_if (td_eq (hu64 hr) (nv 1) ed_int) (sds_one (sd_ret ed_non)) sds_nil)
    (sds_cons (sd_if (td_eq (hu64 hr) (nv 1) ed_int) (sds_one (sd_ret (ed_callP (ok_law_ratio T) (hr.mono (by decide)) (takes_of rfl rfl rfl rfl) (ad_cons (ed_sub (ed_callHP (ok_law_take T) (hr.mono (by decide)) (takes_of rfl rfl rfl rfl) (ad_cons (nv 0) (ad_cons ed_int ad_nil))) ed_int) (ad_cons (ed_add ed_int (ed_callHP (ok_law_take T) (hr.mono (by decide)) (takes_of rfl rfl rfl rfl) (ad_cons (nv 0) (ad_cons ed_int ad_nil)))) ad_nil))))) sds_nil)
    (sds_one (sd_ret (ed_sub1 (ed_lst (ad_cons (ed_tup (ad_cons ed_int (ad_cons ed_int ad_nil))) (ad_cons (ed_tup (ad_cons ed_int (ad_cons ed_int ad_nil))) (ad_cons (ed_tup (ad_cons ed_int (ad_cons ed_int ad_nil))) (ad_cons (ed_tup (ad_cons ed_int (ad_cons ed_int ad_nil))) (ad_cons (ed_tup (ad_cons ed_int (ad_cons ed_int ad_nil))) (ad_cons (ed_tup (ad_cons ed_int (ad_cons ed_int ad_nil))) (ad_cons (ed_tup (ad_cons (ed_neg ed_int) (ad_cons ed_int ad_nil))) (ad_cons (ed_tup (ad_cons (ed_neg ed_int) (ad_cons ed_int ad_nil))) (ad_cons (ed_tup (ad_cons (ed_neg ed_int) (ad_cons ed_int ad_nil))) (ad_cons (ed_tup (ad_cons (ed_neg ed_int) (ad_cons ed_int ad_nil))) (ad_cons (ed_tup (ad_cons (ed_neg ed_int) (ad_cons ed_int ad_nil))) (ad_cons (ed_tup (ad_cons ed_int (ad_cons ed_int ad_nil))) ad_nil))))))))))))) (nv 1)))))))
abbrev N_law_wide : List Str := ["_law_hand_here", "_law_way"]
theorem sc_law_wide : FnScope N_law_wide ["_law_hand_here"] (defScope s_law_wide) := ⟨rfl, rfl, rfl, by decide +kernel, rfl, by decide +kernel, by decide +kernel⟩
noncomputable def m_law_wide : M Fl := (seqF (asgF (bnd (consA (getV 0) (consA (pur (RI 8)) (pur []))) (callH 2 R_law_take [])) (setV 1))
    (seqF (ifF (bnd (m2 (getV 1) (pur (RI 0)) eqM) asB) (retF (bnd (consA (pur (RI 0)) (consA (pur (RI 1)) (pur []))) tupM)) (pur .nx))
    (seqF (ifF (bnd (m2 (getV 1) (pur (RI 1)) eqM) asB) (retF (bnd (consA (m2 (bnd (consA (getV 0) (consA (m2 (m2 (pur (RI 2)) (m2 (pur (RI 10)) (pur (RI 6)) powM) mulI) (pur (RI 1)) addM) (pur []))) (callH 2 R_law_take [])) (m2 (pur (RI 10)) (pur (RI 6)) powM) subM) (consA (m2 (pur (RI 1)) (bnd (consA (getV 0) (consA (pur (RI 12)) (pur []))) (callH 2 R_law_take [])) addM) (pur []))) (callM 2 R_law_ratio []))) (pur .nx))
    (retF (bnd (consA (getV 0) (pur [])) (callH 1 R_law_mark []))))))
noncomputable def R_law_wide : List SV → Hand → Res × Hand := runH 2 m_law_wide
theorem ok_law_wide (T : Txt P w K mg base ct) : OkH P w K mg base ct "_law_wide" 1 4 R_law_wide :=
  okH T.f_law_wide sc_law_wide (fun _ _ _ _ _ _ us hl => match us, hl with | [_], _ => rfl) fun f cdv A outer s H E hr =>
    (sds_cons (sd_asg (ed_callHP (ok_law_take T) (hr.mono (by decide)) (takes_of rfl rfl rfl rfl) (ad_cons (nv 0) (ad_cons ed_int ad_nil))) (gn 1 sc_law_wide.nd))
    (sds_cons (sd_if (td_eq (hu64 hr) (nv 1) ed_int) (sds_one (sd_ret (ed_tup (ad_cons ed_int (ad_cons ed_int ad_nil))))) sds_nil)
    (sds_cons (sd_if (td_eq (hu64 hr) (nv 1) ed_int) (sds_one (sd_ret (ed_callP (ok_law_ratio T) (hr.mono (by decide)) (takes_of rfl rfl rfl rfl) (ad_cons (ed_sub (ed_callHP (ok_law_take T) (hr.mono (by decide)) (takes_of rfl rfl rfl rfl) (ad_cons (nv 0) (ad_cons (ed_add (ed_mulI ed_int (ed_pow ed_int ed_int)) ed_int) ad_nil))) (ed_pow ed_int ed_int)) (ad_cons (ed_add ed_int (ed_callHP (ok_law_take T) (hr.mono (by decide)) (takes_of rfl rfl rfl rfl) (ad_cons (nv 0) (ad_cons ed_int ad_nil)))) ad_nil))))) sds_nil)
    (sds_one (sd_ret (ed_callHP (ok_law_mark T) (hr.mono (by decide)) (takes_of rfl rfl rfl rfl) (ad_cons (nv 0) ad_nil)))))))
abbrev N_law_any_half : List Str := ["_law_hand_here"]
theorem sc_law_any_half : FnScope N_law_any_half ["_law_hand_here"] (defScope s_law_any_half) := ⟨rfl, rfl, rfl, by decide +kernel, rfl, by decide +kernel, by decide +kernel⟩
noncomputable def m_law_any_half : M Fl := (seqF (ifF (bnd (m2 (bnd (consA (getV 0) (consA (pur (RI 8)) (pur []))) (callH 2 R_law_take [])) (pur (RI 0)) eqM) asB) (retF (bnd (consA (m2 (bnd (consA (getV 0) (consA (m2 (m2 (pur (RI 2)) (m2 (pur (RI 10)) (pur (RI 3)) powM) mulI) (pur (RI 1)) addM) (pur []))) (callH 2 R_law_take [])) (m2 (pur (RI 10)) (pur (RI 3)) powM) subM) (consA (m2 (pur (RI 1)) (bnd (consA (getV 0) (consA (pur (RI 60)) (pur []))) (callH 2 R_law_take [])) addM) (pur []))) (callM 2 R_law_ratio []))) (pur .nx))
    (retF (bnd (consA (getV 0) (pur [])) (callH 1 R_law_half []))))
noncomputable def R_law_any_half : List SV → Hand → Res × Hand := runH 1 m_law_any_half
theorem ok_law_any_half (T : Txt P w K mg base ct) : OkH P w K mg base ct "_law_any_half" 1 4 R_law_any_half :=
  okH T.f_law_any_half sc_law_any_half (fun _ _ _ _ _ _ us hl => match us, hl with | [_], _ => rfl) fun f cdv A outer s H E hr =>
    (sds_cons (sd_if (td_eq (hu64 hr) (ed_callHP (ok_law_take T) (hr.mono (by decide)) (takes_of rfl rfl rfl rfl) (ad_cons (nv 0) (ad_cons ed_int ad_nil))) ed_int) (sds_one (sd_ret (ed_callP (ok_law_ratio T) (hr.mono (by decide)) (takes_of rfl rfl rfl rfl) (ad_cons (ed_sub (ed_callHP (ok_law_take T) (hr.mono (by decide)) (takes_of rfl rfl rfl rfl) (ad_cons (nv 0) (ad_cons (ed_add (ed_mulI ed_int (ed_pow ed_int ed_int)) ed_int) ad_nil))) (ed_pow ed_int ed_int)) (ad_cons (ed_add ed_int (ed_callHP (ok_law_take T) (hr.mono (by decide)) (takes_of rfl rfl rfl rfl) (ad_cons (nv 0) (ad_cons ed_int ad_nil)))) ad_nil))))) sds_nil)
    (sds_one (sd_ret (ed_callHP (ok_law_half T) (hr.mono (by decide)) (takes_of rfl rfl rfl rfl) (ad_cons (nv 0) ad_nil)))))
abbrev N_law_square : List Str := ["_law_spot"]
theorem sc_law_square : FnScope N_law_square ["_law_spot"] (defScope s_law_square) := ⟨rfl, rfl, rfl, by decide +kernel, rfl, by decide +kernel, by decide +kernel⟩
noncomputable def m_law_square : M Fl := (retF (bnd (consA (bnd (consA (m2 (getV 0) (pur (RI 0)) ixM) (consA (m2 (getV 0) (pur (RI 0)) ixM) (pur []))) (callM 2 R_law_times [])) (consA (bnd (consA (m2 (getV 0) (pur (RI 1)) ixM) (consA (m2 (getV 0) (pur (RI 1)) ixM) (pur []))) (callM 2 R_law_times [])) (pur []))) (callM 2 R_law_plus [])))
noncomputable def R_law_square : List D → Res := runP 1 m_law_square
theorem ok_law_square (T : Txt P w K mg base ct) : OkP P w K mg base ct "_law_square" 1 4 R_law_square [] :=
  okP T.f_law_square sc_law_square (fun _ _ _ _ _ _ us hl => match us, hl with | [_], _ => rfl) fun f cdv A outer s H E hr =>
    (sds_one (sd_ret (ed_callP (ok_law_plus T) (hr.mono (by decide)) (takes_of rfl rfl rfl rfl) (ad_cons (ed_callP (ok_law_times T) (hr.mono (by decide)) (takes_of rfl rfl rfl rfl) (ad_cons (ed_sub1 (nv 0) ed_int) (ad_cons (ed_sub1 (nv 0) ed_int) ad_nil))) (ad_cons (ed_callP (ok_law_times T) (hr.mono (by decide)) (takes_of rfl rfl rfl rfl) (ad_cons (ed_sub1 (nv 0) ed_int) (ad_cons (ed_sub1 (nv 0) ed_int) ad_nil))) ad_nil)))))
abbrev N_law_same : List Str := ["_law_told_here", "_law_due_here", "_law_number"]
theorem sc_law_same : FnScope N_law_same ["_law_told_here", "_law_due_here"] (defScope s_law_same) := ⟨rfl, rfl, rfl, by decide +kernel, rfl, by decide +kernel, by decide +kernel⟩
noncomputable def m_law_same : M Fl := (seqF (ifF (orT (notT (bnd (bnd (getV 0) (isiM .tuple)) truthM)) (bnd (m2 (bnd (consB (getV 0) (pur [])) lenM) (pur (RI 2)) neM) asB)) (retF (pur (RB false))) (pur .nx))
    (seqF (forF (bnd (getV 0) seqSrc) (setV 2) (ifF (orT (notT (bnd (bnd (getV 2) (isiM .int)) truthM)) (bnd (bnd (getV 2) (isiM .bool)) truthM)) (retF (pur (RB false))) (pur .nx)))
    (retF (andV (m2 (m2 (getV 0) (pur (RI 0)) ixM) (m2 (getV 1) (pur (RI 0)) ixM) eqM) (m2 (m2 (getV 0) (pur (RI 1)) ixM) (m2 (getV 1) (pur (RI 1)) ixM) eqM)))))
noncomputable def R_law_same : List D → Res := runP 3 m_law_same
theorem ok_law_same (T : Txt P w K mg base ct) : OkP P w K mg base ct "_law_same" 2 1 R_law_same [] :=
  okP T.f_law_same sc_law_same (fun _ _ _ _ _ _ us hl => match us, hl with | [_, _], _ => rfl) fun f cdv A outer s H E hr =>
    (sds_cons (sd_if (WD.td (wd_or (td_not (td_truth (ed_isi .tuple (by decide) (by rfl) T.isinstance (nv 0) (pe_bltn (by rfl) T.tuple PyProof.Rows.boot_tuple rfl)))) (wd_or1 (td_ne (hu64 hr) (ed_blt (fun _ h => pe_callB call_len (by rfl) T.len PySem.boot_len h) lenM_ok (bd_cons (nv 0) bd_nil)) ed_int)))) (sds_one (sd_ret ed_bl)) sds_nil)
    (sds_cons (sd_for (passes_of rfl) rfl (id_seq (nv 0)) (gn 2 sc_law_same.nd) (sds_one (sd_if (WD.td (wd_or (td_not (td_truth (ed_isi .int (by decide) (by rfl) T.isinstance (nv 2) (pe_bltn (by rfl) T.int PyProof.Rows.boot_int rfl)))) (wd_or1 (td_truth (ed_isi .bool (by decide) (by rfl) T.isinstance (nv 2) (pe_bltn (by rfl) T.bool PyProof.Rows.boot_bool rfl)))))) (sds_one (sd_ret ed_bl)) sds_nil)))
    (sds_one (sd_ret (ed_and (ed_eq (hu64 hr) (ed_sub1 (nv 0) ed_int) (ed_sub1 (nv 1) ed_int)) (ed_one (ed_eq (hu64 hr) (ed_sub1 (nv 0) ed_int) (ed_sub1 (nv 1) ed_int))))))))
abbrev N_law_same_row : List Str := ["_law_told_here", "_law_due_here", "_law_k"]
theorem sc_law_same_row : FnScope N_law_same_row ["_law_told_here", "_law_due_here"] (defScope s_law_same_row) := ⟨rfl, rfl, rfl, by decide +kernel, rfl, by decide +kernel, by decide +kernel⟩
noncomputable def m_law_same_row : M Fl := (seqF (ifF (orT (notT (bnd (bnd (getV 0) (isiM .tuple)) truthM)) (bnd (m2 (bnd (consB (getV 0) (pur [])) lenM) (bnd (consB (getV 1) (pur [])) lenM) neM) asB)) (retF (pur (RB false))) (pur .nx))
    (retF (m2 (lcM (bnd (consB (bnd (consB (getV 1) (pur [])) lenM) (pur [])) rng1) [2] (setV 2) (notT (bnd (bnd (consA (m2 (getV 0) (getV 2) ixM) (consA (m2 (getV 1) (getV 2) ixM) (pur []))) (callM 2 R_law_same [])) truthM)) (getV 2)) (bnd (pur []) lstM) eqM)))
noncomputable def R_law_same_row : List D → Res := runP 3 m_law_same_row
theorem ok_law_same_row (T : Txt P w K mg base ct) : OkP P w K mg base ct "_law_same_row" 2 2 R_law_same_row [] :=
  okP T.f_law_same_row sc_law_same_row (fun _ _ _ _ _ _ us hl => match us, hl with | [_, _], _ => rfl) fun f cdv A outer s H E hr =>
    (sds_cons (sd_if (WD.td (wd_or (td_not (td_truth (ed_isi .tuple (by decide) (by rfl) T.isinstance (nv 0) (pe_bltn (by rfl) T.tuple PyProof.Rows.boot_tuple rfl)))) (wd_or1 (td_ne (hu64 hr) (ed_blt (fun _ h => pe_callB call_len (by rfl) T.len PySem.boot_len h) lenM_ok (bd_cons (nv 0) bd_nil)) (ed_blt (fun _ h => pe_callB call_len (by rfl) T.len PySem.boot_len h) lenM_ok (bd_cons (nv 1) bd_nil)))))) (sds_one (sd_ret ed_bl)) sds_nil)
    (sds_one (sd_ret (ed_eq (hu64 hr) (ed_lc (own := [("_law_k", 2)]) rfl sc_law_same_row.nd (id_range1 (by rfl) T.range (bd_cons (ed_blt (fun _ h => pe_callB call_len (by rfl) T.len PySem.boot_len h) lenM_ok (bd_cons (nv 1) bd_nil)) bd_nil)) (blkOk_by (own := [("_law_k", 2)]) (N := N_law_same_row) (sc := (defScope s_law_same_row)) (by decide +kernel)) (by decide) (fun _ _ _ _ _ => (gn 2 sc_law_same_row.nd)) (fun _ _ _ _ _ => (ifs_one (td_not (td_truth (ed_callP (ok_law_same T) (hr.mono (by decide)) takes0 (ad_cons (ed_sub1 (nv 0) (nv 2)) (ad_cons (ed_sub1 (nv 1) (nv 2)) ad_nil))))))) (fun _ _ _ _ _ => (nv 2))) (ed_lst ad_nil)))))
abbrev N_law_truth : List Str := ["_law_told_here", "_law_due_here"]
theorem sc_law_truth : FnScope N_law_truth ["_law_told_here", "_law_due_here"] (defScope s_law_truth) := ⟨rfl, rfl, rfl, by decide +kernel, rfl, by decide +kernel, by decide +kernel⟩
noncomputable def m_law_truth : M Fl := (retF (orV (andV (m2 (getV 0) (pur (RB true)) isBM) (getV 1)) (andV (m2 (getV 0) (pur (RB false)) isBM) (bnd (getV 1) notM))))
noncomputable def R_law_truth : List D → Res := runP 2 m_law_truth
theorem ok_law_truth (T : Txt P w K mg base ct) : OkP P w K mg base ct "_law_truth" 2 1 R_law_truth [] :=
  okP T.f_law_truth sc_law_truth (fun _ _ _ _ _ _ us hl => match us, hl with | [_, _], _ => rfl) fun f cdv A outer s H E hr =>
    (sds_one (sd_ret (ed_or (ed_and (ed_isB (nv 0) ed_bl) (ed_one (nv 1))) (ed_one (ed_and (ed_isB (nv 0) ed_bl) (ed_one (ed_not (nv 1))))))))
abbrev N_law_form : List Str := ["_law_hand_here", "_law_row"]
theorem sc_law_form : FnScope N_law_form ["_law_hand_here", "_law_row"] (defScope s_law_form) := ⟨rfl, rfl, rfl, by decide +kernel, rfl, by decide +kernel, by decide +kernel⟩
noncomputable def m_law_form : M Fl := (retF (ifE (bnd (m2 (bnd (consA (getV 0) (consA (pur (RI 2)) (pur []))) (callH 2 R_law_take [])) (pur (RI 0)) eqM) asB) (bnd (consB (getV 1) (pur [])) listM) (bnd (consB (getV 1) (pur [])) tupleM)))
noncomputable def R_law_form : List SV → Hand → Res × Hand := runH 2 m_law_form
theorem ok_law_form (T : Txt P w K mg base ct) : OkH P w K mg base ct "_law_form" 2 2 R_law_form :=
  okH T.f_law_form sc_law_form (fun _ _ _ _ _ _ us hl => match us, hl with | [_, _], _ => rfl) fun f cdv A outer s H E hr =>
    (sds_one (sd_ret (ed_if (td_eq (hu64 hr) (ed_callHP (ok_law_take T) (hr.mono (by decide)) (takes_of rfl rfl rfl rfl) (ad_cons (nv 0) (ad_cons ed_int ad_nil))) ed_int) (ed_blt (fun _ h => pe_callTy call_list_of (by rfl) T.list PyProof.Rows.boot_list h) listM_ok (bd_cons (nv 1) bd_nil)) (ed_blt (fun _ h => pe_callTy call_tuple_of (by rfl) T.tuple PyProof.Rows.boot_tuple h) tupleM_ok (bd_cons (nv 1) bd_nil)))))
abbrev N_law_is_spot : List Str := ["_law_thing"]
theorem sc_law_is_spot : FnScope N_law_is_spot ["_law_thing"] (defScope s_law_is_spot) := ⟨rfl, rfl, rfl, by decide +kernel, rfl, by decide +kernel, by decide +kernel⟩
noncomputable def m_law_is_spot : M Fl := (seqF (ifF (orT (notT (bnd (bnd (getV 0) (isiM2 .list .tuple)) truthM)) (bnd (m2 (bnd (consB (getV 0) (pur [])) lenM) (pur (RI 2)) neM) asB)) (retF (pur (RB false))) (pur .nx))
    (retF (andV (bnd (consA (m2 (getV 0) (pur (RI 0)) ixM) (pur [])) (callM 1 R_law_is_ratio [])) (bnd (consA (m2 (getV 0) (pur (RI 1)) ixM) (pur [])) (callM 1 R_law_is_ratio [])))))
noncomputable def R_law_is_spot : List D → Res := runP 1 m_law_is_spot
theorem ok_law_is_spot (T : Txt P w K mg base ct) : OkP P w K mg base ct "_law_is_spot" 1 3 R_law_is_spot [] :=
  okP T.f_law_is_spot sc_law_is_spot (fun _ _ _ _ _ _ us hl => match us, hl with | [_], _ => rfl) fun f cdv A outer s H E hr =>
    (sds_cons (sd_if (WD.td (wd_or (td_not (td_truth (ed_isi2 .list .tuple (by decide) (by decide) (by rfl) T.isinstance (nv 0) (pe_bltn (by rfl) T.list PyProof.Rows.boot_list rfl) (pe_bltn (by rfl) T.tuple PyProof.Rows.boot_tuple rfl)))) (wd_or1 (td_ne (hu64 hr) (ed_blt (fun _ h => pe_callB call_len (by rfl) T.len PySem.boot_len h) lenM_ok (bd_cons (nv 0) bd_nil)) ed_int)))) (sds_one (sd_ret ed_bl)) sds_nil)
    (sds_one (sd_ret (ed_and (ed_callP (ok_law_is_ratio T) (hr.mono (by decide)) (takes_of rfl rfl rfl rfl) (ad_cons (ed_sub1 (nv 0) ed_int) ad_nil)) (ed_one (ed_callP (ok_law_is_ratio T) (hr.mono (by decide)) (takes_of rfl rfl rfl rfl) (ad_cons (ed_sub1 (nv 0) ed_int) ad_nil)))))))
abbrev N_law_is_direction : List Str := ["_law_thing"]
theorem sc_law_is_direction : FnScope N_law_is_direction ["_law_thing"] (defScope s_law_is_direction) := ⟨rfl, rfl, rfl, by decide +kernel, rfl, by decide +kernel, by decide +kernel⟩
noncomputable def m_law_is_direction : M Fl := (retF (andV (bnd (consA (getV 0) (pur [])) (callM 1 R_law_is_spot [])) (m2 (bnd (consA (getV 0) (pur [])) (callM 1 R_law_square [])) (bnd (consA (pur (RI 1)) (consA (pur (RI 1)) (pur []))) tupM) eqM)))
noncomputable def R_law_is_direction : List D → Res := runP 1 m_law_is_direction
theorem ok_law_is_direction (T : Txt P w K mg base ct) : OkP P w K mg base ct "_law_is_direction" 1 5 R_law_is_direction [] :=
  okP T.f_law_is_direction sc_law_is_direction (fun _ _ _ _ _ _ us hl => match us, hl with | [_], _ => rfl) fun f cdv A outer s H E hr =>
    (sds_one (sd_ret (ed_and (ed_callP (ok_law_is_spot T) (hr.mono (by decide)) (takes_of rfl rfl rfl rfl) (ad_cons (nv 0) ad_nil)) (ed_one (ed_eq (hu64 hr) (ed_callP (ok_law_square T) (hr.mono (by decide)) (takes_of rfl rfl rfl rfl) (ad_cons (nv 0) ad_nil)) (ed_tup (ad_cons ed_int (ad_cons ed_int ad_nil))))))))
abbrev N_law_odd : List Str := ["_law_hand_here", "_law_odds"]
theorem sc_law_odd : FnScope N_law_odd ["_law_hand_here"] (defScope s_law_odd) := ⟨rfl, rfl, rfl, by decide +kernel, rfl, by decide +kernel, by decide +kernel⟩
noncomputable def m_law_odd : M Fl := (seqF (asgF (bnd (bnd (consA (pur RN) (consA (pur (RB true)) (consA (pur (RI 3)) (consA (pur (RS ("1" : Str))) (consA (bnd (consA (pur (RI 2)) (consA (pur (RI 4)) (pur []))) tupM) (consA (bnd (consA (pur (RI 1)) (consA (pur (RI 0)) (pur []))) tupM) (consA (bnd (consA (pur (RI 1)) (consA (bnd (pur (RI 2)) negM) (pur []))) tupM) (consA (bnd (bnd (consA (pur (RI 1)) (consA (pur (RI 2)) (pur []))) lstM) frz) (consA (bnd (consA (pur (RB true)) (consA (pur (RI 1)) (pur []))) tupM) (consA (bnd (consA (pur (RI 1)) (consA (pur (RB true)) (pur []))) tupM) (consA (bnd (consA (pur (RI 1)) (pur [])) tupM) (consA (bnd (consA (pur (RI 1)) (consA (pur (RI 2)) (consA (pur (RI 3)) (pur [])))) tupM) (consA (bnd (consA (pur (RI 0)) (consA (pur (RI 5)) (pur []))) tupM) (consA (bnd (consA (bnd (consA (pur (RI 1)) (consA (pur (RI 1)) (pur []))) tupM) (consA (pur (RI 1)) (pur []))) tupM) (consA (bnd (consA (pur (RI 1)) (consA (pur (RI 1)) (pur []))) tupM) (pur [])))))))))))))))) lstM) frz) (setV 1))
    (retF (m2 (getV 1) (bnd (consA (getV 0) (consA (bnd (consB (getV 1) (pur [])) lenM) (pur []))) (callH 2 R_law_take [])) ixM)))
noncomputable def R_law_odd : List SV → Hand → Res × Hand := runH 2 m_law_odd
theorem ok_law_odd (T : Txt P w K mg base ct) : OkH P w K mg base ct "_law_odd" 1 2 R_law_odd :=
  okH T.f_law_odd sc_law_odd (fun _ _ _ _ _ _ us hl => match us, hl with | [_], _ => rfl) fun f cdv A outer s H E hr =>
    (sds_cons (sd_asg (ed_frz (ed_lst (ad_cons ed_non (ad_cons ed_bl (ad_cons ed_int (ad_cons ed_str (ad_cons (ed_tup (ad_cons ed_int (ad_cons ed_int ad_nil))) (ad_cons (ed_tup (ad_cons ed_int (ad_cons ed_int ad_nil))) (ad_cons (ed_tup (ad_cons ed_int (ad_cons (ed_neg ed_int) ad_nil))) (ad_cons (ed_frz (ed_lst (ad_cons ed_int (ad_cons ed_int ad_nil)))) (ad_cons (ed_tup (ad_cons ed_bl (ad_cons ed_int ad_nil))) (ad_cons (ed_tup (ad_cons ed_int (ad_cons ed_bl ad_nil))) (ad_cons (ed_tup (ad_cons ed_int ad_nil)) (ad_cons (ed_tup (ad_cons ed_int (ad_cons ed_int (ad_cons ed_int ad_nil)))) (ad_cons (ed_tup (ad_cons ed_int (ad_cons ed_int ad_nil))) (ad_cons (ed_tup (ad_cons (ed_tup (ad_cons ed_int (ad_cons ed_int ad_nil))) (ad_cons ed_int ad_nil))) (ad_cons (ed_tup (ad_cons ed_int (ad_cons ed_int ad_nil))) ad_nil))))))))))))))))) (gn 1 sc_law_odd.nd))
    (sds_one (sd_ret (ed_sub1 (nv 1) (ed_callHP (ok_law_take T) (hr.mono (by decide)) (takes_of rfl rfl rfl rfl) (ad_cons (nv 0) (ad_cons (ed_blt (fun _ h => pe_callB call_len (by rfl) T.len PySem.boot_len h) lenM_ok (bd_cons (nv 1) bd_nil)) ad_nil)))))))
abbrev N_law_spoilt_direction : List Str := ["_law_hand_here", "_law_x", "_law_y", "_law_way"]
theorem sc_law_spoilt_direction : FnScope N_law_spoilt_direction ["_law_hand_here"] (defScope s_law_spoilt_direction) := ⟨rfl, rfl, rfl, by decide +kernel, rfl, by decide +kernel, by decide +kernel⟩
noncomputable def m_law_spoilt_direction : M Fl := (seqF (asgF (bnd (consA (bnd (bnd (consA (getV 0) (pur [])) (callH 1 R_law_any_half [])) frz) (pur [])) (callM 1 R_law_direction [])) (seqG (consG (setV 1) (consG (setV 2) nilG)) 2))
    (seqF (asgF (bnd (consA (getV 0) (consA (pur (RI 12)) (pur []))) (callH 2 R_law_take [])) (setV 3))
    (seqF (ifF (bnd (m2 (getV 3) (pur (RI 5)) ltM) asB) (retF (bnd (consA (getV 0) (consA (bnd (consA (getV 1) (consA (getV 2) (pur []))) tupM) (pur []))) (callH 2 R_law_form []))) (pur .nx))
    (seqF (ifF (bnd (m2 (getV 3) (pur (RI 5)) eqM) asB) (retF (bnd (consA (getV 0) (consA (bnd (consA (getV 1) (consA (bnd (consA (getV 2) (consA (bnd (consA (getV 0) (pur [])) (callH 1 R_law_wide [])) (pur []))) (callM 2 R_law_plus [])) (pur []))) tupM) (pur []))) (callH 2 R_law_form []))) (pur .nx))
    (seqF (ifF (bnd (m2 (getV 3) (pur (RI 6)) eqM) asB) (retF (bnd (consA (getV 0) (consA (bnd (consA (bnd (consA (getV 0) (pur [])) (callH 1 R_law_wide [])) (consA (bnd (consA (getV 0) (pur [])) (callH 1 R_law_wide [])) (pur []))) tupM) (pur []))) (callH 2 R_law_form []))) (pur .nx))
    (seqF (ifF (bnd (m2 (getV 3) (pur (RI 7)) eqM) asB) (retF (bnd (consA (getV 0) (consA (bnd (consA (bnd (bnd (consA (getV 0) (pur [])) (callH 1 R_law_odd [])) frz) (consA (getV 2) (pur []))) tupM) (pur []))) (callH 2 R_law_form []))) (pur .nx))
    (seqF (ifF (bnd (m2 (getV 3) (pur (RI 8)) eqM) asB) (retF (bnd (consA (getV 0) (consA (bnd (consA (getV 1) (consA (bnd (bnd (consA (getV 0) (pur [])) (callH 1 R_law_odd [])) frz) (pur []))) tupM) (pur []))) (callH 2 R_law_form []))) (pur .nx))
    (seqF (ifF (bnd (m2 (getV 3) (pur (RI 9)) eqM) asB) (retF (bnd (consA (getV 0) (consA (bnd (consA (getV 1) (consA (getV 2) (consA (getV 2) (pur [])))) tupM) (pur []))) (callH 2 R_law_form []))) (pur .nx))
    (seqF (ifF (bnd (m2 (getV 3) (pur (RI 10)) eqM) asB) (retF (bnd (consA (getV 0) (consA (bnd (consA (getV 2) (pur [])) tupM) (pur []))) (callH 2 R_law_form []))) (pur .nx))
    (retF (bnd (consA (getV 0) (pur [])) (callH 1 R_law_odd []))))))))))))
noncomputable def R_law_spoilt_direction : List SV → Hand → Res × Hand := runH 4 m_law_spoilt_direction
theorem ok_law_spoilt_direction (T : Txt P w K mg base ct) : OkH P w K mg base ct "_law_spoilt_direction" 1 5 R_law_spoilt_direction :=
  okH T.f_law_spoilt_direction sc_law_spoilt_direction (fun _ _ _ _ _ _ us hl => match us, hl with | [_], _ => rfl) fun f cdv A outer s H E hr =>
    (sds_cons (sd_asg (ed_callP (ok_law_direction T) (hr.mono (by decide)) (takes_of rfl rfl rfl rfl) (ad_cons (ed_frz (ed_callHP (ok_law_any_half T) (hr.mono (by decide)) (takes_of rfl rfl rfl rfl) (ad_cons (nv 0) ad_nil))) ad_nil)) (gd_seq rfl (gds_cons (gn 1 sc_law_spoilt_direction.nd) (gds_cons (gn 2 sc_law_spoilt_direction.nd) gds_nilG))))
    (sds_cons (sd_asg (ed_callHP (ok_law_take T) (hr.mono (by decide)) (takes_of rfl rfl rfl rfl) (ad_cons (nv 0) (ad_cons ed_int ad_nil))) (gn 3 sc_law_spoilt_direction.nd))
    (sds_cons (sd_if (td_lt (nv 3) ed_int) (sds_one (sd_ret (ed_callHP (ok_law_form T) (hr.mono (by decide)) (takes_of rfl rfl rfl rfl) (ad_cons (nv 0) (ad_cons (ed_tup (ad_cons (nv 1) (ad_cons (nv 2) ad_nil))) ad_nil))))) sds_nil)
    (sds_cons (sd_if (td_eq (hu64 hr) (nv 3) ed_int) (sds_one (sd_ret (ed_callHP (ok_law_form T) (hr.mono (by decide)) (takes_of rfl rfl rfl rfl) (ad_cons (nv 0) (ad_cons (ed_tup (ad_cons (nv 1) (ad_cons (ed_callP (ok_law_plus T) (hr.mono (by decide)) (takes_of rfl rfl rfl rfl) (ad_cons (nv 2) (ad_cons (ed_callHP (ok_law_wide T) (hr.mono (by decide)) (takes_of rfl rfl rfl rfl) (ad_cons (nv 0) ad_nil)) ad_nil))) ad_nil))) ad_nil))))) sds_nil)
    (sds_cons (sd_if (td_eq (hu64 hr) (nv 3) ed_int) (sds_one (sd_ret (ed_callHP (ok_law_form T) (hr.mono (by decide)) (takes_of rfl rfl rfl rfl) (ad_cons (nv 0) (ad_cons (ed_tup (ad_cons (ed_callHP (ok_law_wide T) (hr.mono (by decide)) (takes_of rfl rfl rfl rfl) (ad_cons (nv 0) ad_nil)) (ad_cons (ed_callHP (ok_law_wide T) (hr.mono (by decide)) (takes_of rfl rfl rfl rfl) (ad_cons (nv 0) ad_nil)) ad_nil))) ad_nil))))) sds_nil)
    (sds_cons (sd_if (td_eq (hu64 hr) (nv 3) ed_int) (sds_one (sd_ret (ed_callHP (ok_law_form T) (hr.mono (by decide)) (takes_of rfl rfl rfl rfl) (ad_cons (nv 0) (ad_cons (ed_tup (ad_cons (ed_frz (ed_callHP (ok_law_odd T) (hr.mono (by decide)) (takes_of rfl rfl rfl rfl) (ad_cons (nv 0) ad_nil))) (ad_cons (nv 2) ad_nil))) ad_nil))))) sds_nil)
    (sds_cons (sd_if (td_eq (hu64 hr) (nv 3) ed_int) (sds_one (sd_ret (ed_callHP (ok_law_form T) (hr.mono (by decide)) (takes_of rfl rfl rfl rfl) (ad_cons (nv 0) (ad_cons (ed_tup (ad_cons (nv 1) (ad_cons (ed_frz (ed_callHP (ok_law_odd T) (hr.mono (by decide)) (takes_of rfl rfl rfl rfl) (ad_cons (nv 0) ad_nil))) ad_nil))) ad_nil))))) sds_nil)
    (sds_cons (sd_if (td_eq (hu64 hr) (nv 3) ed_int) (sds_one (sd_ret (ed_callHP (ok_law_form T) (hr.mono (by decide)) (takes_of rfl rfl rfl rfl) (ad_cons (nv 0) (ad_cons (ed_tup (ad_cons (nv 1) (ad_cons (nv 2) (ad_cons (nv 2) ad_nil)))) ad_nil))))) sds_nil)
    (sds_cons (sd_if (td_eq (hu64 hr) (nv 3) ed_int) (sds_one (sd_ret (ed_callHP (ok_law_form T) (hr.mono (by decide)) (takes_of rfl rfl rfl rfl) (ad_cons (nv 0) (ad_cons (ed_tup (ad_cons (nv 2) ad_nil)) ad_nil))))) sds_nil)
    (sds_one (sd_ret (ed_callHP (ok_law_odd T) (hr.mono (by decide)) (takes_of rfl rfl rfl rfl) (ad_cons (nv 0) ad_nil)))))))))))))
abbrev N_law_spoilt_half : List Str := ["_law_hand_here"]
theorem sc_law_spoilt_half : FnScope N_law_spoilt_half ["_law_hand_here"] (defScope s_law_spoilt_half) := ⟨rfl, rfl, rfl, by decide +kernel, rfl, by decide +kernel, by decide +kernel⟩
noncomputable def m_law_spoilt_half : M Fl := (retF (ifE (bnd (m2 (bnd (consA (getV 0) (consA (pur (RI 4)) (pur []))) (callH 2 R_law_take [])) (pur (RI 0)) eqM) asB) (bnd (consA (getV 0) (pur [])) (callH 1 R_law_odd [])) (bnd (consA (getV 0) (pur [])) (callH 1 R_law_any_half []))))
noncomputable def R_law_spoilt_half : List SV → Hand → Res × Hand := runH 1 m_law_spoilt_half
theorem ok_law_spoilt_half (T : Txt P w K mg base ct) : OkH P w K mg base ct "_law_spoilt_half" 1 5 R_law_spoilt_half :=
  okH T.f_law_spoilt_half sc_law_spoilt_half (fun _ _ _ _ _ _ us hl => match us, hl with | [_], _ => rfl) fun f cdv A outer s H E hr =>
    (sds_one (sd_ret (ed_if (td_eq (hu64 hr) (ed_callHP (ok_law_take T) (hr.mono (by decide)) (takes_of rfl rfl rfl rfl) (ad_cons (nv 0) (ad_cons ed_int ad_nil))) ed_int) (ed_callHP (ok_law_odd T) (hr.mono (by decide)) (takes_of rfl rfl rfl rfl) (ad_cons (nv 0) ad_nil)) (ed_callHP (ok_law_any_half T) (hr.mono (by decide)) (takes_of rfl rfl rfl rfl) (ad_cons (nv 0) ad_nil)))))
abbrev N_law_is_half : List Str := ["_law_thing"]
theorem sc_law_is_half : FnScope N_law_is_half ["_law_thing"] (defScope s_law_is_half) := ⟨rfl, rfl, rfl, by decide +kernel, rfl, by decide +kernel, by decide +kernel⟩
noncomputable def m_law_is_half : M Fl := (retF (orV (m2 (getV 0) (pur RN) isNM) (bnd (consA (getV 0) (pur [])) (callM 1 R_law_is_ratio []))))
noncomputable def R_law_is_half : List D → Res := runP 1 m_law_is_half
theorem ok_law_is_half (T : Txt P w K mg base ct) : OkP P w K mg base ct "_law_is_half" 1 3 R_law_is_half [] :=
  okP T.f_law_is_half sc_law_is_half (fun _ _ _ _ _ _ us hl => match us, hl with | [_], _ => rfl) fun f cdv A outer s H E hr =>
    (sds_one (sd_ret (ed_or (ed_isN (nv 0) ed_non) (ed_one (ed_callP (ok_law_is_ratio T) (hr.mono (by decide)) (takes_of rfl rfl rfl rfl) (ad_cons (nv 0) ad_nil))))))
abbrev N_law_called : List Str := ["_law_act", "_law_one", "_law_other", "_law_half_here", "_law_quarters_here"]
theorem sc_law_called : FnScope N_law_called ["_law_act", "_law_one", "_law_other", "_law_half_here", "_law_quarters_here"] (defScope s_law_called) := ⟨rfl, rfl, rfl, by decide +kernel, rfl, by decide +kernel, by decide +kernel⟩
noncomputable def m_law_called : M Fl := (seqF (ifF (bnd (m2 (getV 0) (pur (RI 0)) eqM) asB) (retF (bnd (consA (getV 1) (pur [])) (callM 1 R_check_spot []))) (pur .nx))
    (seqF (ifF (bnd (m2 (getV 0) (pur (RI 1)) eqM) asB) (retF (bnd (consA (getV 1) (pur [])) (callM 1 R_check_direction []))) (pur .nx))
    (seqF (ifF (bnd (m2 (getV 0) (pur (RI 2)) eqM) asB) (retF (bnd (consA (getV 3) (pur [])) (callM 1 R_direction_by []))) (pur .nx))
    (seqF (ifF (bnd (m2 (getV 0) (pur (RI 3)) eqM) asB) (retF (bnd (consA (getV 1) (pur [])) (callM 1 R_half_of []))) (pur .nx))
    (seqF (ifF (bnd (m2 (getV 0) (pur (RI 4)) eqM) asB) (retF (bnd (consA (getV 3) (consA (getV 1) (pur []))) (callM 2 R_add_halves []))) (pur .nx))
    (seqF (ifF (bnd (m2 (getV 0) (pur (RI 5)) eqM) asB) (retF (bnd (consA (getV 1) (consA (getV 3) (pur []))) (callM 2 R_turned_by []))) (pur .nx))
    (seqF (ifF (bnd (m2 (getV 0) (pur (RI 6)) eqM) asB) (retF (bnd (consA (getV 1) (consA (getV 4) (pur []))) (callM 2 R_turned_quarters []))) (pur .nx))
    (seqF (ifF (bnd (m2 (getV 0) (pur (RI 7)) eqM) asB) (retF (bnd (consA (getV 4) (pur [])) (callM 1 R_quarter_direction []))) (pur .nx))
    (seqF (ifF (bnd (m2 (getV 0) (pur (RI 8)) eqM) asB) (retF (bnd (consA (getV 1) (pur [])) (callM 1 R_opposite_of []))) (pur .nx))
    (seqF (ifF (bnd (m2 (getV 0) (pur (RI 9)) eqM) asB) (retF (bnd (consA (getV 1) (pur [])) (callM 1 R_mirrored_direction []))) (pur .nx))
    (seqF (ifF (bnd (m2 (getV 0) (pur (RI 10)) eqM) asB) (retF (bnd (consA (getV 1) (consA (getV 2) (pur []))) (callM 2 R_cosine_between []))) (pur .nx))
    (retF (bnd (consA (getV 1) (consA (getV 2) (pur []))) (callM 2 R_sine_between []))))))))))))))
noncomputable def R_law_called : List D → Res := runP 5 m_law_called
theorem ok_law_called (T : Txt P w K mg base ct) : OkP P w K mg base ct "_law_called" 5 7 R_law_called [] :=
  okP T.f_law_called sc_law_called (fun _ _ _ _ _ _ us hl => match us, hl with | [_, _, _, _, _], _ => rfl) fun f cdv A outer s H E hr =>
    (sds_cons (sd_if (td_eq (hu64 hr) (nv 0) ed_int) (sds_one (sd_ret (ed_callP (ok_check_spot T) (hr.mono (by decide)) (takes_of rfl rfl rfl rfl) (ad_cons (nv 1) ad_nil)))) sds_nil)
    (sds_cons (sd_if (td_eq (hu64 hr) (nv 0) ed_int) (sds_one (sd_ret (ed_callP (ok_check_direction T) (hr.mono (by decide)) (takes_of rfl rfl rfl rfl) (ad_cons (nv 1) ad_nil)))) sds_nil)
    (sds_cons (sd_if (td_eq (hu64 hr) (nv 0) ed_int) (sds_one (sd_ret (ed_callP (ok_direction_by T) (hr.mono (by decide)) (takes_of rfl rfl rfl rfl) (ad_cons (nv 3) ad_nil)))) sds_nil)
    (sds_cons (sd_if (td_eq (hu64 hr) (nv 0) ed_int) (sds_one (sd_ret (ed_callP (ok_half_of T) (hr.mono (by decide)) (takes_of rfl rfl rfl rfl) (ad_cons (nv 1) ad_nil)))) sds_nil)
    (sds_cons (sd_if (td_eq (hu64 hr) (nv 0) ed_int) (sds_one (sd_ret (ed_callP (ok_add_halves T) (hr.mono (by decide)) (takes_of rfl rfl rfl rfl) (ad_cons (nv 3) (ad_cons (nv 1) ad_nil))))) sds_nil)
    (sds_cons (sd_if (td_eq (hu64 hr) (nv 0) ed_int) (sds_one (sd_ret (ed_callP (ok_turned_by T) (hr.mono (by decide)) (takes_of rfl rfl rfl rfl) (ad_cons (nv 1) (ad_cons (nv 3) ad_nil))))) sds_nil)
    (sds_cons (sd_if (td_eq (hu64 hr) (nv 0) ed_int) (sds_one (sd_ret (ed_callP (ok_turned_quarters T) (hr.mono (by decide)) (takes_of rfl rfl rfl rfl) (ad_cons (nv 1) (ad_cons (nv 4) ad_nil))))) sds_nil)
    (sds_cons (sd_if (td_eq (hu64 hr) (nv 0) ed_int) (sds_one (sd_ret (ed_callP (ok_quarter_direction T) (hr.mono (by decide)) (takes_of rfl rfl rfl rfl) (ad_cons (nv 4) ad_nil)))) sds_nil)
    (sds_cons (sd_if (td_eq (hu64 hr) (nv 0) ed_int) (sds_one (sd_ret (ed_callP (ok_opposite_of T) (hr.mono (by decide)) (takes_of rfl rfl rfl rfl) (ad_cons (nv 1) ad_nil)))) sds_nil)
    (sds_cons (sd_if (td_eq (hu64 hr) (nv 0) ed_int) (sds_one (sd_ret (ed_callP (ok_mirrored_direction T) (hr.mono (by decide)) (takes_of rfl rfl rfl rfl) (ad_cons (nv 1) ad_nil)))) sds_nil)
    (sds_cons (sd_if (td_eq (hu64 hr) (nv 0) ed_int) (sds_one (sd_ret (ed_callP (ok_cosine_between T) (hr.mono (by decide)) (takes_of rfl rfl rfl rfl) (ad_cons (nv 1) (ad_cons (nv 2) ad_nil))))) sds_nil)
    (sds_one (sd_ret (ed_callP (ok_sine_between T) (hr.mono (by decide)) (takes_of rfl rfl rfl rfl) (ad_cons (nv 1) (ad_cons (nv 2) ad_nil))))))))))))))))
abbrev N_law_told : List Str := ["_law_act", "_law_one", "_law_other", "_law_half_here", "_law_quarters_here", "_law_word", "e"]
theorem sc_law_told : FnScope N_law_told ["_law_act", "_law_one", "_law_other", "_law_half_here", "_law_quarters_here"] (defScope s_law_told) := ⟨rfl, rfl, rfl, by decide +kernel, rfl, by decide +kernel, by decide +kernel⟩
noncomputable def m_law_told : M Fl := (seqF (asgF (pur (RS ("let" : Str))) (setV 5))
    (seqF (tryZ (dropF (bnd (consA (getV 0) (consA (getV 1) (consA (getV 2) (consA (getV 3) (consA (getV 4) (pur [])))))) (callM 5 R_law_called []))) [⟨1, (exsOf 5 1), some 6, fun xx => (asgF (ifE (andT (pur true) (pur true)) (pur (RS ("spot" : Str))) (pur (RS ("?" : Str)))) (setV 5))⟩, ⟨2, (exsOf 5 2), some 6, fun xx => (asgF (ifE (andT (pur true) (pur true)) (pur (RS ("direction" : Str))) (pur (RS ("?" : Str)))) (setV 5))⟩, ⟨3, (exsOf 5 3), some 6, fun xx => (asgF (ifE (andT (pur true) (pur true)) (pur (RS ("half" : Str))) (pur (RS ("?" : Str)))) (setV 5))⟩, ⟨4, (exsOf 5 4), some 6, fun xx => (asgF (ifE (andT (pur true) (pur true)) (pur (RS ("quarters" : Str))) (pur (RS ("?" : Str)))) (setV 5))⟩])
    (retF (getV 5))))
noncomputable def R_law_told : List D → Res := runP 7 m_law_told
theorem ok_law_told (T : Txt P w K mg base ct) : OkP P w K mg base ct "_law_told" 5 8 R_law_told [] :=
  okP T.f_law_told sc_law_told (fun _ _ _ _ _ _ us hl => match us, hl with | [_, _, _, _, _], _ => rfl) fun f cdv A outer s H E hr =>
    (sds_cons (sd_asg ed_str (gn 5 sc_law_told.nd))
    (sds_cons (sd_tryZ rfl rfl (takes_of rfl rfl rfl rfl) (fun W pn xe tk hpo => (sds_one (sd_expr (ed_callP (ok_law_called T) (hr.mono (by decide)) tk (ad_cons (nv 0) (ad_cons (nv 1) (ad_cons (nv 2) (ad_cons (nv 3) (ad_cons (nv 4) ad_nil))))))))) (.named T.h_BadSpot rfl (by decide) sc_law_told.nd (i := 6) rfl rfl exsOf_one (hd_asgX (fun a oe cls d pn hz hf => (edx_ifE (WDX.td (wdx_and (tdx_isi T.isx_BadSpot_ArmError T.isinstance hz hf (pv 6)) (wdx_and1 (tdx_isi T.isx_BadSpot_ValueError T.isinstance hz hf (pv 6))))) (edx_of ed_str) (edx_of ed_str))) (fun _ _ _ => (gn 5 sc_law_told.nd))) (.named T.h_BadDirection rfl (by decide) sc_law_told.nd (i := 6) rfl rfl exsOf_one (hd_asgX (fun a oe cls d pn hz hf => (edx_ifE (WDX.td (wdx_and (tdx_isi T.isx_BadDirection_ArmError T.isinstance hz hf (pv 6)) (wdx_and1 (tdx_isi T.isx_BadDirection_ValueError T.isinstance hz hf (pv 6))))) (edx_of ed_str) (edx_of ed_str))) (fun _ _ _ => (gn 5 sc_law_told.nd))) (.named T.h_BadHalf rfl (by decide) sc_law_told.nd (i := 6) rfl rfl exsOf_one (hd_asgX (fun a oe cls d pn hz hf => (edx_ifE (WDX.td (wdx_and (tdx_isi T.isx_BadHalf_ArmError T.isinstance hz hf (pv 6)) (wdx_and1 (tdx_isi T.isx_BadHalf_ValueError T.isinstance hz hf (pv 6))))) (edx_of ed_str) (edx_of ed_str))) (fun _ _ _ => (gn 5 sc_law_told.nd))) (.named T.h_BadQuarters rfl (by decide) sc_law_told.nd (i := 6) rfl rfl exsOf_one (hd_asgX (fun a oe cls d pn hz hf => (edx_ifE (WDX.td (wdx_and (tdx_isi T.isx_BadQuarters_ArmError T.isinstance hz hf (pv 6)) (wdx_and1 (tdx_isi T.isx_BadQuarters_ValueError T.isinstance hz hf (pv 6))))) (edx_of ed_str) (edx_of ed_str))) (fun _ _ _ => (gn 5 sc_law_told.nd))) .nil)))))
    (sds_one (sd_ret (nv 5)))))
abbrev N_law_due : List Str := ["_law_act", "_law_one", "_law_other", "_law_half_here", "_law_quarters_here", "_law_whole"]
theorem sc_law_due : FnScope N_law_due ["_law_act", "_law_one", "_law_other", "_law_half_here", "_law_quarters_here"] (defScope s_law_due) := ⟨rfl, rfl, rfl, by decide +kernel, rfl, by decide +kernel, by decide +kernel⟩
noncomputable def m_law_due : M Fl := (seqF (asgF (andV (bnd (getV 4) (isiM .int)) (bnd (bnd (getV 4) (isiM .bool)) notM)) (setV 5))
    (seqF (ifF (bnd (m2 (getV 0) (pur (RI 0)) eqM) asB) (retF (ifE (bnd (bnd (consA (getV 1) (pur [])) (callM 1 R_law_is_spot [])) truthM) (pur (RS ("let" : Str))) (pur (RS ("spot" : Str))))) (pur .nx))
    (seqF (ifF (bnd (m2 (getV 0) (pur (RI 2)) eqM) asB) (retF (ifE (bnd (bnd (consA (getV 3) (pur [])) (callM 1 R_law_is_half [])) truthM) (pur (RS ("let" : Str))) (pur (RS ("half" : Str))))) (pur .nx))
    (seqF (ifF (bnd (m2 (getV 0) (pur (RI 4)) eqM) asB) (retF (ifE (andT (bnd (bnd (consA (getV 3) (pur [])) (callM 1 R_law_is_half [])) truthM) (bnd (bnd (consA (getV 1) (pur [])) (callM 1 R_law_is_half [])) truthM)) (pur (RS ("let" : Str))) (pur (RS ("half" : Str))))) (pur .nx))
    (seqF (ifF (bnd (m2 (getV 0) (pur (RI 7)) eqM) asB) (retF (ifE (bnd (getV 5) truthM) (pur (RS ("let" : Str))) (pur (RS ("quarters" : Str))))) (pur .nx))
    (seqF (ifF (notT (bnd (bnd (consA (getV 1) (pur [])) (callM 1 R_law_is_direction [])) truthM)) (retF (pur (RS ("direction" : Str)))) (pur .nx))
    (seqF (ifF (bnd (m2 (getV 0) (pur (RI 5)) eqM) asB) (retF (ifE (bnd (bnd (consA (getV 3) (pur [])) (callM 1 R_law_is_half [])) truthM) (pur (RS ("let" : Str))) (pur (RS ("half" : Str))))) (pur .nx))
    (seqF (ifF (bnd (m2 (getV 0) (pur (RI 6)) eqM) asB) (retF (ifE (bnd (getV 5) truthM) (pur (RS ("let" : Str))) (pur (RS ("quarters" : Str))))) (pur .nx))
    (seqF (ifF (andT (bnd (m2 (getV 0) (pur (RI 9)) gtM) asB) (notT (bnd (bnd (consA (getV 2) (pur [])) (callM 1 R_law_is_direction [])) truthM))) (retF (pur (RS ("direction" : Str)))) (pur .nx))
    (retF (pur (RS ("let" : Str)))))))))))))
noncomputable def R_law_due : List D → Res := runP 6 m_law_due
theorem ok_law_due (T : Txt P w K mg base ct) : OkP P w K mg base ct "_law_due" 5 6 R_law_due [] :=
  okP T.f_law_due sc_law_due (fun _ _ _ _ _ _ us hl => match us, hl with | [_, _, _, _, _], _ => rfl) fun f cdv A outer s H E hr =>
    (sds_cons (sd_asg (ed_and (ed_isi .int (by decide) (by rfl) T.isinstance (nv 4) (pe_bltn (by rfl) T.int PyProof.Rows.boot_int rfl)) (ed_one (ed_not (ed_isi .bool (by decide) (by rfl) T.isinstance (nv 4) (pe_bltn (by rfl) T.bool PyProof.Rows.boot_bool rfl))))) (gn 5 sc_law_due.nd))
    (sds_cons (sd_if (td_eq (hu64 hr) (nv 0) ed_int) (sds_one (sd_ret (ed_if (td_truth (ed_callP (ok_law_is_spot T) (hr.mono (by decide)) (takes_of rfl rfl rfl rfl) (ad_cons (nv 1) ad_nil))) ed_str ed_str))) sds_nil)
    (sds_cons (sd_if (td_eq (hu64 hr) (nv 0) ed_int) (sds_one (sd_ret (ed_if (td_truth (ed_callP (ok_law_is_half T) (hr.mono (by decide)) (takes_of rfl rfl rfl rfl) (ad_cons (nv 3) ad_nil))) ed_str ed_str))) sds_nil)
    (sds_cons (sd_if (td_eq (hu64 hr) (nv 0) ed_int) (sds_one (sd_ret (ed_if (WD.td (wd_and (td_truth (ed_callP (ok_law_is_half T) (hr.mono (by decide)) (takes_of rfl rfl rfl rfl) (ad_cons (nv 3) ad_nil))) (wd_and1 (td_truth (ed_callP (ok_law_is_half T) (hr.mono (by decide)) (takes_of rfl rfl rfl rfl) (ad_cons (nv 1) ad_nil)))))) ed_str ed_str))) sds_nil)
    (sds_cons (sd_if (td_eq (hu64 hr) (nv 0) ed_int) (sds_one (sd_ret (ed_if (td_truth (nv 5)) ed_str ed_str))) sds_nil)
    (sds_cons (sd_if (td_not (td_truth (ed_callP (ok_law_is_direction T) (hr.mono (by decide)) (takes_of rfl rfl rfl rfl) (ad_cons (nv 1) ad_nil)))) (sds_one (sd_ret ed_str)) sds_nil)
    (sds_cons (sd_if (td_eq (hu64 hr) (nv 0) ed_int) (sds_one (sd_ret (ed_if (td_truth (ed_callP (ok_law_is_half T) (hr.mono (by decide)) (takes_of rfl rfl rfl rfl) (ad_cons (nv 3) ad_nil))) ed_str ed_str))) sds_nil)
    (sds_cons (sd_if (td_eq (hu64 hr) (nv 0) ed_int) (sds_one (sd_ret (ed_if (td_truth (nv 5)) ed_str ed_str))) sds_nil)
    (sds_cons (sd_if (WD.td (wd_and (td_gt (nv 0) ed_int) (wd_and1 (td_not (td_truth (ed_callP (ok_law_is_direction T) (hr.mono (by decide)) (takes_of rfl rfl rfl rfl) (ad_cons (nv 2) ad_nil))))))) (sds_one (sd_ret ed_str)) sds_nil)
    (sds_one (sd_ret ed_str)))))))))))
abbrev N_law_quarters : List Str := ["_law_hand_here", "_law_way"]
theorem sc_law_quarters : FnScope N_law_quarters ["_law_hand_here"] (defScope s_law_quarters) := ⟨rfl, rfl, rfl, by decide +kernel, rfl, by decide +kernel, by decide +kernel⟩
noncomputable def m_law_quarters : M Fl := (seqF (asgF (bnd (consA (getV 0) (consA (pur (RI 6)) (pur []))) (callH 2 R_law_take [])) (setV 1))
    (seqF (ifF (bnd (m2 (getV 1) (pur (RI 0)) eqM) asB) (retF (m2 (bnd (consA (pur (RB true)) (consA (pur RN) (consA (bnd (consA (pur (RI 1)) (consA (pur (RI 1)) (pur []))) tupM) (consA (pur (RS ("1" : Str))) (consA (pur (RB false)) (consA (bnd (bnd (consA (pur (RI 1)) (pur [])) lstM) frz) (pur []))))))) lstM) (bnd (consA (getV 0) (consA (pur (RI 6)) (pur []))) (callH 2 R_law_take [])) ixM)) (pur .nx))
    (seqF (ifF (bnd (m2 (getV 1) (pur (RI 1)) eqM) asB) (retF (m2 (bnd (consA (getV 0) (consA (m2 (pur (RI 10)) (pur (RI 30)) powM) (pur []))) (callH 2 R_law_take [])) (m2 (pur (RI 5)) (m2 (pur (RI 10)) (pur (RI 29)) powM) mulI) subM)) (pur .nx))
    (retF (m2 (bnd (consA (getV 0) (consA (pur (RI 11)) (pur []))) (callH 2 R_law_take [])) (pur (RI 5)) subM)))))
noncomputable def R_law_quarters : List SV → Hand → Res × Hand := runH 2 m_law_quarters
theorem ok_law_quarters (T : Txt P w K mg base ct) : OkH P w K mg base ct "_law_quarters" 1 2 R_law_quarters :=
  okH T.f_law_quarters sc_law_quarters (fun _ _ _ _ _ _ us hl => match us, hl with | [_], _ => rfl) fun f cdv A outer s H E hr =>
    (sds_cons (sd_asg (ed_callHP (ok_law_take T) (hr.mono (by decide)) (takes_of rfl rfl rfl rfl) (ad_cons (nv 0) (ad_cons ed_int ad_nil))) (gn 1 sc_law_quarters.nd))
    (sds_cons (sd_if (td_eq (hu64 hr) (nv 1) ed_int) (sds_one (sd_ret (ed_sub1 (ed_lst (ad_cons ed_bl (ad_cons ed_non (ad_cons (ed_tup (ad_cons ed_int (ad_cons ed_int ad_nil))) (ad_cons ed_str (ad_cons ed_bl (ad_cons (ed_frz (ed_lst (ad_cons ed_int ad_nil))) ad_nil))))))) (ed_callHP (ok_law_take T) (hr.mono (by decide)) (takes_of rfl rfl rfl rfl) (ad_cons (nv 0) (ad_cons ed_int ad_nil)))))) sds_nil)
    (sds_cons (sd_if (td_eq (hu64 hr) (nv 1) ed_int) (sds_one (sd_ret (ed_sub (ed_callHP (ok_law_take T) (hr.mono (by decide)) (takes_of rfl rfl rfl rfl) (ad_cons (nv 0) (ad_cons (ed_pow ed_int ed_int) ad_nil))) (ed_mulI ed_int (ed_pow ed_int ed_int))))) sds_nil)
    (sds_one (sd_ret (ed_sub (ed_callHP (ok_law_take T) (hr.mono (by decide)) (takes_of rfl rfl rfl rfl) (ad_cons (nv 0) (ad_cons ed_int ad_nil))) ed_int))))))
abbrev N_law : List Str := ["_law_script", "_law_hand_here", "_law_turn", "_law_one", "_law_other", "_law_half_here", "_law_quarters_here", "_law_kept", "_law_act", "_law_thing"]
theorem sc_law : FnScope N_law ["_law_script"] (defScope s_law) := ⟨rfl, rfl, rfl, by decide +kernel, rfl, by decide +kernel, by decide +kernel⟩
noncomputable def m_law : M Fl := (seqF (forF (bnd (consB (pur (RI 8)) (pur [])) rng1) (setV 2) (seqF (asgF (bnd (bnd (consA (getV 1) (pur [])) (callH 1 R_law_spoilt_direction [])) frz) (setV 3))
    (seqF (asgF (bnd (bnd (consA (getV 1) (pur [])) (callH 1 R_law_spoilt_direction [])) frz) (setV 4))
    (seqF (asgF (bnd (bnd (consA (getV 1) (pur [])) (callH 1 R_law_spoilt_half [])) frz) (setV 5))
    (seqF (asgF (bnd (bnd (consA (getV 1) (pur [])) (callH 1 R_law_quarters [])) frz) (setV 6))
    (seqF (asgF (bnd (bnd (bnd (consA (getV 3) (consA (getV 4) (consA (getV 5) (consA (getV 6) (pur []))))) lstM) reprM) frz) (setV 7))
    (seqF (ifF (orT (notT (bnd (bnd (consA (bnd (consA (getV 3) (pur [])) (callM 1 R_is_spot [])) (consA (bnd (consA (getV 3) (pur [])) (callM 1 R_law_is_spot [])) (pur []))) (callM 2 R_law_truth [])) truthM)) (notT (bnd (bnd (consA (bnd (consA (getV 3) (pur [])) (callM 1 R_is_direction [])) (consA (bnd (consA (getV 3) (pur [])) (callM 1 R_law_is_direction [])) (pur []))) (callM 2 R_law_truth [])) truthM))) (retF (pur (RB false))) (pur .nx))
    (seqF (forF (bnd (consB (pur (RI 12)) (pur [])) rng1) (setV 8) (seqF (asgF (ifE (andT (bnd (m2 (getV 8) (pur (RI 4)) eqM) asB) (bnd (m2 (m2 (getV 2) (pur (RI 2)) modM) (pur (RI 0)) eqM) asB)) (getV 5) (getV 3)) (setV 9))
    (ifF (bnd (m2 (bnd (consA (getV 8) (consA (getV 9) (consA (getV 4) (consA (getV 5) (consA (getV 6) (pur [])))))) (callM 5 R_law_told [])) (bnd (consA (getV 8) (consA (getV 9) (consA (getV 4) (consA (getV 5) (consA (getV 6) (pur [])))))) (callM 5 R_law_due [])) neM) asB) (retF (pur (RB false))) (pur .nx))))
    (seqF (ifF (andT (bnd (bnd (consA (getV 3) (pur [])) (callM 1 R_law_is_spot [])) truthM) (notT (bnd (bnd (consA (bnd (consA (getV 3) (pur [])) (callM 1 R_check_spot [])) (consA (bnd (consB (getV 3) (pur [])) tupleM) (pur []))) (callM 2 R_law_same_row [])) truthM))) (retF (pur (RB false))) (pur .nx))
    (seqF (ifF (andT (bnd (bnd (consA (getV 3) (pur [])) (callM 1 R_law_is_direction [])) truthM) (notT (bnd (bnd (consA (bnd (consA (getV 3) (pur [])) (callM 1 R_check_direction [])) (consA (bnd (consB (getV 3) (pur [])) tupleM) (pur []))) (callM 2 R_law_same_row [])) truthM))) (retF (pur (RB false))) (pur .nx))
    (ifF (bnd (m2 (bnd (bnd (consA (getV 3) (consA (getV 4) (consA (getV 5) (consA (getV 6) (pur []))))) lstM) reprM) (getV 7) neM) asB) (retF (pur (RB false))) (pur .nx))))))))))))
    (retF (pur (RB true))))
theorem ok_law (T : Txt P w K mg base ct) {f : Addr} {fd : FuncData} (F : FunD K "law" "law" (defArgs s_law) (defBody s_law) (defScope s_law) [] [] f fd) (hm : ∀ h, ∃ s', m_law (startL 10 h) = .ok (.rt (RB true)) s') : FnG P w K mg base (L2.CX P w) 9 f fd ["_law_script"] (spLaw K) :=
  okLG F sc_law (by decide) rfl hm fun cdv A outer s H E hgu hr => ⟨hand_st (ok_law_hand T) (hr.mono (by decide)) (pv 0) (pg_name sc_law.nd rfl (by first | exact .inl rfl | exact .inr rfl)),
    (sds_cons (sd_for (passes_of rfl) rfl (id_range1 (by rfl) T.range (bd_cons ed_int bd_nil)) (gn 2 sc_law.nd) (sds_cons (sd_asg (ed_frz (ed_callHP (ok_law_spoilt_direction T) (hr.mono (by decide)) (takes_of rfl rfl rfl rfl) (ad_cons (nv 1) ad_nil))) (gn 3 sc_law.nd))
    (sds_cons (sd_asg (ed_frz (ed_callHP (ok_law_spoilt_direction T) (hr.mono (by decide)) (takes_of rfl rfl rfl rfl) (ad_cons (nv 1) ad_nil))) (gn 4 sc_law.nd))
    (sds_cons (sd_asg (ed_frz (ed_callHP (ok_law_spoilt_half T) (hr.mono (by decide)) (takes_of rfl rfl rfl rfl) (ad_cons (nv 1) ad_nil))) (gn 5 sc_law.nd))
    (sds_cons (sd_asg (ed_frz (ed_callHP (ok_law_quarters T) (hr.mono (by decide)) (takes_of rfl rfl rfl rfl) (ad_cons (nv 1) ad_nil))) (gn 6 sc_law.nd))
    (sds_cons (sd_asg (ed_frz (ed_repr hgu hr (ed_lst (ad_cons (nv 3) (ad_cons (nv 4) (ad_cons (nv 5) (ad_cons (nv 6) ad_nil))))) T.repr)) (gn 7 sc_law.nd))
    (sds_cons (sd_if (WD.td (wd_or (td_not (td_truth (ed_callP (ok_law_truth T) (hr.mono (by decide)) (takes_of rfl rfl rfl rfl) (ad_cons (ed_callP (ok_is_spot T) (hr.mono (by decide)) (takes_of rfl rfl rfl rfl) (ad_cons (nv 3) ad_nil)) (ad_cons (ed_callP (ok_law_is_spot T) (hr.mono (by decide)) (takes_of rfl rfl rfl rfl) (ad_cons (nv 3) ad_nil)) ad_nil))))) (wd_or1 (td_not (td_truth (ed_callP (ok_law_truth T) (hr.mono (by decide)) (takes_of rfl rfl rfl rfl) (ad_cons (ed_callP (ok_is_direction T) (hr.mono (by decide)) (takes_of rfl rfl rfl rfl) (ad_cons (nv 3) ad_nil)) (ad_cons (ed_callP (ok_law_is_direction T) (hr.mono (by decide)) (takes_of rfl rfl rfl rfl) (ad_cons (nv 3) ad_nil)) ad_nil)))))))) (sds_one (sd_ret ed_bl)) sds_nil)
    (sds_cons (sd_for (passes_of rfl) rfl (id_range1 (by rfl) T.range (bd_cons ed_int bd_nil)) (gn 8 sc_law.nd) (sds_cons (sd_asg (ed_if (WD.td (wd_and (td_eq (hu64 hr) (nv 8) ed_int) (wd_and1 (td_eq (hu64 hr) (ed_mod (nv 2) ed_int) ed_int)))) (nv 5) (nv 3)) (gn 9 sc_law.nd))
    (sds_one (sd_if (td_ne (hu64 hr) (ed_callP (ok_law_told T) (hr.mono (by decide)) (takes_of rfl rfl rfl rfl) (ad_cons (nv 8) (ad_cons (nv 9) (ad_cons (nv 4) (ad_cons (nv 5) (ad_cons (nv 6) ad_nil)))))) (ed_callP (ok_law_due T) (hr.mono (by decide)) (takes_of rfl rfl rfl rfl) (ad_cons (nv 8) (ad_cons (nv 9) (ad_cons (nv 4) (ad_cons (nv 5) (ad_cons (nv 6) ad_nil))))))) (sds_one (sd_ret ed_bl)) sds_nil))))
    (sds_cons (sd_if (WD.td (wd_and (td_truth (ed_callP (ok_law_is_spot T) (hr.mono (by decide)) (takes_of rfl rfl rfl rfl) (ad_cons (nv 3) ad_nil))) (wd_and1 (td_not (td_truth (ed_callP (ok_law_same_row T) (hr.mono (by decide)) (takes_of rfl rfl rfl rfl) (ad_cons (ed_callP (ok_check_spot T) (hr.mono (by decide)) (takes_of rfl rfl rfl rfl) (ad_cons (nv 3) ad_nil)) (ad_cons (ed_blt (fun _ h => pe_callTy call_tuple_of (by rfl) T.tuple PyProof.Rows.boot_tuple h) tupleM_ok (bd_cons (nv 3) bd_nil)) ad_nil)))))))) (sds_one (sd_ret ed_bl)) sds_nil)
    (sds_cons (sd_if (WD.td (wd_and (td_truth (ed_callP (ok_law_is_direction T) (hr.mono (by decide)) (takes_of rfl rfl rfl rfl) (ad_cons (nv 3) ad_nil))) (wd_and1 (td_not (td_truth (ed_callP (ok_law_same_row T) (hr.mono (by decide)) (takes_of rfl rfl rfl rfl) (ad_cons (ed_callP (ok_check_direction T) (hr.mono (by decide)) (takes_of rfl rfl rfl rfl) (ad_cons (nv 3) ad_nil)) (ad_cons (ed_blt (fun _ h => pe_callTy call_tuple_of (by rfl) T.tuple PyProof.Rows.boot_tuple h) tupleM_ok (bd_cons (nv 3) bd_nil)) ad_nil)))))))) (sds_one (sd_ret ed_bl)) sds_nil)
    (sds_one (sd_if (td_ne (hu64 hr) (ed_repr hgu hr (ed_lst (ad_cons (nv 3) (ad_cons (nv 4) (ad_cons (nv 5) (ad_cons (nv 6) ad_nil))))) T.repr) (nv 7)) (sds_one (sd_ret ed_bl)) sds_nil))))))))))))
    (sds_one (sd_ret ed_bl)))⟩

end
end Law
set_option Elab.async false
set_option linter.all false
set_option maxRecDepth 100000
set_option maxHeartbeats 8000000
namespace Law
open PySem PySem.Spec PyProof.Rows L2 Fd
/-! ## comprehensions whose parts are plain -/
theorem at2 {α : Type} (x y : α) : atI [x, y] 0 = some x ∧ atI [x, y] 1 = some y := by unfold atI ixN; simp
theorem at20 {α : Type} (x y : α) : atI [x, y] 0 = some x := (at2 x y).1
theorem at21 {α : Type} (x y : α) : atI [x, y] 1 = some y := (at2 x y).2
abbrev QD (a b : Int) : D := .tup [.int a, .int b]
theorem absI (a : Int) : (if a < 0 then -a else a) = (a.natAbs : Int) := by split <;> omega
@[simp] theorem w_int (x : Int) : R_is_whole [.int x, .non, .non] = .ret (.dat (.bl true)) := by
  simp [R_is_whole, m_is_whole, subTy]
@[simp] theorem w_low (x l : Int) : R_is_whole [.int x, .int l, .non] = .ret (.dat (.bl (decide (l ≤ x)))) := by
  by_cases h : x < l
  · have : ¬ l ≤ x := by omega
    simp [R_is_whole, m_is_whole, subTy, h, this]
  · have : l ≤ x := by omega
    simp [R_is_whole, m_is_whole, subTy, h, this]
@[simp] theorem w_bl (b : Bool) (x y : D) : R_is_whole [.bl b, x, y] = .ret (.dat (.bl false)) := by simp [R_is_whole, m_is_whole, subTy]
@[simp] theorem w_str (b : Str) (x y : D) : R_is_whole [.str b, x, y] = .ret (.dat (.bl false)) := by simp [R_is_whole, m_is_whole, subTy]
@[simp] theorem w_tup (b : List D) (x y : D) : R_is_whole [.tup b, x, y] = .ret (.dat (.bl false)) := by simp [R_is_whole, m_is_whole, subTy]
@[simp] theorem w_lst (b : List D) (x y : D) : R_is_whole [.lst b, x, y] = .ret (.dat (.bl false)) := by simp [R_is_whole, m_is_whole, subTy]
@[simp] theorem w_non (x y : D) : R_is_whole [.non, x, y] = .ret (.dat (.bl false)) := by simp [R_is_whole, m_is_whole, subTy]
theorem r_pair (a b : Int) : R_is_ratio [QD a b] = .ret (.dat (.bl (decide (1 ≤ b ∧ gI a b = 1)))) := by
  unfold gI
  by_cases h : 1 ≤ b
  · simp [R_is_ratio, m_is_ratio, subTy, h]
  · simp [R_is_ratio, m_is_ratio, subTy, h]
@[simp] theorem r_lst (x : List D) : R_is_ratio [.lst x] = .ret (.dat (.bl false)) := by simp [R_is_ratio, m_is_ratio, subTy]
@[simp] theorem r_int (x : Int) : R_is_ratio [.int x] = .ret (.dat (.bl false)) := by simp [R_is_ratio, m_is_ratio, subTy]
@[simp] theorem r_str (x : Str) : R_is_ratio [.str x] = .ret (.dat (.bl false)) := by simp [R_is_ratio, m_is_ratio, subTy]
@[simp] theorem r_non : R_is_ratio [.non] = .ret (.dat (.bl false)) := by simp [R_is_ratio, m_is_ratio, subTy]
theorem at3 {α : Type} (x y z : α) : atI [x, y, z] 0 = some x ∧ atI [x, y, z] 1 = some y ∧ atI [x, y, z] 2 = some z := by unfold atI ixN; simp
theorem at30 {α : Type} (x y z : α) : atI [x, y, z] 0 = some x := (at3 x y z).1
theorem at31 {α : Type} (x y z : α) : atI [x, y, z] 1 = some y := (at3 x y z).2.1
theorem at32 {α : Type} (x y z : α) : atI [x, y, z] 2 = some z := (at3 x y z).2.2
@[simp] theorem w_dct (b) (x y : D) : R_is_whole [.dct b, x, y] = .ret (.dat (.bl false)) := by simp [R_is_whole, m_is_whole, subTy]
@[simp] theorem w_both (x l h : Int) : R_is_whole [.int x, .int l, .int h] = .ret (.dat (.bl (decide (l ≤ x ∧ x ≤ h)))) := by
  by_cases c : x < l
  · have : ¬ l ≤ x := by omega
    simp [R_is_whole, m_is_whole, subTy, c, this]
  · have c' : l ≤ x := by omega
    by_cases e : h < x
    · have : ¬ x ≤ h := by omega
      simp [R_is_whole, m_is_whole, subTy, c, c', e, this]
    · have : x ≤ h := by omega
      simp [R_is_whole, m_is_whole, subTy, c, c', e, this]
theorem r_qr (r : Rat) : R_is_ratio [qr r] = .ret (.dat (.bl true)) := by
  have := r_pair r.num r.den
  rw [decide_eq_true ⟨by have := den_pos r; omega, qr_gcd r⟩] at this
  exact this
/-- things that are no ratios -/
theorem r_len {xs : List D} (h : xs.length ≠ 2) : R_is_ratio [.tup xs] = .ret (.dat (.bl false)) := by
  have : ¬ (xs.length : Int) = 2 := by omega
  simp [R_is_ratio, m_is_ratio, subTy, this]
theorem r_tb (a : Int) (b : Bool) : R_is_ratio [.tup [.int a, .bl b]] = .ret (.dat (.bl false)) := by simp [R_is_ratio, m_is_ratio, subTy]
theorem r_bt (a : Int) (b : Bool) : R_is_ratio [.tup [.bl b, .int a]] = .ret (.dat (.bl false)) := by simp [R_is_ratio, m_is_ratio, subTy]
/-! ## rows -/
def seqD : D → Option (List D)
  | .tup xs => some xs
  | .lst xs => some xs
  | _ => none
theorem seq_cases {d : D} {xs : List D} (e : seqD d = some xs) : d = .tup xs ∨ d = .lst xs := by
  cases d <;> first | (cases e; done) | (cases e; simp)
end Law
set_option Elab.async false
set_option linter.all false
set_option maxRecDepth 100000
set_option maxHeartbeats 8000000
set_option exponentiation.threshold 2000
namespace Law
open PySem PySem.Spec PyProof.Rows L2 Fd
theorem v_law_gcd (a b : Int) {n : Nat} (h : Bd n b) (hn : n < 40000) : R_law_gcd [.int a, .int b] = .ret (.dat (.int (gI a b))) := by
  have w := whileL_gcd (tc := bnd (getV 1) truthM) (b := parF 0 1 (consA (getV 1) (consA (m2 (bnd (consB (getV 0) (pur [])) intM) (getV 1) modM) (pur [])))) (fun x y => ⟨[some (.dat (.int x)), some (.dat (.int y))], [], none⟩)
    (fun x y => by simp) (fun x y hy => by simp [modC_of hy]) n a.natAbs b.natAbs 100000 h (by omega)
  simp [R_law_gcd, m_law_gcd, absI, w, gI]
theorem v_law_ratio {a b : Int} (hb : b ≠ 0) {n : Nat} (h : Bd n b) (hn : n < 9000) : R_law_ratio [.int a, .int b] = .ret (.dat (QD (nT a b) (nB a b))) := by
  have hp := gI_pos (a := a) hb
  have h1 : ∀ x : Int, divC x (gI a b) = true := fun x => Bd.divC (n := n) (bd_le h (gI_le hb)) (by omega)
  have h1' : ∀ x : Int, divC x (-gI a b) = true := fun x => Bd.divC (n := n) (bd_le h (by have := gI_le (a := a) hb; rwa [Int.natAbs_neg])) (by omega)
  have h2 := law_T a b
  have h3 := law_B a b
  by_cases c : b < 0
  · simp [c] at h2 h3
    simp [R_law_ratio, m_law_ratio, c, v_law_gcd a b h (by omega), h1', h2, h3]
  · simp [c] at h2 h3
    simp [R_law_ratio, m_law_ratio, c, v_law_gcd a b h (by omega), h1, h2, h3]
theorem q_law_ratio {a b : Int} (hb : b ≠ 0) {n : Nat} (h : Bd n b) (hn : n < 9000 := by omega) : R_law_ratio [.int a, .int b] = .ret (.dat (qr ((a : Rat) / (b : Rat)))) := (v_law_ratio hb h hn).trans (by rw [← qr_of hb])
theorem r_law_plus {r s : Rat} {n m : Nat} (h : Rb n r) (k : Rb m s) (l : n + m < 9000 := by omega) : R_law_plus [qr r, qr s] = .ret (.dat (qr (r + s))) := by
  have e := q_law_ratio (a := r.num * s.den + s.num * r.den) (Int.mul_ne_zero (den_nz r) (den_nz s)) (h.den.mul k.den) l
  rw [q_add] at e
  simp [R_law_plus, m_law_plus, qr, at20, at21, h.num.mulC k.den (by omega), k.num.mulC h.den (by omega), h.den.mulC k.den (by omega)]
  simp [qr] at e
  simp [e, qr]
theorem v_lowest {a b : Int} (hb : b ≠ 0) {n : Nat} (h : Bd n b) (hn : n < 9000) : R_lowest_terms [.int a, .int b] = .ret (.dat (QD (nT a b) (nB a b))) := by
  have h1 : ∀ x : Int, divC x (gI a b) = true := fun x => Bd.divC (n := n) (bd_le h (gI_le hb)) (by have := gI_pos (a := a) hb; omega)
  have h2 := low_T a b
  have h3 := low_B a b
  unfold gI at h1 h2 h3
  by_cases c : b < 0
  · simp [c] at h2 h3
    simp [R_lowest_terms, m_lowest_terms, c, h1, h2, h3]
  · simp [c] at h2 h3
    simp [R_lowest_terms, m_lowest_terms, c, h1, h2, h3]
theorem q_lowest_terms {a b : Int} (hb : b ≠ 0) {n : Nat} (h : Bd n b) (hn : n < 9000 := by omega) : R_lowest_terms [.int a, .int b] = .ret (.dat (qr ((a : Rat) / (b : Rat)))) := (v_lowest hb h hn).trans (by rw [← qr_of hb])
theorem r_plus {r s : Rat} {n m : Nat} (h : Rb n r) (k : Rb m s) (l : n + m < 9000 := by omega) : R_plus [qr r, qr s] = .ret (.dat (qr (r + s))) := by
  have e := q_lowest_terms (a := r.num * s.den + s.num * r.den) (Int.mul_ne_zero (den_nz r) (den_nz s)) (h.den.mul k.den) l
  rw [q_add] at e
  simp [R_plus, m_plus, qr, at20, at21, h.num.mulC k.den (by omega), k.num.mulC h.den (by omega), h.den.mulC k.den (by omega)]
  simp [qr] at e
  simp [e, qr]
theorem r_times {r s : Rat} {n m : Nat} (h : Rb n r) (k : Rb m s) (l : n + m < 9000 := by omega) : R_times [qr r, qr s] = .ret (.dat (qr (r * s))) := by
  have e := q_lowest_terms (a := r.num * s.num) (Int.mul_ne_zero (den_nz r) (den_nz s)) (h.den.mul k.den) l
  rw [q_mul] at e
  simp [R_times, m_times, qr, at20, at21, h.num.mulC k.num (by omega), h.den.mulC k.den (by omega)]
  simp [qr] at e
  simp [e, qr]
theorem r_law_times {r s : Rat} {n m : Nat} (h : Rb n r) (k : Rb m s) (l : n + m < 9000 := by omega) : R_law_times [qr r, qr s] = .ret (.dat (qr (r * s))) := by
  have e := q_law_ratio (a := r.num * s.num) (Int.mul_ne_zero (den_nz r) (den_nz s)) (h.den.mul k.den) l
  rw [q_mul] at e
  simp [R_law_times, m_law_times, qr, at20, at21, h.num.mulC k.num (by omega), h.den.mulC k.den (by omega)]
  simp [qr] at e
  simp [e, qr]
theorem r_law_over {r s : Rat} {n m : Nat} (z : s ≠ 0) (h : Rb n r) (k : Rb m s) (l : n + m < 9000 := by omega) : R_law_over [qr r, qr s] = .ret (.dat (qr (r / s))) := by
  have z' : s.num ≠ 0 := fun y => z (Rat.num_eq_zero.mp y)
  have e := q_law_ratio (a := r.num * s.den) (b := r.den * s.num) (Int.mul_ne_zero (den_nz r) z') (h.den.mul k.num) l
  rw [q_div r s z] at e
  simp [R_law_over, m_law_over, qr, at20, at21, h.num.mulC k.den (by omega), h.den.mulC k.num (by omega)]
  simp [qr] at e
  simp [e, qr]
theorem r_minus {r s : Rat} {n m : Nat} (h : Rb n r) (k : Rb m s) (l : n + m < 9000 := by omega) : R_minus [qr r, qr s] = .ret (.dat (qr (r - s))) := by
  have e := q_lowest_terms (a := r.num * s.den - s.num * r.den) (Int.mul_ne_zero (den_nz r) (den_nz s)) (h.den.mul k.den) l
  rw [q_sub] at e
  simp [R_minus, m_minus, qr, at20, at21, h.num.mulC k.den (by omega), k.num.mulC h.den (by omega), h.den.mulC k.den (by omega)]
  simp [qr] at e
  simp [e, qr]
theorem r_law_less {r s : Rat} {n m : Nat} (h : Rb n r) (k : Rb m s) (l : n + m < 9000 := by omega) : R_law_less [qr r, qr s] = .ret (.dat (qr (r - s))) := by
  have e := q_law_ratio (a := r.num * s.den - s.num * r.den) (Int.mul_ne_zero (den_nz r) (den_nz s)) (h.den.mul k.den) l
  rw [q_sub] at e
  simp [R_law_less, m_law_less, qr, at20, at21, h.num.mulC k.den (by omega), k.num.mulC h.den (by omega), h.den.mulC k.den (by omega)]
  simp [qr] at e
  simp [e, qr]
theorem r_over {r s : Rat} {n m : Nat} (h : Rb n r) (k : Rb m s) (z : s ≠ 0) (l : n + m < 9000 := by omega) : R_over [qr r, qr s] = .ret (.dat (qr (r / s))) := by
  have e := q_lowest_terms (a := r.num * s.den) (Int.mul_ne_zero (den_nz r) (num_nz z)) (h.den.mul k.num) l
  rw [q_div r s z] at e
  have zn := num_nz z
  simp [R_over, m_over, qr, at20, at21, zn, z, h.num.mulC k.den (by omega), h.den.mulC k.num (by omega)]
  simp [qr] at e
  simp [e, qr]
theorem r_negative (r : Rat) : R_negative [qr r] = .ret (.dat (qr (-r))) := by
  rw [← neg_qr]
  simp [R_negative, m_negative, qr, at20, at21]
end Law
set_option Elab.async false
set_option linter.all false
set_option maxRecDepth 100000
set_option maxHeartbeats 8000000
namespace Law
open PySem PySem.Spec PyProof.Rows L2 Fd
def hd : Option Rat → D
  | none => .non
  | some r => qr r
def dX : Option Rat → Rat
  | none => 0
  | some t => -2 * t / (1 + t * t)
def dY : Option Rat → Rat
  | none => -1
  | some t => (1 - t * t) / (1 + t * t)
theorem d_unit (o : Option Rat) : dX o * dX o + dY o * dY o = 1 := by
  cases o with
  | none => unfold dX dY; dsimp only; grind
  | some t => 
    have := one_sq t
    unfold dX dY; dsimp only; grind
theorem sz_d {o : Option Rat} (h : ∀ t, o = some t → Rb 20 t) : Rb 80 (dX o) ∧ Rb 90 (dY o) := by
  cases o with
  | none => exact ⟨rb0.mono (by decide), rbm1.mono (by decide)⟩
  | some t =>
    have b := h t rfl
    exact ⟨((rbm2.mul b).div (rb1.add (b.mul b)) (one_sq t)).mono (by decide), ((rb1.sub (b.mul b)).div (rb1.add (b.mul b)) (one_sq t)).mono (by decide)⟩
theorem v_law_direction {o : Option Rat} (h : ∀ t, o = some t → Rb 20 t) : R_law_direction [hd o] = .ret (.dat (.tup [qr (dX o), qr (dY o)])) := by
  cases o with
  | none => simp [R_law_direction, m_law_direction, hd, dX, dY, qr_0, qr_m1]
  | some t =>
    have b := h t rfl
    have z := one_sq t
    have e1 := r_law_times b b
    have e2 := r_law_plus rb1 (b.mul b)
    have e3 := r_law_times rbm2 b
    have e4 := r_law_less rb1 (b.mul b)
    have e5 := r_law_over z (rbm2.mul b) (rb1.add (b.mul b))
    have e6 := r_law_over z (rb1.sub (b.mul b)) (rb1.add (b.mul b))
    rw [qr_1] at e2 e4
    rw [qr_m2] at e3
    simp [R_law_direction, m_law_direction, hd, dX, dY, e1, e2, e3, e4, e5, e6]
theorem v_same (r : Rat) : R_law_same [qr r, qr r] = .ret (.dat (.bl true)) := by
  simp [R_law_same, m_law_same, qr, subTy, at20, at21]
theorem lc_same {l : List SV} {f : SV → M Unit} {tt : M Bool} {me : M RV} {vs : List Nat} {st : S} (xs : List SV) (h : ∀ x ∈ xs, ∃ s1 s2, f x st = .ok () s1 ∧ tt s1 = .ok false s2 ∧ wipeS vs s2 = st) : lcL (Src.mk l none).Ok vs f tt me xs [] st = .ok (.new []) st := lcL_none xs [] h
theorem frac_ex {a b : Int} (hb : b ≠ 0) {n : Nat} (h1 : Bd n a) (h2 : Bd n b) (hn : n < 9000 := by omega) : ∃ r : Rat, R_law_ratio [.int a, .int b] = .ret (.dat (qr r)) ∧ Rb n r := ⟨_, q_law_ratio hb h2 hn, rb_frac hb h1 h2⟩
theorem hd_some (r : Rat) : hd (some r) = qr r := rfl
theorem p3 : (10 : Int) ^ (3 : Int).toNat = 1000 := by decide
theorem p6 : (10 : Int) ^ (6 : Int).toNat = 1000000 := by decide
/-! ## ratios over one bottom -/
def DL : Int := 27720000000000
structure Lat (n : Nat) (r : Rat) : Prop where
  ex : ∃ z : Int, z.natAbs < 2 ^ n ∧ r = (z : Rat) / (DL : Rat)
theorem dl_nz : (DL : Rat) ≠ 0 := fun z => absurd (Rat.intCast_eq_zero_iff.mp z) (by decide)
theorem Lat.mono {n m : Nat} {r : Rat} (h : Lat n r) (l : n ≤ m) : Lat m r := by
  obtain ⟨z, a, e⟩ := h.ex
  exact ⟨z, Nat.lt_of_lt_of_le a (Nat.pow_le_pow_right (by decide) l), e⟩
theorem lat0 {n : Nat} : Lat n 0 := ⟨0, Nat.pow_pos (by decide), by
  have := dl_nz
  rw [show ((0 : Int) : Rat) = 0 from rfl]
  grind⟩
theorem Lat.add {n m : Nat} {r s : Rat} (h : Lat n r) (k : Lat n s) (l : n + 1 ≤ m := by omega) : Lat m (r + s) := by
  obtain ⟨z, a, e⟩ := h.ex
  obtain ⟨y, b, f⟩ := k.ex
  have p : 2 ^ (n + 1) = 2 ^ n + 2 ^ n := by rw [Nat.pow_succ]; omega
  refine Lat.mono (n := n + 1) ⟨z + y, by rw [p]; omega, ?_⟩ l
  rw [e, f, Rat.intCast_add]
  grind
theorem Lat.neg {n : Nat} {r : Rat} (h : Lat n r) : Lat n (-r) := by
  obtain ⟨z, a, e⟩ := h.ex
  refine ⟨-z, by omega, ?_⟩
  rw [e, Rat.intCast_neg]
  grind
theorem Lat.sub {n m : Nat} {r s : Rat} (h : Lat n r) (k : Lat n s) (l : n + 1 ≤ m := by omega) : Lat m (r - s) := by
  rw [Rat.sub_eq_add_neg]
  exact h.add k.neg l
theorem Lat.abs {n : Nat} {r : Rat} (h : Lat n r) : Lat n r.abs := by
  rw [Rat.abs]
  split
  · exact h
  · exact h.neg
theorem Lat.rb {n m : Nat} {r : Rat} (h : Lat n r) (l : n ≤ m := by omega) (hm : 45 ≤ m := by omega) : Rb m r := by
  obtain ⟨z, a, rfl⟩ := h.ex
  exact rb_frac (by decide) (Nat.lt_of_lt_of_le a (Nat.pow_le_pow_right (by decide) l)) (Nat.lt_of_lt_of_le (show DL.natAbs < 2 ^ 45 by decide) (Nat.pow_le_pow_right (by decide) hm))
theorem lat_of {n : Nat} {a b c : Int} (e : b * c = DL) (h : (a * c).natAbs < 2 ^ n) : Lat n ((a : Rat) / (b : Rat)) := by
  refine ⟨a * c, h, ?_⟩
  rw [← e, Rat.intCast_mul, Rat.intCast_mul]
  have hb : (b : Rat) ≠ 0 := fun z => by
    have := Rat.intCast_eq_zero_iff.mp z
    subst this
    simp at e
    exact absurd e (by decide)
  have hc : (c : Rat) ≠ 0 := fun z => by
    have := Rat.intCast_eq_zero_iff.mp z
    subst this
    simp at e
    exact absurd e (by decide)
  grind
theorem lat_frac {a b : Int} (h1 : 1 ≤ b) (h2 : b ≤ 12) (ha : a.natAbs ≤ 2000000) : Lat 70 ((a : Rat) / (b : Rat)) := by
  obtain ⟨c, e, c0⟩ : ∃ c : Int, b * c = DL ∧ (0 ≤ c ∧ c ≤ DL) := by
    refine ⟨DL / b, ?_⟩
    have : b = 1 ∨ b = 2 ∨ b = 3 ∨ b = 4 ∨ b = 5 ∨ b = 6 ∨ b = 7 ∨ b = 8 ∨ b = 9 ∨ b = 10 ∨ b = 11 ∨ b = 12 := by omega
    rcases this with rfl | rfl | rfl | rfl | rfl | rfl | rfl | rfl | rfl | rfl | rfl | rfl
    all_goals decide
  refine lat_of e ?_
  rw [Int.natAbs_mul]
  have : a.natAbs * c.natAbs ≤ 2000000 * 27720000000000 := Nat.mul_le_mul ha (by unfold DL at c0; omega)
  have p : (2000000 * 27720000000000 : Nat) < 2 ^ 70 := by decide
  omega
theorem v_mark (h : Hand) : ∃ r h', R_law_mark [.hand] h = (.ret (.dat (qr r)), h') ∧ Lat 70 r := by
  obtain ⟨t, h1, e1, t0, t1⟩ := take_ex (n := 13) h (lg9 (by decide))
  have e := q_law_ratio (a := t - 4) (b := 2) (by decide) (n := 20) (bd_of (by decide) (by decide))
  have b := lat_frac (a := t - 4) (b := 2) (by decide) (by decide) (by omega)
  generalize ((t - 4 : Int) : Rat) / ((2 : Int) : Rat) = r at *
  exact ⟨r, h1, by simp [R_law_mark, m_law_mark, e1, e], b⟩
theorem v_wide (h : Hand) : ∃ r h', R_law_wide [.hand] h = (.ret (.dat (qr r)), h') ∧ Lat 70 r := by
  obtain ⟨t, h1, e1, t0, t1⟩ := take_ex (n := 8) h (lg9 (by decide))
  by_cases c : t = 0
  · exact ⟨0, h1, by simp [R_law_wide, m_law_wide, e1, c, qr_0], lat0⟩
  · by_cases c1 : t = 1
    · obtain ⟨u, h2, e2, u0, u1⟩ := take_ex (n := 2000001) h1 (lg9 (by decide))
      obtain ⟨w, h3, e3, w0, w1⟩ := take_ex (n := 12) h2 (lg9 (by decide))
      have e := q_law_ratio (a := u - 1000000) (b := 1 + w) (by omega) (n := 20) (bd_of (by omega) (by omega))
      have b := lat_frac (a := u - 1000000) (b := 1 + w) (by omega) (by omega) (by omega)
      have pc : powC 10 6 = true := by decide
      have mc : mulC 2 1000000 = true := by decide +kernel
      generalize ((u - 1000000 : Int) : Rat) / ((1 + w : Int) : Rat) = r at *
      exact ⟨r, h3, by simp [R_law_wide, m_law_wide, e1, c, c1, e2, e3, e, pc, p6, mc], b⟩
    · obtain ⟨r, h2, e2, b⟩ := v_mark h1
      exact ⟨r, h2, by simp [R_law_wide, m_law_wide, e1, c, c1, e2], b⟩
theorem v_half (h : Hand) : ∃ o h', R_law_half [.hand] h = (.ret (.dat (hd o)), h') ∧ ∀ t, o = some t → Rb 20 t := by
  obtain ⟨t, h1, e1, t0, t1⟩ := take_ex (n := 14) h (lg9 (by decide))
  by_cases c : t = 12
  · exact ⟨none, h1, by simp [R_law_half, m_law_half, e1, c, hd], fun t z => by cases z⟩
  · by_cases c2 : t = 13
    · obtain ⟨u, h2, e2, u0, u1⟩ := take_ex (n := 41) h1 (lg9 (by decide))
      obtain ⟨w, h3, e3, w0, w1⟩ := take_ex (n := 9) h2 (lg9 (by decide))
      obtain ⟨r, e, b⟩ := frac_ex (a := u - 20) (b := 1 + w) (by omega) (n := 20) (bd_of (by omega) (by omega)) (bd_of (by omega) (by omega))
      exact ⟨some r, h3, by simp [R_law_half, m_law_half, e1, c, c2, e2, e3, e, hd], fun t z => by cases z; exact b⟩
    · obtain ⟨d, hm, hd'⟩ := atI_mem [D.tup [.int 0, .int 1], .tup [.int 1, .int 3], .tup [.int 1, .int 2], .tup [.int 1, .int 1], .tup [.int 2, .int 1], .tup [.int 3, .int 1], .tup [.int (-1), .int 3], .tup [.int (-1), .int 2], .tup [.int (-1), .int 1], .tup [.int (-2), .int 1], .tup [.int (-3), .int 1], .tup [.int 0, .int 1]] t0 (by show t < 12; omega)
      have hq : ∃ q : Rat, d = qr q ∧ Rb 20 q := by
        simp only [List.mem_cons, List.not_mem_nil, or_false] at hm
        rcases hm with rfl | rfl | rfl | rfl | rfl | rfl | rfl | rfl | rfl | rfl | rfl | rfl
        all_goals exact lit_ex _ _ (by decide) (by decide) (bd_of (by decide) (by decide)) (bd_of (by decide) (by decide))
      obtain ⟨q, rfl, bq⟩ := hq
      have e' := atI_map SV.dat hd'
      simp only [List.map] at e'
      refine ⟨some q, h1, ?_, fun t z => by cases z; exact bq⟩
      simp [R_law_half, m_law_half, e1, c, c2, e', hd]
theorem v_any_half (h : Hand) : ∃ o h', R_law_any_half [.hand] h = (.ret (.dat (hd o)), h') ∧ ∀ t, o = some t → Rb 20 t := by
  obtain ⟨t, h1, e1, t0, t1⟩ := take_ex (n := 8) h (lg9 (by decide))
  by_cases c : t = 0
  · obtain ⟨u, h2, e2, u0, u1⟩ := take_ex (n := 2001) h1 (lg9 (by decide))
    obtain ⟨w, h3, e3, w0, w1⟩ := take_ex (n := 60) h2 (lg9 (by decide))
    obtain ⟨r, e, b⟩ := frac_ex (a := u - 1000) (b := 1 + w) (by omega) (n := 20) (bd_of (by omega) (by omega)) (bd_of (by omega) (by omega))
    have pc : powC 10 3 = true := by decide
    have mc : mulC 2 1000 = true := by decide +kernel
    exact ⟨some r, h3, by simp [R_law_any_half, m_law_any_half, e1, c, e2, e3, e, hd, pc, p3, mc], fun t z => by cases z; exact b⟩
  · obtain ⟨o, h2, e2, b⟩ := v_half h1
    exact ⟨o, h2, by simp [R_law_any_half, m_law_any_half, e1, c, e2], b⟩

/-! ## list(row) or tuple(row) -/
def rsF (b : Bool) (xs : List D) : Res := .ret (if b then .new (xs) else .dat (.tup xs))
def ddF (b : Bool) (xs : List D) : D := if b then .lst xs else .tup xs
theorem seq_ddF (b : Bool) (xs : List D) : seqD (ddF b xs) = some xs := by cases b <;> rfl
theorem v_form (xs : List D) (few : xs.length ≤ 10) (h : Hand) : ∃ (b : Bool) (h' : Hand), R_law_form [.hand, .dat (.tup xs)] h = (rsF b xs, h') := by
  obtain ⟨t, h1, e1, t0, t1⟩ := take_ex (n := 2) h (lg9 (by decide))
  have l2 : (xs.map SV.dat).length ≤ 1000 := by rw [List.length_map]; omega
  by_cases c : t = 0
  · exact ⟨true, h1, by simp [R_law_form, m_law_form, e1, c, rsF]⟩
  · exact ⟨false, h1, by simp [R_law_form, m_law_form, e1, c, rsF]⟩
end Law
set_option Elab.async false
set_option linter.all false
set_option maxRecDepth 100000
set_option maxHeartbeats 8000000
namespace Fd
open PySem PySem.Spec PyProof.Rows L2
theorem orT_f {a b : M Bool} {s s1 s2 : S} (h : a s = .ok false s1) (k : b s1 = .ok false s2) : orT a b s = .ok false s2 := by
  simp [h, k]
theorem notT_t {m : M RV} {s s' : S} (h : m s = .ok (RB true) s') : notT (bnd m truthM) s = .ok false s' := by
  simp [h]
theorem ne_of {m1 m3' : M RV} {d : D} (o : okD d = true) (q : eqD d d = true) {st s1 s2 : S} (e1 : m1 st = .ok (RD d) s1) (e2 : m3' s1 = .ok (RD d) s2) : bnd (m2 m1 m3' neM) asB st = .ok false s2 := by
  simp [e1, e2, o, q]
theorem alt_f {m mo : M Bool} {s : S} {b : Bool} {s' : S} (h : m s = .ok b s') : altM m mo s = .ok b s' := by
  unfold altM
  rw [h]
theorem altR {m mo : M RV} {s : S} {b : RV} {s' : S} (h : m s = .ok b s') : altM m mo s = .ok b s' := by
  unfold altM
  rw [h]
theorem seqF_go {a b : M Fl} {s s' : S} {r : Out Fl} (h : a s = .ok .nx s') (k : b s' = r) : seqF a b s = r := by
  rw [e_seqF, h]
  exact k
theorem seqF_rt {a b : M Fl} {s s' : S} {r : RV} (h : a s = .ok (.rt r) s') : seqF a b s = .ok (.rt r) s' := by
  rw [e_seqF, h]
theorem seqF_x {a b : M Fl} {s s' : S} {x : Exn} (h : a s = .exc x s') : seqF a b s = .exc x s' := by
  rw [e_seqF, h]
theorem asgF_go {m : M RV} {f : SV → M Unit} {s s1 s2 : S} {x : SV} (h : m s = .ok (.sv x) s1) (k : f x s1 = .ok () s2) : asgF m f s = .ok .nx s2 := by
  simp [h, k]
theorem ifF_t {c : M Bool} {a b : M Fl} {s s' : S} {r : Out Fl} (h : c s = .ok true s') (k : a s' = r) : ifF c a b s = r := by
  simp [h, k]
theorem ifF_f {c : M Bool} {a b : M Fl} {s s' : S} {r : Out Fl} (h : c s = .ok false s') (k : b s' = r) : ifF c a b s = r := by
  simp [h, k]
theorem runH_go {n : Nat} {m : M Fl} {xs : List SV} {h h' : Hand} {d : D} {s : S} (k : m (startH n xs h) = .ok (.rt (RD d)) s) (e : s.hd = some (.hand h')) : runH n m xs h = (.ret (.dat d), h') := by
  unfold runH
  rw [k]
  simp [e]
theorem runP_go {n : Nat} {m : M Fl} {ds : List D} {d : D} {s : S} (k : m (startP n ds) = .ok (.rt (RD d)) s) : runP n m ds = .ret (.dat d) := by
  unfold runP
  rw [k, e_resP2]
theorem runP_x {n : Nat} {m : M Fl} {ds : List D} {x : Exn} {s : S} (k : m (startP n ds) = .exc x s) : runP n m ds = .exc x := by
  unfold runP
  rw [k, e_resP4]
theorem forF_go {mi : M Src} {f : SV → M Unit} {b : M Fl} {s s1 : S} {src : Src} {r : Out Fl} (h : mi s = .ok src s1) (k : forL src.Ok f b src.items s1 = r) : forF mi f b s = r := by
  rw [e_forF, h]
  exact k
theorem orT_s {a b : M Bool} {s : S} (h : a s = .ok false s) (k : b s = .ok false s) : orT a b s = .ok false s := by
  simp [h, k]
theorem notT_s {m : M RV} {s : S} (h : m s = .ok (RB true) s) : notT (bnd m truthM) s = .ok false s := by
  simp [h]
theorem ne_s {m1 m3' : M RV} {d : D} (o : okD d = true) (q : eqD d d = true) {st : S} (e1 : m1 st = .ok (RD d) st) (e2 : m3' st = .ok (RD d) st) : bnd (m2 m1 m3' neM) asB st = .ok false st := by
  simp [e1, e2, o, q]
theorem get_at {i : Nat} {x : SV} {s : S} (e : s.env[i]? = some (some x)) : getV i s = .ok (.sv x) s := by
  simp [e]
theorem forL_inv {ok : S → Prop} {f : SV → M Unit} {b : M Fl} (P : S → Prop) (hok : ∀ s, P s → ok s) : ∀ xs : List SV, (∀ x ∈ xs, ∀ s, P s → ∃ s1 s2, f x s = .ok () s1 ∧ b s1 = .ok .nx s2 ∧ P s2) → ∀ s, P s → ∃ s', forL ok f b xs s = .ok .nx s' ∧ P s' := by
  intro xs
  induction xs with
  | nil => intro _ s hs; exact ⟨s, if_pos (hok s hs), hs⟩
  | cons x xs ih =>
    intro h s hs
    obtain ⟨s1, s2, h1, h2, h3⟩ := h x List.mem_cons_self s hs
    obtain ⟨s', h4, h5⟩ := ih (fun y hy => h y (List.mem_cons_of_mem _ hy)) s2 h3
    refine ⟨s', ?_, h5⟩
    conv => lhs; unfold forL
    rw [if_pos (hok s hs), h1]
    simp only [h2]
    exact h4
theorem lcL_list {β : Type} {l : List SV} {vs : List Nat} {f : SV → M Unit} {tt : M Bool} {me : M RV} {st : S} (enc out : β → SV) : ∀ (bs : List β) (acc : List SV), acc.length + bs.length ≤ 100000 →
    (∀ b ∈ bs, ∃ s1 s2 s3, f (enc b) st = .ok () s1 ∧ tt s1 = .ok true s2 ∧ me s2 = .ok (.sv (out b)) s3 ∧ wipeS vs s3 = st) → lcL (Src.mk l none).Ok vs f tt me (bs.map enc) acc st = .ok (.new (acc ++ bs.map out)) st := by
  intro bs
  induction bs with
  | nil => intro acc _ _; rw [List.map_nil, List.map_nil, List.append_nil]; exact if_pos trivial
  | cons b bs ih =>
    intro acc hl h
    rw [List.length_cons] at hl
    obtain ⟨s1, s2, s3, h1, h2, h3, h4⟩ := h b List.mem_cons_self
    rw [List.map_cons, lcL_step h1 h2 h3 (by omega), h4, ih (acc ++ [out b]) (by simp; omega) fun c hc => h c (List.mem_cons_of_mem _ hc), List.append_assoc]
    rfl
end Fd
namespace Law
open PySem PySem.Spec PyProof.Rows L2 Fd

theorem eq_s {m1 m3' : M RV} {d : D} (o : okD d = true) (q : eqD d d = true) {st : S} (e1 : m1 st = .ok (RD d) st) (e2 : m3' st = .ok (RD d) st) : m2 m1 m3' eqM st = .ok (RB true) st := by
  simp [e1, e2, o, q]
theorem retF_go {m : M RV} {x : RV} {s s1 : S} (h : m s = .ok x s1) : retF m s = .ok (.rt x) s1 := by
  simp [h]
theorem eq_str (w : Str) : eqD (.str w) (.str w) = true := by simp
end Law
set_option Elab.async false
set_option linter.all false
set_option maxRecDepth 100000
set_option maxHeartbeats 8000000
set_option exponentiation.threshold 3000
namespace Law
open PySem PySem.Spec PyProof.Rows L2 Fd
abbrev rF : Res := .ret (.dat (.bl false))
abbrev rT : Res := .ret (.dat (.bl true))
abbrev rB (b : Bool) : Res := .ret (.dat (.bl b))
/-! ## ratios in the law's own words -/
theorem lr_qr (r : Rat) {n : Nat} (h : Rb n r) (l : n < 9000 := by decide) : R_law_is_ratio [qr r] = rT := by
  have h1 : 1 ≤ (r.den : Int) := den_pos r
  have g := qr_gcd r
  simp [R_law_is_ratio, m_law_is_ratio, qr, subTy, at20, at21, v_law_gcd r.num r.den h.den (by omega), g, h1]
theorem lr_len {xs : List D} (h : xs.length ≠ 2) : R_law_is_ratio [.tup xs] = rF := by
  have : ¬ (xs.length : Int) = 2 := by omega
  simp [R_law_is_ratio, m_law_is_ratio, subTy, this]
@[simp] theorem lr_lst (x : List D) : R_law_is_ratio [.lst x] = rF := by simp [R_law_is_ratio, m_law_is_ratio, subTy]
@[simp] theorem lr_int (x : Int) : R_law_is_ratio [.int x] = rF := by simp [R_law_is_ratio, m_law_is_ratio, subTy]
@[simp] theorem lr_bl (x : Bool) : R_law_is_ratio [.bl x] = rF := by simp [R_law_is_ratio, m_law_is_ratio, subTy]
@[simp] theorem lr_str (x : Str) : R_law_is_ratio [.str x] = rF := by simp [R_law_is_ratio, m_law_is_ratio, subTy]
@[simp] theorem lr_non : R_law_is_ratio [.non] = rF := by simp [R_law_is_ratio, m_law_is_ratio, subTy]
theorem r_bl (x : Bool) : R_is_ratio [.bl x] = rF := by simp [R_is_ratio, m_is_ratio, subTy]
theorem lr_tb (a : Int) (b : Bool) : R_law_is_ratio [.tup [.int a, .bl b]] = rF := by simp [R_law_is_ratio, m_law_is_ratio, subTy]
theorem lr_bt (a : D) (b : Bool) : R_law_is_ratio [.tup [.bl b, a]] = rF := by simp [R_law_is_ratio, m_law_is_ratio, subTy]
theorem r_t1 (a : D) (xs : List D) : R_is_ratio [.tup [.tup xs, a]] = rF := by simp [R_is_ratio, m_is_ratio, R_is_whole, m_is_whole, subTy]
theorem lr_t1 (a : D) (xs : List D) : R_law_is_ratio [.tup [.tup xs, a]] = rF := by simp [R_law_is_ratio, m_law_is_ratio, subTy]
theorem lr_low {a b : Int} (h : ¬ 1 ≤ b) : R_law_is_ratio [.tup [.int a, .int b]] = rF := by
  simp [R_law_is_ratio, m_law_is_ratio, subTy, at20, at21, h]
theorem lr_gcd {a b : Int} {n : Nat} (hb : Bd n b) (l : n < 40000) (g : gI a b ≠ 1) : R_law_is_ratio [.tup [.int a, .int b]] = rF := by
  by_cases h : 1 ≤ b
  · simp [R_law_is_ratio, m_law_is_ratio, subTy, at20, at21, h, v_law_gcd a b hb l, g]
  · exact lr_low h
/-! ## spots and directions -/
theorem v_sq {d : D} {x y : Rat} {n : Nat} (e : seqD d = some [qr x, qr y]) (hx : Rb n x) (hy : Rb n y) (l : n < 2000) : R_square_sum [d] = .ret (.dat (qr (x * x + y * y))) := by
  have e1 := r_times hx hx
  have e2 := r_times hy hy
  have e3 := r_plus (hx.mul hx) (hy.mul hy)
  rcases seq_cases e with rfl | rfl <;> simp [R_square_sum, m_square_sum, e1, e2, e3]
theorem spot_val {d x y : D} {a b : Bool} (e : seqD d = some [x, y]) (hx : R_is_ratio [x] = rB a) (hy : R_is_ratio [y] = rB b) : R_is_spot [d] = rB (a && b) := by
  cases a <;> rcases seq_cases e with rfl | rfl <;> simp [R_is_spot, m_is_spot, subTy, at20, at21, hx, hy]
theorem lspot_val {d x y : D} {a b : Bool} (e : seqD d = some [x, y]) (hx : R_law_is_ratio [x] = rB a) (hy : R_law_is_ratio [y] = rB b) : R_law_is_spot [d] = rB (a && b) := by
  cases a <;> rcases seq_cases e with rfl | rfl <;> simp [R_law_is_spot, m_law_is_spot, subTy, at20, at21, hx, hy]
theorem dir_valn {d : D} {x y : Rat} {n : Nat} (e : seqD d = some [qr x, qr y]) (hx : Rb n x) (hy : Rb n y) (l : n < 2000) : R_is_direction [d] = rB (decide (x * x + y * y = 1)) := by
  have s := spot_val e (r_qr x) (r_qr y)
  have q := v_sq e hx hy l
  simp [R_is_direction, m_is_direction, s, q, eq_qr1]
theorem law_sqL {d : D} {x y : Rat} {n : Nat} (e : seqD d = some [qr x, qr y]) (hx : Rb n x) (hy : Rb n y) (l : n < 2000) : R_law_square [d] = .ret (.dat (qr (x * x + y * y))) := by
  have e1 := r_law_times hx hx
  have e2 := r_law_times hy hy
  have e3 := r_law_plus (hx.mul hx) (hy.mul hy)
  rcases seq_cases e with rfl | rfl <;> simp [R_law_square, m_law_square, at20, at21, e1, e2, e3]
/-! ## fit for repr -/
structure Rc (n m : Nat) (d : D) : Prop where
  fine : d.fine = true
  show_ : d.py.showable = true
  rb : d.rb ≤ n
  dep : d.dep ≤ m
theorem log_bd {z : Int} {n : Nat} (h : Bd n z) (l : n ≤ 1920) : z.natAbs.log2 < 1920 := by
  by_cases c : z.natAbs = 0
  · rw [c]; decide
  · exact (Nat.log2_lt c).mpr (Nat.lt_of_lt_of_le h (Nat.pow_le_pow_right (by decide) l))
theorem show_all : ∀ {L : List D}, (∀ d ∈ L, d.py.showable = true) → PyData.showableAll (D.pys L) = true
  | [], _ => by simp [D.pys, PyData.showableAll]
  | d :: L, h => by
    have h1 := h d List.mem_cons_self
    have h2 := show_all fun e he => h e (List.mem_cons_of_mem _ he)
    simp [D.pys, PyData.showableAll, h1, h2]
theorem rbs_all {n : Nat} : ∀ {L : List D}, (∀ d ∈ L, d.rb ≤ n) → D.rbs L ≤ L.length * (n + 2)
  | [], _ => by simp [D.rbs]
  | d :: L, h => by
    have h1 := h d List.mem_cons_self
    have h2 := rbs_all fun e he => h e (List.mem_cons_of_mem _ he)
    rw [List.length_cons, Nat.succ_mul]
    simp [D.rbs]
    omega
theorem rc_qr {r : Rat} (h : Rb 1000 r) : Rc 6500 3 (qr r) := by
  have l1 := log_bd h.num (by decide)
  have l2 := log_bd h.den (by decide)
  exact ⟨by simp [qr, D.fine, D.fines], by simp [qr, D.py, D.pys, PyData.showable, PyData.showableAll, l1]; exact l2, by simp [qr, D.rb, D.rbs], by simp [qr, D.dep, D.deps]⟩
theorem rc_row {xs : List D} (b : Bool) (h : ∀ x ∈ xs, Rc 6500 3 x) (l : xs.length ≤ 3) : Rc 20000 4 (ddF b xs) := by
  refine ⟨?_, ?_, ?_, ?_⟩
  · have := fines_all fun d hd => (h d hd).fine
    cases b <;> simpa [ddF, D.fine] using this
  · have := show_all fun d hd => (h d hd).show_
    cases b <;> simpa [ddF, D.py, PyData.showable] using this
  · have := rbs_all fun d hd => (h d hd).rb
    have e : xs.length * (6500 + 2) ≤ 3 * 6502 := Nat.mul_le_mul_right _ l
    cases b <;> simp [ddF, D.rb] <;> omega
  · have := deps_all fun d hd => (h d hd).dep
    cases b <;> simp [ddF, D.dep] <;> omega
theorem rep4 {a b c d : D} (h1 : Rc 20000 4 a) (h2 : Rc 20000 4 b) (h3 : Rc 20000 4 c) (h4 : Rc 20000 4 d) : repOk (.lst [a, b, c, d]) = true := by
  obtain ⟨f1, s1, b1, e1⟩ := h1
  obtain ⟨f2, s2, b2, e2⟩ := h2
  obtain ⟨f3, s3, b3, e3⟩ := h3
  obtain ⟨f4, s4, b4, e4⟩ := h4
  have ff : (D.lst [a, b, c, d]).fine = true := by simp [D.fine, D.fines, f1, f2, f3, f4]
  have dd := py_dep (.lst [a, b, c, d]) (fun _ _ z => by cases z) ff
  unfold repOk
  simp only [Bool.and_eq_true, decide_eq_true_eq]
  refine ⟨⟨⟨⟨rfl, by rw [py_lay]; exact ff⟩, by simp [D.py, D.pys, PyData.showable, PyData.showableAll, s1, s2, s3, s4]⟩, by simp [D.rb, D.rbs]; omega⟩, ?_⟩
  rw [dd]
  simp [D.dep, D.deps]
  omega
/-! ## halves -/
inductive Hf : D → Prop
  | non : Hf .non
  | q {t : Rat} : Rb 400 t → Hf (qr t)
  | no {d : D} : isNoD d = false → R_is_ratio [d] = rF → R_law_is_ratio [d] = rF → Hf d
/-! ## things that may be directions -/
inductive Comp : D → Prop
  | q {x : Rat} : Rb 400 x → Comp (qr x)
  | no {d : D} : R_is_ratio [d] = rF → R_law_is_ratio [d] = rF → Comp d
structure One (d : D) : Prop where
  sp : ∃ b : Bool, R_is_spot [d] = rB b ∧ R_law_is_spot [d] = rB b ∧ (b = true → ∃ x y : Rat, seqD d = some [qr x, qr y])
  dir : ∃ b : Bool, R_is_direction [d] = rB b ∧ R_law_is_direction [d] = rB b ∧ (b = true → ∃ x y : Rat, seqD d = some [qr x, qr y] ∧ Rb 400 x ∧ Rb 400 y ∧ x * x + y * y = 1)
  h : Hf d
  r : Rc 20000 4 d
theorem one_no {d : D} (h1 : R_is_spot [d] = rF) (h2 : R_law_is_spot [d] = rF) (h : Hf d) (r : Rc 20000 4 d) : One d :=
  ⟨⟨false, h1, h2, fun z => by cases z⟩, ⟨false, by simp [R_is_direction, m_is_direction, h1], by simp [R_law_is_direction, m_law_is_direction, h2], fun z => by cases z⟩, h, r⟩
theorem one_two {d x y : D} (e : seqD d = some [x, y]) (cx : Comp x) (cy : Comp y) (h : Hf d) (r : Rc 20000 4 d) : One d := by
  cases cx with
  | no a1 a2 =>
    cases cy with
    | no b1 b2 => exact one_no (spot_val e a1 b1) (lspot_val e a2 b2) h r
    | q b => exact one_no (spot_val e a1 (r_qr _)) (lspot_val e a2 (lr_qr _ b)) h r
  | q a =>
    cases cy with
    | no b1 b2 => exact one_no (by rw [spot_val e (r_qr _) b1]; rfl) (by rw [lspot_val e (lr_qr _ a) b2]; rfl) h r
    | q b =>
      rename_i x' y'
      have s := lspot_val e (lr_qr _ a) (lr_qr _ b)
      have q := law_sqL e a b (by decide)
      refine ⟨⟨true, spot_val e (r_qr _) (r_qr _), s, fun _ => ⟨x', y', e⟩⟩, ⟨decide (x' * x' + y' * y' = 1), dir_valn e a b (by decide), ?_, fun z => ⟨x', y', e, a, b, of_decide_eq_true z⟩⟩, h, r⟩
      simp [R_law_is_direction, m_law_is_direction, s, q, eq_qr1]
theorem one_len {d : D} {xs : List D} (e : seqD d = some xs) (hl : xs.length ≠ 2) (h : Hf d) (r : Rc 20000 4 d) : One d := by
  have k : ¬ (xs.length : Int) = 2 := by omega
  rcases seq_cases e with rfl | rfl
  · exact one_no (by simp [R_is_spot, m_is_spot, subTy, k]) (by simp [R_law_is_spot, m_law_is_spot, subTy, k]) h r
  · exact one_no (by simp [R_is_spot, m_is_spot, subTy, k]) (by simp [R_law_is_spot, m_law_is_spot, subTy, k]) h r
/-- no pair with a pair inside is a ratio -/
theorem hf_lst (l : List D) : Hf (.lst l) := .no rfl (r_lst l) (lr_lst l)
theorem hf_t1 (a : List D) (y : D) : Hf (.tup [.tup a, y]) := .no rfl (r_t1 y a) (lr_t1 y a)
structure Odd (d : D) : Prop where
  c : Comp d
  t : One d
  r : Rc 6500 3 d
  t2 : ∀ y : Rat, Hf (.tup [d, qr y])
theorem odds : Odd .non ∧ Odd (.bl true) ∧ Odd (.int 3) ∧ Odd (.str "1") ∧ Odd (.tup [.int 2, .int 4]) ∧ Odd (.tup [.int 1, .int 0]) ∧ Odd (.tup [.int 1, .int (-2)]) ∧ Odd (.lst [.int 1, .int 2]) ∧ Odd (.tup [.bl true, .int 1])
    ∧ Odd (.tup [.int 1, .bl true]) ∧ Odd (.tup [.int 1]) ∧ Odd (.tup [.int 1, .int 2, .int 3]) ∧ Odd (.tup [.int 0, .int 5]) ∧ Odd (.tup [.tup [.int 1, .int 1], .int 1]) ∧ Odd (.tup [.int 1, .int 1]) := by
  have one : Comp (.tup [.int 1, .int 1]) := qr_1 ▸ Comp.q (rb1.mono (by decide))
  have rc : ∀ d : D, d.fine = true → d.py.showable = true → d.rb ≤ 6500 → d.dep ≤ 3 → Rc 6500 3 d := fun d a b c e => ⟨a, b, c, e⟩
  have up : ∀ {d : D}, Rc 6500 3 d → Rc 20000 4 d := fun r => ⟨r.fine, r.show_, Nat.le_trans r.rb (by decide), Nat.le_trans r.dep (by decide)⟩
  have ci : ∀ a : Int, Comp (.int a) := fun a => .no (r_int a) (lr_int a)
  have cb : ∀ a : Bool, Comp (.bl a) := fun a => .no (r_bl a) (lr_bl a)
  have no : ∀ d : D, Rc 6500 3 d → R_is_ratio [d] = rF → R_law_is_ratio [d] = rF → isNoD d = false → (Hf d → Rc 20000 4 d → One d) → (∀ y : Rat, Hf (.tup [d, qr y])) → Odd d := fun d r a b z o t2 => ⟨.no a b, o (.no z a b) (up r), r, t2⟩
  have sc : ∀ d : D, (R_is_spot [d] = rF) → (R_law_is_spot [d] = rF) → Hf d → Rc 20000 4 d → One d := fun d a b h r => one_no a b h r
  refine ⟨⟨.no r_non lr_non, one_no (by simp [R_is_spot, m_is_spot, subTy]) (by simp [R_law_is_spot, m_law_is_spot, subTy]) .non (up ?_), ?_, fun y => .no rfl (by simp [R_is_ratio, m_is_ratio, R_is_whole, m_is_whole, subTy]) (by simp [R_law_is_ratio, m_law_is_ratio, subTy])⟩,
    no _ ?_ (r_bl _) (lr_bl _) rfl (sc _ (by simp [R_is_spot, m_is_spot, subTy]) (by simp [R_law_is_spot, m_law_is_spot, subTy])) fun y => .no rfl (by simp [R_is_ratio, m_is_ratio, R_is_whole, m_is_whole, subTy]) (lr_bt _ _),
    no _ ?_ (r_int _) (lr_int _) rfl (sc _ (by simp [R_is_spot, m_is_spot, subTy]) (by simp [R_law_is_spot, m_law_is_spot, subTy])) fun y => .no rfl (by simp [qr, R_is_ratio, m_is_ratio, R_is_whole, m_is_whole, subTy]) (by simp [qr, R_law_is_ratio, m_law_is_ratio, subTy]),
    no _ ?_ (r_str _) (lr_str _) rfl (sc _ (by simp [R_is_spot, m_is_spot, subTy]) (by simp [R_law_is_spot, m_law_is_spot, subTy])) fun y => .no rfl (by simp [R_is_ratio, m_is_ratio, R_is_whole, m_is_whole, subTy]) (by simp [R_law_is_ratio, m_law_is_ratio, subTy]),
    no _ ?_ (by rw [r_pair]; rfl) (lr_gcd (n := 10) (bd_of (by decide) (by decide)) (by decide) (by decide)) rfl (one_two rfl (ci _) (ci _)) fun y => hf_t1 _ _,
    no _ ?_ (by rw [r_pair]; rfl) (lr_low (by decide)) rfl (one_two rfl (ci _) (ci _)) fun y => hf_t1 _ _,
    no _ ?_ (by rw [r_pair]; rfl) (lr_low (by decide)) rfl (one_two rfl (ci _) (ci _)) fun y => hf_t1 _ _,
    no _ ?_ (r_lst _) (lr_lst _) rfl (one_two rfl (ci _) (ci _)) fun y => .no rfl (by simp [R_is_ratio, m_is_ratio, R_is_whole, m_is_whole, subTy]) (by simp [R_law_is_ratio, m_law_is_ratio, subTy]),
    no _ ?_ (r_bt _ _) (lr_bt _ _) rfl (one_two rfl (cb _) (ci _)) fun y => hf_t1 _ _,
    no _ ?_ (r_tb _ _) (lr_tb _ _) rfl (one_two rfl (ci _) (cb _)) fun y => hf_t1 _ _,
    no _ ?_ (r_len (by decide)) (lr_len (by decide)) rfl (one_len rfl (by decide)) fun y => hf_t1 _ _,
    no _ ?_ (r_len (by decide)) (lr_len (by decide)) rfl (one_len rfl (by decide)) fun y => hf_t1 _ _,
    no _ ?_ (by rw [r_pair]; rfl) (lr_gcd (n := 10) (bd_of (by decide) (by decide)) (by decide) (by decide)) rfl (one_two rfl (ci _) (ci _)) fun y => hf_t1 _ _,
    no _ ?_ (r_t1 _ _) (lr_t1 _ _) rfl (one_two rfl one (ci _)) fun y => hf_t1 _ _,
    ⟨one, one_two rfl (ci _) (ci _) (qr_1 ▸ Hf.q (rb1.mono (by decide))) (up ?_), ?_, fun y => hf_t1 _ _⟩⟩ <;>
    exact rc _ (by decide +kernel) (by decide +kernel) (by decide +kernel) (by decide +kernel)
theorem v_odd (h : Hand) : ∃ d h', R_law_odd [.hand] h = (.ret (.dat d), h') ∧ Odd d := by
  obtain ⟨t, h1, e1, t0, t1⟩ := take_ex (n := 15) h (lg9 (by decide))
  obtain ⟨o0, o1, o2, o3, o4, o5, o6, o7, o8, o9, o10, o11, o12, o13, o14⟩ := odds
  have k : t = 0 ∨ t = 1 ∨ t = 2 ∨ t = 3 ∨ t = 4 ∨ t = 5 ∨ t = 6 ∨ t = 7 ∨ t = 8 ∨ t = 9 ∨ t = 10 ∨ t = 11 ∨ t = 12 ∨ t = 13 ∨ t = 14 := by omega
  rcases k with rfl | rfl | rfl | rfl | rfl | rfl | rfl | rfl | rfl | rfl | rfl | rfl | rfl | rfl | rfl
  · exact ⟨_, h1, by simp [R_law_odd, m_law_odd, e1, atI, ixN] <;> rfl, o0⟩
  · exact ⟨_, h1, by simp [R_law_odd, m_law_odd, e1, atI, ixN] <;> rfl, o1⟩
  · exact ⟨_, h1, by simp [R_law_odd, m_law_odd, e1, atI, ixN] <;> rfl, o2⟩
  · exact ⟨_, h1, by simp [R_law_odd, m_law_odd, e1, atI, ixN] <;> rfl, o3⟩
  · exact ⟨_, h1, by simp [R_law_odd, m_law_odd, e1, atI, ixN] <;> rfl, o4⟩
  · exact ⟨_, h1, by simp [R_law_odd, m_law_odd, e1, atI, ixN] <;> rfl, o5⟩
  · exact ⟨_, h1, by simp [R_law_odd, m_law_odd, e1, atI, ixN] <;> rfl, o6⟩
  · exact ⟨_, h1, by simp [R_law_odd, m_law_odd, e1, atI, ixN] <;> rfl, o7⟩
  · exact ⟨_, h1, by simp [R_law_odd, m_law_odd, e1, atI, ixN] <;> rfl, o8⟩
  · exact ⟨_, h1, by simp [R_law_odd, m_law_odd, e1, atI, ixN] <;> rfl, o9⟩
  · exact ⟨_, h1, by simp [R_law_odd, m_law_odd, e1, atI, ixN] <;> rfl, o10⟩
  · exact ⟨_, h1, by simp [R_law_odd, m_law_odd, e1, atI, ixN] <;> rfl, o11⟩
  · exact ⟨_, h1, by simp [R_law_odd, m_law_odd, e1, atI, ixN] <;> rfl, o12⟩
  · exact ⟨_, h1, by simp [R_law_odd, m_law_odd, e1, atI, ixN] <;> rfl, o13⟩
  · exact ⟨_, h1, by simp [R_law_odd, m_law_odd, e1, atI, ixN] <;> rfl, o14⟩
end Law
set_option Elab.async false
set_option linter.all false
set_option maxRecDepth 100000
set_option maxHeartbeats 8000000
set_option exponentiation.threshold 3000
namespace Law
open PySem PySem.Spec PyProof.Rows L2 Fd
theorem hf_q (b : Bool) (p : Rat) (y : D) : Hf (ddF b [qr p, y]) := by
  cases b
  · exact hf_t1 _ _
  · exact hf_lst _
theorem hf_o (b : Bool) {d : D} (o : Odd d) (p : Rat) : Hf (ddF b [d, qr p]) := by
  cases b
  · exact o.t2 p
  · exact hf_lst _
theorem hf_n (b : Bool) {xs : List D} (h : xs.length ≠ 2) : Hf (ddF b xs) := by
  cases b
  · exact .no rfl (r_len h) (lr_len h)
  · exact hf_lst _
theorem rc_two (b : Bool) {x y : D} (h : Rc 6500 3 x) (k : Rc 6500 3 y) : Rc 20000 4 (ddF b [x, y]) := rc_row b (by simp [h, k]) (by simp)
theorem v_dirs (h : Hand) : ∃ (p : Rat × Rat) (h' : Hand), (Rb 80 p.1 ∧ Rb 90 p.2) ∧ ∃ d0, R_law_any_half [.hand] h = (.ret (.dat d0), h') ∧ R_law_direction [d0] = .ret (.dat (.tup [qr p.1, qr p.2])) := by
  obtain ⟨o, h1, e, k⟩ := v_any_half h
  exact ⟨(dX o, dY o), h1, sz_d k, hd o, e, v_law_direction k⟩
inductive Told (r : Res) : D → Prop
  | form {b : Bool} {xs : List D} : r = rsF b xs → xs.length ≤ 10 → Told r (ddF b xs)
  | dat {d : D} : r = .ret (.dat d) → Told r d
theorem v_spoilt (h : Hand) : ∃ r d h', R_law_spoilt_direction [.hand] h = (r, h') ∧ Told r d ∧ One d := by
  obtain ⟨p, h1, u, d0, e1, e2⟩ := v_dirs h
  obtain ⟨t, h2, e3, t0, t1⟩ := take_ex (n := 12) h1 (lg9 (by decide))
  have cx : Comp (qr p.1) := .q (u.1.mono (by decide))
  have cy : Comp (qr p.2) := .q (u.2.mono (by decide))
  have kx := rc_qr (u.1.mono (by decide))
  have ky := rc_qr (u.2.mono (by decide))
  have k : t < 5 ∨ t = 5 ∨ t = 6 ∨ t = 7 ∨ t = 8 ∨ t = 9 ∨ t = 10 ∨ t = 11 := by omega
  rcases k with c | rfl | rfl | rfl | rfl | rfl | rfl | rfl
  · obtain ⟨b, h3, e4⟩ := v_form [qr p.1, qr p.2] (by simp) h2
    refine ⟨_, _, h3, ?_, .form (b := b) (xs := [qr p.1, qr p.2]) rfl (by simp), one_two (seq_ddF _ _) cx cy (hf_q _ _ _) (rc_two _ kx ky)⟩
    generalize qr p.1 = x at *
    generalize qr p.2 = y at *
    cases b <;> simp [rsF] at e4 ⊢ <;> simp [R_law_spoilt_direction, m_law_spoilt_direction, e1, e2, e3, c, e4]
  · obtain ⟨r, h3, e4, l⟩ := v_wide h2
    have e5 := r_law_plus u.2 (l.rb (m := 80))
    have e7 := u.2.add (l.rb (m := 80))
    obtain ⟨b, h4, e6⟩ := v_form [qr p.1, qr (p.2 + r)] (by simp) h3
    refine ⟨_, _, h4, ?_, .form (b := b) (xs := [qr p.1, qr (p.2 + r)]) rfl (by simp), one_two (seq_ddF _ _) cx (.q (e7.mono (by decide))) (hf_q _ _ _) (rc_two _ kx (rc_qr (e7.mono (by decide))))⟩
    generalize qr p.1 = x at *
    generalize qr (p.2 + r) = y2 at *
    generalize qr p.2 = y at *
    generalize qr r = z at *
    cases b <;> simp [rsF] at e6 ⊢ <;> simp [R_law_spoilt_direction, m_law_spoilt_direction, e1, e2, e3, e4, e5, e6]
  · obtain ⟨r, h3, e4, l⟩ := v_wide h2
    obtain ⟨r2, h4, e5, l2⟩ := v_wide h3
    obtain ⟨b, h5, e6⟩ := v_form [qr r, qr r2] (by simp) h4
    refine ⟨_, _, h5, ?_, .form (b := b) (xs := [qr r, qr r2]) rfl (by simp), one_two (seq_ddF _ _) (.q (l.rb)) (.q (l2.rb)) (hf_q _ _ _) (rc_two _ (rc_qr (l.rb)) (rc_qr (l2.rb)))⟩
    generalize qr p.1 = x at *
    generalize qr p.2 = y at *
    generalize qr r = z at *
    generalize qr r2 = z2 at *
    cases b <;> simp [rsF] at e6 ⊢ <;> simp [R_law_spoilt_direction, m_law_spoilt_direction, e1, e2, e3, e4, e5, e6]
  · obtain ⟨d, h3, e4, o⟩ := v_odd h2
    obtain ⟨b, h5, e6⟩ := v_form [d, qr p.2] (by simp) h3
    refine ⟨_, _, h5, ?_, .form (b := b) (xs := [d, qr p.2]) rfl (by simp), one_two (seq_ddF _ _) o.c cy (hf_o _ o _) (rc_two _ o.r ky)⟩
    generalize qr p.1 = x at *
    generalize qr p.2 = y at *
    cases b <;> simp [rsF] at e6 ⊢ <;> simp [R_law_spoilt_direction, m_law_spoilt_direction, e1, e2, e3, e4, e6]
  · obtain ⟨d, h3, e4, o⟩ := v_odd h2
    obtain ⟨b, h5, e6⟩ := v_form [qr p.1, d] (by simp) h3
    refine ⟨_, _, h5, ?_, .form (b := b) (xs := [qr p.1, d]) rfl (by simp), one_two (seq_ddF _ _) cx o.c (hf_q _ _ _) (rc_two _ kx o.r)⟩
    generalize qr p.1 = x at *
    generalize qr p.2 = y at *
    cases b <;> simp [rsF] at e6 ⊢ <;> simp [R_law_spoilt_direction, m_law_spoilt_direction, e1, e2, e3, e4, e6]
  · obtain ⟨b, h5, e6⟩ := v_form [qr p.1, qr p.2, qr p.2] (by simp) h2
    refine ⟨_, _, h5, ?_, .form (b := b) (xs := [qr p.1, qr p.2, qr p.2]) rfl (by simp), one_len (seq_ddF _ _) (by simp) (hf_n _ (by simp)) (rc_row _ (by simp [kx, ky]) (by simp))⟩
    generalize qr p.1 = x at *
    generalize qr p.2 = y at *
    cases b <;> simp [rsF] at e6 ⊢ <;> simp [R_law_spoilt_direction, m_law_spoilt_direction, e1, e2, e3, e6]
  · obtain ⟨b, h5, e6⟩ := v_form [qr p.2] (by simp) h2
    refine ⟨_, _, h5, ?_, .form (b := b) (xs := [qr p.2]) rfl (by simp), one_len (seq_ddF _ _) (by simp) (hf_n _ (by simp)) (rc_row _ (by simp [kx, ky]) (by simp))⟩
    generalize qr p.1 = x at *
    generalize qr p.2 = y at *
    cases b <;> simp [rsF] at e6 ⊢ <;> simp [R_law_spoilt_direction, m_law_spoilt_direction, e1, e2, e3, e6]
  · obtain ⟨d, h3, e4, o⟩ := v_odd h2
    refine ⟨_, _, h3, ?_, .dat (d := d) rfl, o.t⟩
    generalize qr p.1 = x at *
    generalize qr p.2 = y at *
    simp [R_law_spoilt_direction, m_law_spoilt_direction, e1, e2, e3, e4]
structure Hv (d : D) : Prop where
  h : Hf d
  r : Rc 20000 4 d
theorem rc_up {d : D} (r : Rc 6500 3 d) : Rc 20000 4 d := ⟨r.fine, r.show_, Nat.le_trans r.rb (by decide), Nat.le_trans r.dep (by decide)⟩
theorem rc_non : Rc 6500 3 .non := ⟨rfl, by decide +kernel, by decide +kernel, by decide +kernel⟩
theorem hv_hd {o : Option Rat} (h : ∀ t, o = some t → Rb 20 t) : Hv (hd o) := by
  cases o with
  | none => exact ⟨.non, rc_up rc_non⟩
  | some t => exact ⟨.q ((h t rfl).mono (by decide)), rc_up (rc_qr ((h t rfl).mono (by decide)))⟩
theorem v_spoilt_half (h : Hand) : ∃ d h', R_law_spoilt_half [.hand] h = (.ret (.dat d), h') ∧ Hv d := by
  obtain ⟨t, h1, e1, t0, t1⟩ := take_ex (n := 4) h (lg9 (by decide))
  by_cases c : t = 0
  · subst c
    obtain ⟨d, h2, e2, o⟩ := v_odd h1
    exact ⟨d, h2, by simp [R_law_spoilt_half, m_law_spoilt_half, e1, e2], o.t.h, rc_up o.r⟩
  · obtain ⟨o, h2, e2, k⟩ := v_any_half h1
    refine ⟨hd o, h2, ?_, hv_hd k⟩
    generalize hd o = d at *
    simp [R_law_spoilt_half, m_law_spoilt_half, e1, e2, c]
/-- quarters -/
inductive Qt : D → Prop
  | q (z : Int) : Qt (.int z)
  | bl (b : Bool) : Qt (.bl b)
  | non : Qt .non
  | tup (xs : List D) : Qt (.tup xs)
  | lst (xs : List D) : Qt (.lst xs)
  | str (w : Str) : Qt (.str w)
theorem rc_i {z : Int} {n : Nat} (h : Bd n z) (l : n ≤ 1920) : Rc 6500 3 (.int z) := by
  have l1 := log_bd h l
  exact ⟨rfl, by simp [D.py, PyData.showable, l1], by simp [D.rb], by simp [D.dep]⟩
theorem v_quarters (h : Hand) : ∃ d h', R_law_quarters [.hand] h = (.ret (.dat d), h') ∧ Qt d ∧ Rc 6500 3 d := by
  obtain ⟨t, h1, e1, t0, t1⟩ := take_ex (n := 6) h (lg9 (by decide))
  have rc : ∀ d : D, d.fine = true → d.py.showable = true → d.rb ≤ 6500 → d.dep ≤ 3 → Rc 6500 3 d := fun d a b c e => ⟨a, b, c, e⟩
  by_cases c0 : t = 0
  · subst c0
    obtain ⟨u, h2, e2, u0, u1⟩ := take_ex (n := 6) h1 (lg9 (by decide))
    have k : u = 0 ∨ u = 1 ∨ u = 2 ∨ u = 3 ∨ u = 4 ∨ u = 5 := by omega
    rcases k with rfl | rfl | rfl | rfl | rfl | rfl
    · exact ⟨_, h2, by simp [R_law_quarters, m_law_quarters, e1, e2, atI, ixN] <;> rfl, .bl _, rc (.bl true) (by decide +kernel) (by decide +kernel) (by decide +kernel) (by decide +kernel)⟩
    · exact ⟨_, h2, by simp [R_law_quarters, m_law_quarters, e1, e2, atI, ixN] <;> rfl, .non, rc .non (by decide +kernel) (by decide +kernel) (by decide +kernel) (by decide +kernel)⟩
    · exact ⟨_, h2, by simp [R_law_quarters, m_law_quarters, e1, e2, atI, ixN] <;> rfl, .tup _, rc (.tup [.int 1, .int 1]) (by decide +kernel) (by decide +kernel) (by decide +kernel) (by decide +kernel)⟩
    · exact ⟨_, h2, by simp [R_law_quarters, m_law_quarters, e1, e2, atI, ixN] <;> rfl, .str _, rc (.str "1") (by decide +kernel) (by decide +kernel) (by decide +kernel) (by decide +kernel)⟩
    · exact ⟨_, h2, by simp [R_law_quarters, m_law_quarters, e1, e2, atI, ixN] <;> rfl, .bl _, rc (.bl false) (by decide +kernel) (by decide +kernel) (by decide +kernel) (by decide +kernel)⟩
    · exact ⟨_, h2, by simp [R_law_quarters, m_law_quarters, e1, e2, atI, ixN] <;> rfl, .lst _, rc (.lst [.int 1]) (by decide +kernel) (by decide +kernel) (by decide +kernel) (by decide +kernel)⟩
  · by_cases c1 : t = 1
    · subst c1
      obtain ⟨u, h2, e2, u0, u1⟩ := take_ex (n := 10 ^ 30) h1 ⟨by decide, by decide +kernel⟩
      refine ⟨.int (u - 5 * 10 ^ 29), h2, ?_, .q _, rc_i (n := 120) (bd_of (by omega) (by omega)) (by decide)⟩
      have m : mulC 5 100000000000000000000000000000 = true := by decide
      have c : powC 10 30 = true := by decide
      have c2 : powC 10 29 = true := by decide
      have e3 : R_law_take [.hand, .dat (.int 1000000000000000000000000000000)] h1 = (.ret (.dat (.int u)), h2) := e2
      simp [R_law_quarters, m_law_quarters, e1, e3, m, c, c2]
    · obtain ⟨u, h2, e2, u0, u1⟩ := take_ex (n := 11) h1 (lg9 (by decide))
      exact ⟨.int (u - 5), h2, by simp [R_law_quarters, m_law_quarters, e1, e2, c0, c1], .q _, rc_i (n := 10) (bd_of (by omega) (by omega)) (by decide)⟩
end Law
set_option Elab.async false
set_option linter.all false
set_option maxRecDepth 100000
set_option maxHeartbeats 8000000
set_option exponentiation.threshold 3000
namespace Law
open PySem PySem.Spec PyProof.Rows L2 Fd
abbrev xn (k : Nat) : Exn := ⟨k, []⟩
section
variable {x y u v t : Rat} {n m k : Nat}
theorem v_check_half (o : Option Rat) : R_check_half [hd o] = .ret (.dat (hd o)) := by
  cases o with
  | none => simp [R_check_half, m_check_half, hd]
  | some r => 
    have := r_qr r
    simp only [qr] at this
    simp [R_check_half, m_check_half, hd, qr, this]
theorem v_direction_by (o : Option Rat) (h : ∀ t, o = some t → Rb 1000 t) : R_direction_by [hd o] = .ret (.dat (.tup [qr (dX o), qr (dY o)])) := by
  cases o with
  | none =>
    have := v_check_half none
    simp only [hd] at this
    simp [R_direction_by, m_direction_by, hd, this, dX, dY, qr_0, qr_m1]
  | some t =>
    have c := v_check_half (some t)
    have b := h t rfl
    have h1 := denQ_nz t
    have dp := den_pos t
    have wz : t.num * t.num + t.den * t.den ≠ 0 := by
      have : 0 ≤ t.num * t.num := by rw [← Int.natAbs_mul_self]; exact Int.natCast_nonneg _
      have : 0 < (t.den : Int) * t.den := Int.mul_pos dp dp
      omega
    have wb : Bd 2001 (t.num * t.num + t.den * t.den) := ((b.num.mul b.num).add (b.den.mul b.den)).mono (by decide)
    have m1 : mulC (-2) t.num = true := Bd.mulC (n := 3) (m := 1000) (bd_of (by decide) (by decide)) b.num
    have m2 : mulC (-2 * t.num) t.den = true := ((bd_of (n := 3) (x := -2) (by decide) (by decide)).mul b.num).mulC b.den
    have q1 := q_lowest_terms (a := -2 * t.num * t.den) wz wb
    have q2 := q_lowest_terms (a := t.den * t.den - t.num * t.num) wz wb
    have e0 := rat_eq t
    have s0 := one_sq t
    have e1 : ((-2 * t.num * t.den : Int) : Rat) / ((t.num * t.num + t.den * t.den : Int) : Rat) = dX (some t) := by
      unfold dX
      simp only [Rat.intCast_mul, Rat.intCast_add]
      rw [show ((-2 : Int) : Rat) = -2 from rfl]
      generalize ((t.den : Int) : Rat) = d1 at *
      generalize (t.num : Rat) = a1 at *
      subst e0
      grind
    have e2 : ((t.den * t.den - t.num * t.num : Int) : Rat) / ((t.num * t.num + t.den * t.den : Int) : Rat) = dY (some t) := by
      unfold dY
      simp only [Rat.intCast_mul, Rat.intCast_add, Rat.intCast_sub]
      generalize ((t.den : Int) : Rat) = d1 at *
      generalize (t.num : Rat) = a1 at *
      subst e0
      grind
    rw [e1] at q1
    rw [e2] at q2
    simp only [hd, qr] at c
    simp [R_direction_by, m_direction_by, hd, qr, c, b.num.mulC b.num, b.den.mulC b.den, m1, m2, q1, q2]
theorem v_turn_along (hx : Rb n x) (hy : Rb n y) (hu : Rb m u) (hv : Rb m v) (l : n + m < 4000 := by omega) : R_turn_along [.tup [qr x, qr y], .tup [qr u, qr v]] = .ret (.dat (.tup [qr (x * v + y * u), qr (y * v - x * u)])) := by
  simp [R_turn_along, m_turn_along, r_times hx hv, r_times hy hu, r_times hy hv, r_times hx hu, r_plus (hx.mul hv) (hy.mul hu), r_minus (hy.mul hv) (hx.mul hu)]
def halfOf (x y : Rat) : Option Rat := if y = -1 then none else some (-(x / (1 + y)))
theorem v_half_of {d : D} (c : R_check_direction [d] = .ret (.dat (.tup [qr x, qr y]))) (hx : Rb n x) (hy : Rb n y) (l : n < 1000 := by omega) : R_half_of [d] = .ret (.dat (hd (halfOf x y))) := by
  unfold halfOf
  by_cases z : y = -1
  · subst z
    simp [R_half_of, m_half_of, c, eq_qrm1, hd]
  · have z1 : (1 + y) ≠ 0 := by grind
    have p := r_plus rb1 hy
    rw [qr_1] at p
    have q := r_over hx (rb1.add hy) z1
    simp [R_half_of, m_half_of, c, eq_qrm1, z, hd, p, q, r_negative]
def addH : Option Rat → Option Rat → Option Rat
  | none, none => some 0
  | none, some t => if t = 0 then none else some (-1 / t)
  | some t, none => if t = 0 then none else some (-1 / t)
  | some t, some u => if 1 - t * u = 0 then none else some ((t + u) / (1 - t * u))
theorem v_add_halves (o p : Option Rat) (ho : ∀ t, o = some t → Rb 1000 t) (hp : ∀ t, p = some t → Rb 1000 t) : R_add_halves [hd o, hd p] = .ret (.dat (hd (addH o p))) := by
  have c1 := v_check_half o
  have c2 := v_check_half p
  cases o with
  | none =>
    cases p with
    | none =>
      simp only [hd] at c1
      simp [R_add_halves, m_add_halves, hd, addH, c1, qr_0]
    | some t =>
      have h := hp t rfl
      simp only [hd] at c1 c2
      by_cases z : t = 0
      · subst z
        simp [R_add_halves, m_add_halves, hd, addH, c1, c2, eq_qr0]
      · have q := r_over rbm1 h z
        rw [qr_m1] at q
        simp [R_add_halves, m_add_halves, hd, addH, c1, c2, eq_qr0, z, q]
  | some t =>
    have h := ho t rfl
    cases p with
    | none =>
      simp only [hd] at c1 c2
      by_cases z : t = 0
      · subst z
        simp [R_add_halves, m_add_halves, hd, addH, c1, c2, eq_qr0]
      · have q := r_over rbm1 h z
        rw [qr_m1] at q
        simp [R_add_halves, m_add_halves, hd, addH, c1, c2, eq_qr0, z, q]
    | some u =>
      have k := hp u rfl
      have e1 := r_times h k
      have e2 := r_minus rb1 (h.mul k)
      rw [qr_1] at e2
      simp only [hd] at c1 c2
      by_cases z : 1 - t * u = 0
      · simp [R_add_halves, m_add_halves, hd, addH, c1, c2, eq_qr0, z, e1, e2]
      · have e3 := r_plus h k
        have e4 := r_over (h.add k) (rb1.sub (h.mul k)) z
        simp [R_add_halves, m_add_halves, hd, addH, c1, c2, eq_qr0, z, e1, e2, e3, e4]
def qX (k : Nat) : Rat := match k with | 0 => 0 | 1 => -1 | 2 => 0 | _ => 1
def qY (k : Nat) : Rat := match k with | 0 => 1 | 1 => 0 | 2 => -1 | _ => 0
theorem q_cases (z : Int) : z.fmod 4 = 0 ∨ z.fmod 4 = 1 ∨ z.fmod 4 = 2 ∨ z.fmod 4 = 3 := by
  rw [Int.fmod_eq_emod_of_nonneg _ (by decide)]
  omega
theorem v_quarter (z : Int) : R_quarter_direction [.int z] = .ret (.dat (.tup [qr (qX (z.fmod 4).toNat), qr (qY (z.fmod 4).toNat)])) := by
  have m : modC z 4 = true := modC_of (by decide)
  rcases q_cases z with h | h | h | h
  all_goals
    simp [R_quarter_direction, m_quarter_direction, m, h, atI, ixN, qX, qY, qr_0, qr_1, qr_m1]
theorem q_rb (k : Nat) : Rb 2 (qX k) ∧ Rb 2 (qY k) := by
  match k with
  | 0 => exact ⟨rb0, rb1⟩
  | 1 => exact ⟨rbm1, rb0⟩
  | 2 => exact ⟨rb0, rbm1⟩
  | k + 3 => exact ⟨rb1, rb0⟩
end
/-- what a half comes to -/
theorem Hf.ex {d : D} (h : Hf d) : (∃ o : Option Rat, d = hd o ∧ (∀ t, o = some t → Rb 400 t) ∧ R_law_is_half [d] = rT) ∨ (R_check_half [d] = .exc (xn 3) ∧ R_law_is_half [d] = rF) := by
  cases h with
  | non => exact .inl ⟨none, rfl, (by intro t z; cases z), (by simp [R_law_is_half, m_law_is_half])⟩
  | q r =>
    rename_i t
    refine .inl ⟨some t, rfl, fun u z => by cases z; exact r, ?_⟩
    have := lr_qr t r
    simp only [qr] at this
    simp [R_law_is_half, m_law_is_half, qr, this]
  | no a b c =>
    refine .inr ⟨?_, ?_⟩
    · simp [R_check_half, m_check_half, a, b, raise0F]
    · simp [R_law_is_half, m_law_is_half, a, c]
theorem sz_dn {n : Nat} {o : Option Rat} (h : ∀ t, o = some t → Rb n t) : Rb (4 * n + 10) (dX o) ∧ Rb (4 * n + 10) (dY o) := by
  cases o with
  | none => exact ⟨rb0.mono (by omega), rbm1.mono (by omega)⟩
  | some t =>
    have k := h t rfl
    have a := rb1.add (k.mul k)
    have z := one_sq t
    exact ⟨((rbm2.mul k).div a z).mono (by omega), ((rb1.sub (k.mul k)).div a z).mono (by omega)⟩
theorem cd_ok {d x y : D} (e : seqD d = some [x, y]) (h : R_is_direction [d] = rT) : R_check_direction [d] = .ret (.dat (.tup [x, y])) := by
  rcases seq_cases e with rfl | rfl <;> simp [R_check_direction, m_check_direction, h, raise0F]
theorem cd_no {d : D} (h : R_is_direction [d] = rF) : R_check_direction [d] = .exc (xn 2) := by
  simp [R_check_direction, m_check_direction, h, raise0F]
theorem cs_ok {d x y : D} (e : seqD d = some [x, y]) (h : R_is_spot [d] = rT) : R_check_spot [d] = .ret (.dat (.tup [x, y])) := by
  rcases seq_cases e with rfl | rfl <;> simp [R_check_spot, m_check_spot, h, raise0F]
theorem cs_no {d : D} (h : R_is_spot [d] = rF) : R_check_spot [d] = .exc (xn 1) := by
  simp [R_check_spot, m_check_spot, h, raise0F]
theorem v_truth (t : Bool) : R_law_truth [.bl t, .bl t] = .ret (.dat (.bl true)) := by cases t <;> simp [R_law_truth, m_law_truth]
theorem v_same_row (x y : Rat) : R_law_same_row [.tup [qr x, qr y], .tup [qr x, qr y]] = .ret (.dat (.bl true)) := by
  have r2 : rangeL 0 2 = [.dat (.int 0), .dat (.int 1)] := rfl
  have e := lc_same (l := [.dat (.int 0), .dat (.int 1)]) (f := setV 2) (tt := notT (bnd (bnd (consA (m2 (getV 0) (getV 2) ixM) (consA (m2 (getV 1) (getV 2) ixM) (pur []))) (callM 2 R_law_same [])) truthM)) (me := getV 2) (vs := [2])
    (st := ⟨[some (.dat (.tup [qr x, qr y])), some (.dat (.tup [qr x, qr y])), none], [], none⟩) [.dat (.int 0), .dat (.int 1)] (fun z hz => by
      simp only [List.mem_cons, List.not_mem_nil, or_false] at hz
      rcases hz with rfl | rfl
      · exact ⟨_, _, rfl, by simp [at20, v_same]; rfl, by simp⟩
      · exact ⟨_, _, rfl, by simp [at21, v_same]; rfl, by simp⟩)
  simp [R_law_same_row, m_law_same_row, subTy, r2, e]
end Law
set_option Elab.async false
set_option linter.all false
set_option maxRecDepth 100000
set_option maxHeartbeats 8000000
set_option exponentiation.threshold 3000
namespace Law
open PySem PySem.Spec PyProof.Rows L2 Fd
theorem One.dr {d : D} (o : One d) : (∃ x y : Rat, Rb 400 x ∧ Rb 400 y ∧ R_law_is_direction [d] = rT ∧ R_check_direction [d] = .ret (.dat (.tup [qr x, qr y]))) ∨ (R_law_is_direction [d] = rF ∧ R_check_direction [d] = .exc (xn 2)) := by
  obtain ⟨b, e1, e2, h⟩ := o.dir
  cases b with
  | true =>
    obtain ⟨x, y, e, bx, by', one⟩ := h rfl
    exact .inl ⟨x, y, bx, by', e2, cd_ok e e1⟩
  | false => exact .inr ⟨e2, cd_no e1⟩
/-! ## what is told -/
section
variable {a b c d e v : D}
theorem told_let (h : R_law_called [a, b, c, d, e] = .ret (.dat v)) : okD (.str "let") = true ∧ R_law_told [a, b, c, d, e] = .ret (.dat (.str "let")) := by
  refine ⟨by decide +kernel, ?_⟩
  simp [R_law_told, m_law_told, tryZ, h]
theorem told_1 (h : R_law_called [a, b, c, d, e] = .exc (xn 1)) : okD (.str "spot") = true ∧ R_law_told [a, b, c, d, e] = .ret (.dat (.str "spot")) := by
  refine ⟨by decide +kernel, ?_⟩
  simp [R_law_told, m_law_told, tryZ, hitC, exsOf, clrS, h]
theorem told_2 (h : R_law_called [a, b, c, d, e] = .exc (xn 2)) : okD (.str "direction") = true ∧ R_law_told [a, b, c, d, e] = .ret (.dat (.str "direction")) := by
  refine ⟨by decide +kernel, ?_⟩
  simp [R_law_told, m_law_told, tryZ, hitC, exsOf, clrS, h]
theorem told_3 (h : R_law_called [a, b, c, d, e] = .exc (xn 3)) : okD (.str "half") = true ∧ R_law_told [a, b, c, d, e] = .ret (.dat (.str "half")) := by
  refine ⟨by decide +kernel, ?_⟩
  simp [R_law_told, m_law_told, tryZ, hitC, exsOf, clrS, h]
theorem told_4 (h : R_law_called [a, b, c, d, e] = .exc (xn 4)) : okD (.str "quarters") = true ∧ R_law_told [a, b, c, d, e] = .ret (.dat (.str "quarters")) := by
  refine ⟨by decide +kernel, ?_⟩
  simp [R_law_told, m_law_told, tryZ, hitC, exsOf, clrS, h]
end
section
variable {th ot hf q v : D}
theorem cal_0 (e : R_check_spot [th] = .ret (.dat v)) : R_law_called [.int 0, th, ot, hf, q] = .ret (.dat v) := by simp [R_law_called, m_law_called, e]
theorem cal_1 (e : R_check_direction [th] = .ret (.dat v)) : R_law_called [.int 1, th, ot, hf, q] = .ret (.dat v) := by simp [R_law_called, m_law_called, e]
theorem cal_2 (e : R_direction_by [hf] = .ret (.dat v)) : R_law_called [.int 2, th, ot, hf, q] = .ret (.dat v) := by simp [R_law_called, m_law_called, e]
theorem cal_3 (e : R_half_of [th] = .ret (.dat v)) : R_law_called [.int 3, th, ot, hf, q] = .ret (.dat v) := by simp [R_law_called, m_law_called, e]
theorem cal_4 (e : R_add_halves [hf, th] = .ret (.dat v)) : R_law_called [.int 4, th, ot, hf, q] = .ret (.dat v) := by simp [R_law_called, m_law_called, e]
theorem cal_5 (e : R_turned_by [th, hf] = .ret (.dat v)) : R_law_called [.int 5, th, ot, hf, q] = .ret (.dat v) := by simp [R_law_called, m_law_called, e]
theorem cal_6 (e : R_turned_quarters [th, q] = .ret (.dat v)) : R_law_called [.int 6, th, ot, hf, q] = .ret (.dat v) := by simp [R_law_called, m_law_called, e]
theorem cal_7 (e : R_quarter_direction [q] = .ret (.dat v)) : R_law_called [.int 7, th, ot, hf, q] = .ret (.dat v) := by simp [R_law_called, m_law_called, e]
theorem cal_8 (e : R_opposite_of [th] = .ret (.dat v)) : R_law_called [.int 8, th, ot, hf, q] = .ret (.dat v) := by simp [R_law_called, m_law_called, e]
theorem cal_9 (e : R_mirrored_direction [th] = .ret (.dat v)) : R_law_called [.int 9, th, ot, hf, q] = .ret (.dat v) := by simp [R_law_called, m_law_called, e]
theorem cal_10 (e : R_cosine_between [th, ot] = .ret (.dat v)) : R_law_called [.int 10, th, ot, hf, q] = .ret (.dat v) := by simp [R_law_called, m_law_called, e]
theorem cal_11 (e : R_sine_between [th, ot] = .ret (.dat v)) : R_law_called [.int 11, th, ot, hf, q] = .ret (.dat v) := by simp [R_law_called, m_law_called, e]
end
/-! ## what is due -/
theorem Qt.wh {q : D} (k : Qt q) : ∃ b : Bool, (∀ s : S, s.env[4]? = some (some (.dat q)) → andV (bnd (getV 4) (isiM .int)) (bnd (bnd (getV 4) (isiM .bool)) notM) s = .ok (RB b) s) ∧ ((b = true ∧ ∃ z, q = .int z) ∨ (b = false ∧ R_quarter_direction [q] = .exc (xn 4))) := by
  cases k with
  | q z => exact ⟨true, fun s g => by simp [g, subTy], .inl ⟨rfl, z, rfl⟩⟩
  | bl b => exact ⟨false, fun s g => by simp [g, subTy], .inr ⟨rfl, by simp [R_quarter_direction, m_quarter_direction, raise0F]⟩⟩
  | non => exact ⟨false, fun s g => by simp [g, subTy], .inr ⟨rfl, by simp [R_quarter_direction, m_quarter_direction, raise0F]⟩⟩
  | tup b => exact ⟨false, fun s g => by simp [g, subTy], .inr ⟨rfl, by simp [R_quarter_direction, m_quarter_direction, raise0F]⟩⟩
  | lst b => exact ⟨false, fun s g => by simp [g, subTy], .inr ⟨rfl, by simp [R_quarter_direction, m_quarter_direction, raise0F]⟩⟩
  | str b => exact ⟨false, fun s g => by simp [g, subTy], .inr ⟨rfl, by simp [R_quarter_direction, m_quarter_direction, raise0F]⟩⟩
def Fits (a : Int) (th ot hf q : D) : Prop := ∃ w : Str, (okD (.str w) = true ∧ R_law_told [.int a, th, ot, hf, q] = .ret (.dat (.str w))) ∧ R_law_due [.int a, th, ot, hf, q] = .ret (.dat (.str w))
section
variable {th ot hf q : D} (t : One th) (o : One ot) (h : Hf hf) (k : Qt q)
include t o h k
theorem act_0 : Fits 0 th ot hf q := by
  obtain ⟨b, wq, kq⟩ := k.wh
  have w := wq ⟨[some (.dat (.int 0)), some (.dat th), some (.dat ot), some (.dat hf), some (.dat q), none], [], none⟩ rfl
  obtain ⟨c, e1, e2, e3⟩ := t.sp
  cases c with
  | true =>
    obtain ⟨x, y, e⟩ := e3 rfl
    have e4 := cs_ok e e1
    exact ⟨_, told_let (cal_0 e4), (by simp [R_law_due, m_law_due, w, e2, -e_andV])⟩
  | false =>
    have e4 := cs_no e1
    exact ⟨_, told_1 (by simp [R_law_called, m_law_called, e4]), (by simp [R_law_due, m_law_due, w, e2, -e_andV])⟩
theorem act_1 : Fits 1 th ot hf q := by
  obtain ⟨b, wq, kq⟩ := k.wh
  have w := wq ⟨[some (.dat (.int 1)), some (.dat th), some (.dat ot), some (.dat hf), some (.dat q), none], [], none⟩ rfl
  rcases t.dr with ⟨x, y, bx, by', e1, e2⟩ | ⟨e1, e2⟩
  · exact ⟨_, told_let (cal_1 e2), (by simp [R_law_due, m_law_due, w, e1, -e_andV])⟩
  · exact ⟨_, told_2 (by simp [R_law_called, m_law_called, e2]), (by simp [R_law_due, m_law_due, w, e1, -e_andV])⟩
theorem act_2 : Fits 2 th ot hf q := by
  obtain ⟨b, wq, kq⟩ := k.wh
  have w := wq ⟨[some (.dat (.int 2)), some (.dat th), some (.dat ot), some (.dat hf), some (.dat q), none], [], none⟩ rfl
  rcases h.ex with ⟨p, rfl, bp, e1⟩ | ⟨e2, e1⟩
  · have e2 := v_direction_by p (fun t ht => (bp t ht).mono (by decide))
    exact ⟨_, told_let (cal_2 e2), (by simp [R_law_due, m_law_due, w, e1, -e_andV])⟩
  · have e3 : R_direction_by [hf] = .exc (xn 3) := by simp [R_direction_by, m_direction_by, e2]
    exact ⟨_, told_3 (by simp [R_law_called, m_law_called, e3]), (by simp [R_law_due, m_law_due, w, e1, -e_andV])⟩
theorem act_3 : Fits 3 th ot hf q := by
  obtain ⟨b, wq, kq⟩ := k.wh
  have w := wq ⟨[some (.dat (.int 3)), some (.dat th), some (.dat ot), some (.dat hf), some (.dat q), none], [], none⟩ rfl
  rcases t.dr with ⟨x, y, bx, by', e1, e2⟩ | ⟨e1, e2⟩
  · have e3 := v_half_of e2 bx by'
    exact ⟨_, told_let (cal_3 e3), (by simp [R_law_due, m_law_due, w, e1, -e_andV])⟩
  · have e3 : R_half_of [th] = .exc (xn 2) := by simp [R_half_of, m_half_of, e2]
    exact ⟨_, told_2 (by simp [R_law_called, m_law_called, e3]), (by simp [R_law_due, m_law_due, w, e1, -e_andV])⟩
theorem act_5 : Fits 5 th ot hf q := by
  obtain ⟨b, wq, kq⟩ := k.wh
  have w := wq ⟨[some (.dat (.int 5)), some (.dat th), some (.dat ot), some (.dat hf), some (.dat q), none], [], none⟩ rfl
  rcases t.dr with ⟨x, y, bx, by', e1, e2⟩ | ⟨e1, e2⟩
  · rcases h.ex with ⟨p, rfl, bp, f1⟩ | ⟨f2, f1⟩
    · have f2 := v_direction_by p (fun t ht => (bp t ht).mono (by decide))
      have f3 := v_turn_along bx by' (sz_dn bp).1 (sz_dn bp).2
      obtain ⟨v, e3⟩ : ∃ v, R_turned_by [th, hd p] = .ret (.dat v) := ⟨_, by
        simp [R_turned_by, m_turned_by, e2, f2, f3]
        rfl⟩
      exact ⟨_, told_let (cal_5 e3), (by simp [R_law_due, m_law_due, w, e1, f1, -e_andV])⟩
    · have e4 : R_direction_by [hf] = .exc (xn 3) := by simp [R_direction_by, m_direction_by, f2]
      have e3 : R_turned_by [th, hf] = .exc (xn 3) := by simp [R_turned_by, m_turned_by, e2, e4]
      exact ⟨_, told_3 (by simp [R_law_called, m_law_called, e3]), (by simp [R_law_due, m_law_due, w, e1, f1, -e_andV])⟩
  · have e3 : R_turned_by [th, hf] = .exc (xn 2) := by simp [R_turned_by, m_turned_by, e2]
    exact ⟨_, told_2 (by simp [R_law_called, m_law_called, e3]), (by simp [R_law_due, m_law_due, w, e1, -e_andV])⟩
theorem act_6 : Fits 6 th ot hf q := by
  obtain ⟨b, wq, kq⟩ := k.wh
  have w := wq ⟨[some (.dat (.int 6)), some (.dat th), some (.dat ot), some (.dat hf), some (.dat q), none], [], none⟩ rfl
  rcases t.dr with ⟨x, y, bx, by', e1, e2⟩ | ⟨e1, e2⟩
  · rcases kq with ⟨rfl, z, rfl⟩ | ⟨rfl, k3⟩
    · have e4 := v_quarter z
      have f3 := v_turn_along bx by' (q_rb (z.fmod 4).toNat).1 (q_rb (z.fmod 4).toNat).2
      obtain ⟨v, e3⟩ : ∃ v, R_turned_quarters [th, .int z] = .ret (.dat v) := ⟨_, by
        simp [R_turned_quarters, m_turned_quarters, e2, e4, f3]
        rfl⟩
      exact ⟨_, told_let (cal_6 e3), (by simp [R_law_due, m_law_due, w, e1, -e_andV])⟩
    · have e3 : R_turned_quarters [th, q] = .exc (xn 4) := by simp [R_turned_quarters, m_turned_quarters, e2, k3]
      exact ⟨_, told_4 (by simp [R_law_called, m_law_called, e3]), (by simp [R_law_due, m_law_due, w, e1, -e_andV])⟩
  · have e3 : R_turned_quarters [th, q] = .exc (xn 2) := by simp [R_turned_quarters, m_turned_quarters, e2]
    exact ⟨_, told_2 (by simp [R_law_called, m_law_called, e3]), (by simp [R_law_due, m_law_due, w, e1, -e_andV])⟩
theorem act_7 : Fits 7 th ot hf q := by
  obtain ⟨b, wq, kq⟩ := k.wh
  have w := wq ⟨[some (.dat (.int 7)), some (.dat th), some (.dat ot), some (.dat hf), some (.dat q), none], [], none⟩ rfl
  rcases kq with ⟨rfl, z, rfl⟩ | ⟨rfl, k3⟩
  · have e4 := v_quarter z
    exact ⟨_, told_let (cal_7 e4), (by simp [R_law_due, m_law_due, w, Nat.add_zero, -e_andV])⟩
  · exact ⟨_, told_4 (by simp [R_law_called, m_law_called, k3]), (by simp [R_law_due, m_law_due, w, Nat.add_zero, -e_andV])⟩
theorem act_8 : Fits 8 th ot hf q := by
  obtain ⟨b, wq, kq⟩ := k.wh
  have w := wq ⟨[some (.dat (.int 8)), some (.dat th), some (.dat ot), some (.dat hf), some (.dat q), none], [], none⟩ rfl
  rcases t.dr with ⟨x, y, bx, by', e1, e2⟩ | ⟨e1, e2⟩
  · have e3 : R_opposite_of [th] = .ret (.dat (.tup [qr (-x), qr (-y)])) := by simp [R_opposite_of, m_opposite_of, e2, r_negative]
    exact ⟨_, told_let (cal_8 e3), (by simp [R_law_due, m_law_due, w, e1, -e_andV])⟩
  · have e3 : R_opposite_of [th] = .exc (xn 2) := by simp [R_opposite_of, m_opposite_of, e2]
    exact ⟨_, told_2 (by simp [R_law_called, m_law_called, e3]), (by simp [R_law_due, m_law_due, w, e1, -e_andV])⟩
theorem act_9 : Fits 9 th ot hf q := by
  obtain ⟨b, wq, kq⟩ := k.wh
  have w := wq ⟨[some (.dat (.int 9)), some (.dat th), some (.dat ot), some (.dat hf), some (.dat q), none], [], none⟩ rfl
  rcases t.dr with ⟨x, y, bx, by', e1, e2⟩ | ⟨e1, e2⟩
  · have e3 : R_mirrored_direction [th] = .ret (.dat (.tup [qr (-x), qr y])) := by simp [R_mirrored_direction, m_mirrored_direction, e2, r_negative]
    exact ⟨_, told_let (cal_9 e3), (by simp [R_law_due, m_law_due, w, e1, -e_andV])⟩
  · have e3 : R_mirrored_direction [th] = .exc (xn 2) := by simp [R_mirrored_direction, m_mirrored_direction, e2]
    exact ⟨_, told_2 (by simp [R_law_called, m_law_called, e3]), (by simp [R_law_due, m_law_due, w, e1, -e_andV])⟩
theorem act_10 : Fits 10 th ot hf q := by
  obtain ⟨b, wq, kq⟩ := k.wh
  have w := wq ⟨[some (.dat (.int 10)), some (.dat th), some (.dat ot), some (.dat hf), some (.dat q), none], [], none⟩ rfl
  rcases t.dr with ⟨x, y, bx, by', e1, e2⟩ | ⟨e1, e2⟩
  · rcases o.dr with ⟨u, v, bu, bv, f1, f2⟩ | ⟨f1, f2⟩
    · have e3 : ∃ r : Rat, R_cosine_between [th, ot] = .ret (.dat (qr r)) := ⟨_, by
        simp [R_cosine_between, m_cosine_between, e2, f2, at20, at21, r_times bx bu, r_times by' bv, r_plus (bx.mul bu) (by'.mul bv)]
        rfl⟩
      obtain ⟨r, e3⟩ := e3
      exact ⟨_, told_let (cal_10 e3), (by simp [R_law_due, m_law_due, w, e1, f1, -e_andV])⟩
    · have e3 : R_cosine_between [th, ot] = .exc (xn 2) := by simp [R_cosine_between, m_cosine_between, e2, f2]
      exact ⟨_, told_2 (by simp [R_law_called, m_law_called, e3]), (by simp [R_law_due, m_law_due, w, e1, f1, -e_andV])⟩
  · have e3 : R_cosine_between [th, ot] = .exc (xn 2) := by simp [R_cosine_between, m_cosine_between, e2]
    exact ⟨_, told_2 (by simp [R_law_called, m_law_called, e3]), (by simp [R_law_due, m_law_due, w, e1, -e_andV])⟩
theorem act_11 : Fits 11 th ot hf q := by
  obtain ⟨b, wq, kq⟩ := k.wh
  have w := wq ⟨[some (.dat (.int 11)), some (.dat th), some (.dat ot), some (.dat hf), some (.dat q), none], [], none⟩ rfl
  rcases t.dr with ⟨x, y, bx, by', e1, e2⟩ | ⟨e1, e2⟩
  · rcases o.dr with ⟨u, v, bu, bv, f1, f2⟩ | ⟨f1, f2⟩
    · have e3 : ∃ r : Rat, R_sine_between [th, ot] = .ret (.dat (qr r)) := ⟨_, by
        simp [R_sine_between, m_sine_between, e2, f2, at20, at21, r_times bx bv, r_times by' bu, r_minus (bx.mul bv) (by'.mul bu)]
        rfl⟩
      obtain ⟨r, e3⟩ := e3
      exact ⟨_, told_let (cal_11 e3), (by simp [R_law_due, m_law_due, w, e1, f1, -e_andV])⟩
    · have e3 : R_sine_between [th, ot] = .exc (xn 2) := by simp [R_sine_between, m_sine_between, e2, f2]
      exact ⟨_, told_2 (by simp [R_law_called, m_law_called, e3]), (by simp [R_law_due, m_law_due, w, e1, f1, -e_andV])⟩
  · have e3 : R_sine_between [th, ot] = .exc (xn 2) := by simp [R_sine_between, m_sine_between, e2]
    exact ⟨_, told_2 (by simp [R_law_called, m_law_called, e3]), (by simp [R_law_due, m_law_due, w, e1, -e_andV])⟩
end
theorem act_4 {th ot hf q : D} (t : Hf th) (h : Hf hf) (k : Qt q) : Fits 4 th ot hf q := by
  obtain ⟨b, wq, kq⟩ := k.wh
  have w := wq ⟨[some (.dat (.int 4)), some (.dat th), some (.dat ot), some (.dat hf), some (.dat q), none], [], none⟩ rfl
  rcases h.ex with ⟨p, rfl, bp, e1⟩ | ⟨e2, e1⟩
  · rcases t.ex with ⟨p2, rfl, bp2, f1⟩ | ⟨f2, f1⟩
    · have e3 := v_add_halves p p2 (fun t ht => (bp t ht).mono (by decide)) (fun t ht => (bp2 t ht).mono (by decide))
      exact ⟨_, told_let (cal_4 e3), (by simp [R_law_due, m_law_due, w, e1, f1, -e_andV])⟩
    · have e2 := v_check_half p
      have e3 : R_add_halves [hd p, th] = .exc (xn 3) := by simp [R_add_halves, m_add_halves, e2, f2]
      exact ⟨_, told_3 (by simp [R_law_called, m_law_called, e3]), (by simp [R_law_due, m_law_due, w, e1, f1, -e_andV])⟩
  · have e3 : R_add_halves [hf, th] = .exc (xn 3) := by simp [R_add_halves, m_add_halves, e2]
    exact ⟨_, told_3 (by simp [R_law_called, m_law_called, e3]), (by simp [R_law_due, m_law_due, w, e1, -e_andV])⟩
theorem v_acts {th ot hf q : D} {a : Int} (a0 : 0 ≤ a) (a1 : a < 12) (c1 : a = 4 → Hf th) (c2 : a ≠ 4 → One th) (o : One ot) (h : Hf hf) (k : Qt q) : Fits a th ot hf q := by
  have c : a = 4 ∨ a = 0 ∨ a = 1 ∨ a = 2 ∨ a = 3 ∨ a = 5 ∨ a = 6 ∨ a = 7 ∨ a = 8 ∨ a = 9 ∨ a = 10 ∨ a = 11 := by omega
  rcases c with rfl | rfl | rfl | rfl | rfl | rfl | rfl | rfl | rfl | rfl | rfl | rfl
  · exact act_4 (c1 rfl) h k
  · exact act_0 (c2 (by decide)) o h k
  · exact act_1 (c2 (by decide)) o h k
  · exact act_2 (c2 (by decide)) o h k
  · exact act_3 (c2 (by decide)) o h k
  · exact act_5 (c2 (by decide)) o h k
  · exact act_6 (c2 (by decide)) o h k
  · exact act_7 (c2 (by decide)) o h k
  · exact act_8 (c2 (by decide)) o h k
  · exact act_9 (c2 (by decide)) o h k
  · exact act_10 (c2 (by decide)) o h k
  · exact act_11 (c2 (by decide)) o h k
end Law
set_option Elab.async false
set_option linter.all false
set_option maxRecDepth 100000
set_option maxHeartbeats 8000000
set_option exponentiation.threshold 3000
namespace Law
open PySem PySem.Spec PyProof.Rows L2 Fd
/-! ## the law -/
theorem mem_rangeL' {lo : Int} {n : Nat} {x : SV} (h : x ∈ rangeL lo n) : ∃ i : Int, x = .dat (.int i) ∧ lo ≤ i ∧ i < lo + n := by
  obtain ⟨i, hi, rfl⟩ := List.mem_map.mp h
  have := List.mem_range.mp hi
  exact ⟨_, rfl, by omega, by omega⟩
abbrev sd (d : D) : Option SV := some (.dat d)
def lS (x2 x3 x4 x5 x6 x7 x8 x9 : Option SV) (h : Hand) : S := ⟨[none, some .hand, x2, x3, x4, x5, x6, x7, x8, x9], [], some h⟩
noncomputable abbrev lb0 : M Fl := (asgF (bnd (bnd (consA (getV 1) (pur [])) (callH 1 R_law_spoilt_direction [])) frz) (setV 3))
noncomputable abbrev lb1 : M Fl := (asgF (bnd (bnd (consA (getV 1) (pur [])) (callH 1 R_law_spoilt_direction [])) frz) (setV 4))
noncomputable abbrev lb2 : M Fl := (asgF (bnd (bnd (consA (getV 1) (pur [])) (callH 1 R_law_spoilt_half [])) frz) (setV 5))
noncomputable abbrev lb3 : M Fl := (asgF (bnd (bnd (consA (getV 1) (pur [])) (callH 1 R_law_quarters [])) frz) (setV 6))
noncomputable abbrev lb4 : M Fl := (asgF (bnd (bnd (bnd (consA (getV 3) (consA (getV 4) (consA (getV 5) (consA (getV 6) (pur []))))) lstM) reprM) frz) (setV 7))
noncomputable abbrev lb5 : M Fl := (ifF (orT (notT (bnd (bnd (consA (bnd (consA (getV 3) (pur [])) (callM 1 R_is_spot [])) (consA (bnd (consA (getV 3) (pur [])) (callM 1 R_law_is_spot [])) (pur []))) (callM 2 R_law_truth [])) truthM)) (notT (bnd (bnd (consA (bnd (consA (getV 3) (pur [])) (callM 1 R_is_direction [])) (consA (bnd (consA (getV 3) (pur [])) (callM 1 R_law_is_direction [])) (pur []))) (callM 2 R_law_truth [])) truthM))) (retF (pur (RB false))) (pur .nx))
noncomputable abbrev lb6 : M Fl := (forF (bnd (consB (pur (RI 12)) (pur [])) rng1) (setV 8) (seqF (asgF (ifE (andT (bnd (m2 (getV 8) (pur (RI 4)) eqM) asB) (bnd (m2 (m2 (getV 2) (pur (RI 2)) modM) (pur (RI 0)) eqM) asB)) (getV 5) (getV 3)) (setV 9))
    (ifF (bnd (m2 (bnd (consA (getV 8) (consA (getV 9) (consA (getV 4) (consA (getV 5) (consA (getV 6) (pur [])))))) (callM 5 R_law_told [])) (bnd (consA (getV 8) (consA (getV 9) (consA (getV 4) (consA (getV 5) (consA (getV 6) (pur [])))))) (callM 5 R_law_due [])) neM) asB) (retF (pur (RB false))) (pur .nx))))
noncomputable abbrev lb7 : M Fl := (ifF (andT (bnd (bnd (consA (getV 3) (pur [])) (callM 1 R_law_is_spot [])) truthM) (notT (bnd (bnd (consA (bnd (consA (getV 3) (pur [])) (callM 1 R_check_spot [])) (consA (bnd (consB (getV 3) (pur [])) tupleM) (pur []))) (callM 2 R_law_same_row [])) truthM))) (retF (pur (RB false))) (pur .nx))
noncomputable abbrev lb8 : M Fl := (ifF (andT (bnd (bnd (consA (getV 3) (pur [])) (callM 1 R_law_is_direction [])) truthM) (notT (bnd (bnd (consA (bnd (consA (getV 3) (pur [])) (callM 1 R_check_direction [])) (consA (bnd (consB (getV 3) (pur [])) tupleM) (pur []))) (callM 2 R_law_same_row [])) truthM))) (retF (pur (RB false))) (pur .nx))
noncomputable abbrev lb9 : M Fl := (ifF (bnd (m2 (bnd (bnd (consA (getV 3) (consA (getV 4) (consA (getV 5) (consA (getV 6) (pur []))))) lstM) reprM) (getV 7) neM) asB) (retF (pur (RB false))) (pur .nx))
noncomputable abbrev lbA : M Fl := (seqF (asgF (ifE (andT (bnd (m2 (getV 8) (pur (RI 4)) eqM) asB) (bnd (m2 (m2 (getV 2) (pur (RI 2)) modM) (pur (RI 0)) eqM) asB)) (getV 5) (getV 3)) (setV 9))
    (ifF (bnd (m2 (bnd (consA (getV 8) (consA (getV 9) (consA (getV 4) (consA (getV 5) (consA (getV 6) (pur [])))))) (callM 5 R_law_told [])) (bnd (consA (getV 8) (consA (getV 9) (consA (getV 4) (consA (getV 5) (consA (getV 6) (pur [])))))) (callM 5 R_law_due [])) neM) asB) (retF (pur (RB false))) (pur .nx)))
theorem one_at {h h' : Hand} {r : Res} {d : D} (e : R_law_spoilt_direction [.hand] h = (r, h')) (t : Told r d) (x2 x3 x4 x5 x6 x7 x8 x9 : Option SV) :
    bnd (bnd (consA (getV 1) (pur [])) (callH 1 R_law_spoilt_direction [])) frz (lS x2 x3 x4 x5 x6 x7 x8 x9 h) = .ok (RD d) (lS x2 x3 x4 x5 x6 x7 x8 x9 h') := by
  cases t with
  | dat z => subst z; simp [lS, e]
  | form z l =>
    subst z
    rename_i b xs
    have dl := datL_map xs
    cases b <;> simp [lS, e, rsF, ddF, dl]
structure Row (d1 d2 d3 d4 : D) : Prop where
  o1 : One d1
  o2 : One d2
  h : Hf d3
  k : Qt d4
  rep : repOk (.lst [d1, d2, d3, d4]) = true
section
variable {d1 d2 d3 d4 : D} (R : Row d1 d2 d3 d4) (x2 x7 x8 x9 : Option SV) (h : Hand)
include R
theorem s_rep : bnd (bnd (consA (getV 3) (consA (getV 4) (consA (getV 5) (consA (getV 6) (pur []))))) lstM) reprM (lS x2 (sd d1) (sd d2) (sd d3) (sd d4) x7 x8 x9 h) = .ok (RS (reprD (.lst [d1, d2, d3, d4]))) (lS x2 (sd d1) (sd d2) (sd d3) (sd d4) x7 x8 x9 h) := by
  have := R.rep
  simp [lS, reprM, deep2, deepL, deep, this]
theorem l_4 : lb4 (lS x2 (sd d1) (sd d2) (sd d3) (sd d4) x7 x8 x9 h) = .ok .nx (lS x2 (sd d1) (sd d2) (sd d3) (sd d4) (sd (.str (reprD (.lst [d1, d2, d3, d4])))) x8 x9 h) := by
  have := s_rep R x2 x7 x8 x9 h
  exact asgF_go (x := .dat (.str (reprD (.lst [d1, d2, d3, d4])))) (s1 := lS x2 (sd d1) (sd d2) (sd d3) (sd d4) x7 x8 x9 h) (by rw [bnd, this]; rfl) rfl
theorem l_9 : lb9 (lS x2 (sd d1) (sd d2) (sd d3) (sd d4) (sd (.str (reprD (.lst [d1, d2, d3, d4])))) x8 x9 h) = .ok .nx (lS x2 (sd d1) (sd d2) (sd d3) (sd d4) (sd (.str (reprD (.lst [d1, d2, d3, d4])))) x8 x9 h) :=
  ifF_f (ne_s (okD_repr R.rep) (eq_str _) (s_rep R _ _ _ _ h) rfl) rfl
theorem l_5 : lb5 (lS x2 (sd d1) (sd d2) (sd d3) (sd d4) x7 x8 x9 h) = .ok .nx (lS x2 (sd d1) (sd d2) (sd d3) (sd d4) x7 x8 x9 h) := by
  obtain ⟨b, e1, e2, _⟩ := R.o1.sp
  obtain ⟨b', e3, e4, _⟩ := R.o1.dir
  have t1 := v_truth b
  have t2 := v_truth b'
  simp [lS, e1, e2, e3, e4, t1, t2]
theorem l_7 : lb7 (lS x2 (sd d1) (sd d2) (sd d3) (sd d4) x7 x8 x9 h) = .ok .nx (lS x2 (sd d1) (sd d2) (sd d3) (sd d4) x7 x8 x9 h) := by
  obtain ⟨b, e1, e2, e3⟩ := R.o1.sp
  cases b with
  | false => simp [lS, e2]
  | true =>
    obtain ⟨x, y, e⟩ := e3 rfl
    have e4 := cs_ok e e1
    have e5 := v_same_row x y
    clear R
    rcases seq_cases e with rfl | rfl <;> simp [lS, e2, e4, e5]
theorem l_8 : lb8 (lS x2 (sd d1) (sd d2) (sd d3) (sd d4) x7 x8 x9 h) = .ok .nx (lS x2 (sd d1) (sd d2) (sd d3) (sd d4) x7 x8 x9 h) := by
  obtain ⟨b, e1, e2, e3⟩ := R.o1.dir
  cases b with
  | false => simp [lS, e2]
  | true =>
    obtain ⟨x, y, e, _⟩ := e3 rfl
    have e4 := cd_ok e e1
    have e5 := v_same_row x y
    clear R
    rcases seq_cases e with rfl | rfl <;> simp [lS, e2, e4, e5]
theorem l_A {t a : Int} (t0 : 0 ≤ t) (t1 : t < 8) (a0 : 0 ≤ a) (a1 : a < 12) : ∃ y9, lbA (lS (sd (.int t)) (sd d1) (sd d2) (sd d3) (sd d4) x7 (sd (.int a)) x9 h) = .ok .nx (lS (sd (.int t)) (sd d1) (sd d2) (sd d3) (sd d4) x7 (sd (.int a)) y9 h) := by
  have mc : modC t 2 = true := by
    have : t = 0 ∨ t = 1 ∨ t = 2 ∨ t = 3 ∨ t = 4 ∨ t = 5 ∨ t = 6 ∨ t = 7 := by omega
    rcases this with rfl | rfl | rfl | rfl | rfl | rfl | rfl | rfl <;> decide
  obtain ⟨th, e, c1, c2⟩ : ∃ th : D, asgF (ifE (andT (bnd (m2 (getV 8) (pur (RI 4)) eqM) asB) (bnd (m2 (m2 (getV 2) (pur (RI 2)) modM) (pur (RI 0)) eqM) asB)) (getV 5) (getV 3)) (setV 9) (lS (sd (.int t)) (sd d1) (sd d2) (sd d3) (sd d4) x7 (sd (.int a)) x9 h) = .ok .nx (lS (sd (.int t)) (sd d1) (sd d2) (sd d3) (sd d4) x7 (sd (.int a)) (sd th) h) ∧ (a = 4 → Hf th) ∧ (a ≠ 4 → One th) := by
    by_cases k1 : a = 4
    · by_cases k2 : t.fmod 2 = 0
      · exact ⟨d3, by simp [lS, k1, k2, mc], fun _ => R.h, fun z => absurd k1 z⟩
      · exact ⟨d1, by simp [lS, k1, k2, mc], fun _ => R.o1.h, fun z => absurd k1 z⟩
    · exact ⟨d1, by simp [lS, k1, mc], fun _ => R.o1.h, fun _ => R.o1⟩
  obtain ⟨w, ⟨o, e1⟩, e2⟩ := v_acts a0 a1 c1 c2 R.o2 R.h R.k
  exact ⟨sd th, seqF_go e (ifF_f (ne_s o (eq_str w) (by simp [lS, e1]) (by simp [lS, e2])) rfl)⟩
end
theorem l_6 {d1 d2 d3 d4 : D} (R : Row d1 d2 d3 d4) {t : Int} (t0 : 0 ≤ t) (t1 : t < 8) (x7 x8 x9 : Option SV) (h : Hand) : ∃ y8 y9, lb6 (lS (sd (.int t)) (sd d1) (sd d2) (sd d3) (sd d4) x7 x8 x9 h) = .ok .nx (lS (sd (.int t)) (sd d1) (sd d2) (sd d3) (sd d4) x7 y8 y9 h) := by
  obtain ⟨s', e, y8, y9, rfl⟩ := forL_inv (ok := (Src.mk (rangeL 0 12) none).Ok) (f := setV 8) (b := lbA) (fun s => ∃ y8 y9, s = lS (sd (.int t)) (sd d1) (sd d2) (sd d3) (sd d4) x7 y8 y9 h) (fun _ _ => src_ok) (rangeL 0 12) (fun x hx s hs => by
    obtain ⟨y8, y9, rfl⟩ := hs
    obtain ⟨i, rfl, h0, h1⟩ := mem_rangeL' hx
    obtain ⟨z9, e⟩ := l_A R x7 y9 h t0 t1 h0 (a := i) (by omega)
    exact ⟨_, _, rfl, e, _, _, rfl⟩) _ ⟨x8, x9, rfl⟩
  exact ⟨y8, y9, forF_go (src := ⟨rangeL 0 12, none⟩) (by simp [lS]) e⟩
theorem l_body {t : Int} (t0 : 0 ≤ t) (t1 : t < 8) (x3 x4 x5 x6 x7 x8 x9 : Option SV) (h : Hand) : ∃ y3 y4 y5 y6 y7 y8 y9 h', seqF lb0 (seqF lb1 (seqF lb2 (seqF lb3 (seqF lb4 (seqF lb5 (seqF lb6 (seqF lb7 (seqF lb8 lb9)))))))) (lS (sd (.int t)) x3 x4 x5 x6 x7 x8 x9 h) = .ok .nx (lS (sd (.int t)) y3 y4 y5 y6 y7 y8 y9 h') := by
  obtain ⟨r1, d1, h1, e1, g1, o1⟩ := v_spoilt h
  obtain ⟨r2, d2, h2, e2, g2, o2⟩ := v_spoilt h1
  obtain ⟨d3, h3, e3, o3⟩ := v_spoilt_half h2
  obtain ⟨d4, h4, e4, o4, r4⟩ := v_quarters h3
  have R : Row d1 d2 d3 d4 := ⟨o1, o2, o3.h, o4, rep4 o1.r o2.r o3.r (rc_up r4)⟩
  obtain ⟨y8, y9, e6⟩ := l_6 R t0 t1 (sd (.str (reprD (.lst [d1, d2, d3, d4])))) x8 x9 h4
  refine ⟨sd d1, sd d2, sd d3, sd d4, sd (.str (reprD (.lst [d1, d2, d3, d4]))), y8, y9, h4, ?_⟩
  refine seqF_go (asgF_go (one_at e1 g1 _ _ _ _ _ _ _ _) (s2 := lS (sd (.int t)) (sd d1) x4 x5 x6 x7 x8 x9 h1) rfl) ?_
  refine seqF_go (asgF_go (one_at e2 g2 _ _ _ _ _ _ _ _) (s2 := lS (sd (.int t)) (sd d1) (sd d2) x5 x6 x7 x8 x9 h2) rfl) ?_
  refine seqF_go (asgF_go (x := .dat d3) (s1 := lS (sd (.int t)) (sd d1) (sd d2) x5 x6 x7 x8 x9 h3) (by simp [lS, e3]) (s2 := lS (sd (.int t)) (sd d1) (sd d2) (sd d3) x6 x7 x8 x9 h3) rfl) ?_
  refine seqF_go (asgF_go (x := .dat d4) (s1 := lS (sd (.int t)) (sd d1) (sd d2) (sd d3) x6 x7 x8 x9 h4) (by simp [lS, e4]) (s2 := lS (sd (.int t)) (sd d1) (sd d2) (sd d3) (sd d4) x7 x8 x9 h4) rfl) ?_
  refine seqF_go (l_4 R _ _ _ _ _) ?_
  refine seqF_go (l_5 R _ _ _ _ _) ?_
  refine seqF_go e6 ?_
  refine seqF_go (l_7 R _ _ _ _ _) ?_
  exact seqF_go (l_8 R _ _ _ _ _) (l_9 R _ _ _ _)
theorem law_holds : ∀ h, ∃ s', m_law (startL 10 h) = .ok (.rt (RB true)) s' := fun h => by
  obtain ⟨s', e, y2, y3, y4, y5, y6, y7, y8, y9, h', rfl⟩ := forL_inv (ok := (Src.mk (rangeL 0 8) none).Ok) (f := setV 2) (b := seqF lb0 (seqF lb1 (seqF lb2 (seqF lb3 (seqF lb4 (seqF lb5 (seqF lb6 (seqF lb7 (seqF lb8 lb9)))))))))
    (fun s => ∃ y2 y3 y4 y5 y6 y7 y8 y9 h', s = lS y2 y3 y4 y5 y6 y7 y8 y9 h') (fun _ _ => src_ok) (rangeL 0 8) (fun x hx s hs => by
    obtain ⟨y2, y3, y4, y5, y6, y7, y8, y9, h', rfl⟩ := hs
    obtain ⟨i, rfl, h0, h1⟩ := mem_rangeL' hx
    obtain ⟨z3, z4, z5, z6, z7, z8, z9, h2, e⟩ := l_body (t := i) h0 (by omega) y3 y4 y5 y6 y7 y8 y9 h'
    exact ⟨_, _, rfl, e, _, _, _, _, _, _, _, _, _, rfl⟩) (lS none none none none none none none none h) ⟨_, _, _, _, _, _, _, _, _, rfl⟩
  exact ⟨_, seqF_go (forF_go (s1 := lS none none none none none none none none h) (src := ⟨rangeL 0 8, none⟩) (by simp [lS, startL]) e) (retF_go rfl)⟩
end Law
set_option Elab.async false
set_option linter.all false
set_option maxRecDepth 100000
set_option maxHeartbeats 8000000
namespace Law
open PySem PySem.Spec PyProof.Rows L2 Fd
theorem scx_BadRatio : FdX.ScopeS ["self", "what"] (defScope i_BadRatio) := ⟨rfl, rfl, rfl, by decide +kernel, by decide +kernel, by decide +kernel, freeNames_of (by decide +kernel), by decide +kernel, by decide +kernel⟩
theorem mk_BadRatio {P : Program} {w : World} {K : Fr} {h : Heap} {mg : Str → Option Value} {ct : Nat → Addr} {d : Df} (KX : K.In h) (G : h.Ns mainGlobals mg) (hct : ct 0 = gA K "BadRatio") (g : tGlo "BadRatio" K = true) (xo : tXo "BadRatio" K = true) (e : fnO K (d.ad K) = d.val) (hd : d = ⟨("BadRatio", some "__init__"), "__init__", "BadRatio.__init__", i_BadRatio, true, false⟩)
    (xi : tXi "BadRatio" "BadRatio.__init__" fileS K = true) (xr : tXr "BadRatio" K = true) (hsuper : tFree "super" K = true) (hop : tSt "thirdparty.any" K = true) (hfile : ((P.main.file : Str) == fileS) = true) (htop : (P.main.scope.names.lookup ("super" : Str)).isSome = false)
    (n_what : tNoAt "BadRatio" "what" K = true) : ∀ base : Heap, ErrX P w K mg base ct "BadRatio" 0 ["what"] := fun base => by
  obtain ⟨nm, qn, N, bs, bm, sn, sub, ab, col, dd, m0, m1, m2, m3, m5, xL, hbm⟩ := xo_h xo
  obtain ⟨oc, od, kV, doc, pm, an, cda, ct1, cc, osl, ccl, cdd, cvs, ccs, tf, cl0, cld, csl, lk, hcd, hcode, hvs, hcell, kf⟩ := xi_h hd e xi
  unfold tXr at xr
  simp only [Bool.and_eq_true] at xr
  obtain ⟨r1, r2, r3, r4, r5, r6, r7, r8, r9, r10⟩ := xr
  obtain ⟨cdD, hD⟩ := Option.isSome_iff_exists.mp r7
  have T : OexC K (gA K "BadRatio") := ⟨⟨nm, qn, N, bs, bm, sn, sub, ab, col, dd, m0, m1, m2, m3, m5, xL, hbm⟩, sameO_ok r3, of_decide_eq_true r4, of_decide_eq_true r5, r6⟩
  refine ⟨?_⟩
  rw [hct]
  refine ⟨mA K "BadRatio" "__init__", _, ["self", "what"], T, sameO_ok r1, of_decide_eq_true r2, fn_err lk hcd scx_BadRatio rfl rfl T hcode hvs hfile hcell hD (of_decide_eq_true r8) (PySem.W.mg_none_of KX G (sameO_ok hsuper)) htop (by rfl) (sameO_ok hop) (sameO_ok r9) (of_decide_eq_true r10) rfl (by decide) (by decide) (by decide) (List.forall_mem_cons.mpr ⟨sameO_ok n_what, (fun _ h => nomatch h)⟩) (fun A outer s H E => (pak_str (pak_var 1 .nil (pv 1) (by decide)))) (fun A outer s H E => (.cons (pv 0) (pv 1) rfl .nil)), .all ?_, PySem.W.mg_of KX G (sameO_ok g)⟩
  exact fun us hl => match us, hl with | [_, _], _ => rfl
theorem scx_BadSpot : FdX.ScopeS ["self"] (defScope i_BadSpot) := ⟨rfl, rfl, rfl, by decide +kernel, by decide +kernel, by decide +kernel, freeNames_of (by decide +kernel), by decide +kernel, by decide +kernel⟩
theorem mk_BadSpot {P : Program} {w : World} {K : Fr} {h : Heap} {mg : Str → Option Value} {ct : Nat → Addr} {d : Df} (KX : K.In h) (G : h.Ns mainGlobals mg) (hct : ct 1 = gA K "BadSpot") (g : tGlo "BadSpot" K = true) (xo : tXo "BadSpot" K = true) (e : fnO K (d.ad K) = d.val) (hd : d = ⟨("BadSpot", some "__init__"), "__init__", "BadSpot.__init__", i_BadSpot, true, false⟩)
    (xi : tXi "BadSpot" "BadSpot.__init__" fileS K = true) (xr : tXr "BadSpot" K = true) (hsuper : tFree "super" K = true) (hop : tSt "thirdparty.any" K = true) (hfile : ((P.main.file : Str) == fileS) = true) (htop : (P.main.scope.names.lookup ("super" : Str)).isSome = false)
     : ∀ base : Heap, ErrX0 P w K mg base ct "BadSpot" 1 := fun base => by
  obtain ⟨nm, qn, N, bs, bm, sn, sub, ab, col, dd, m0, m1, m2, m3, m5, xL, hbm⟩ := xo_h xo
  obtain ⟨oc, od, kV, doc, pm, an, cda, ct1, cc, osl, ccl, cdd, cvs, ccs, tf, cl0, cld, csl, lk, hcd, hcode, hvs, hcell, kf⟩ := xi_h hd e xi
  unfold tXr at xr
  simp only [Bool.and_eq_true] at xr
  obtain ⟨r1, r2, r3, r4, r5, r6, r7, r8, r9, r10⟩ := xr
  obtain ⟨cdD, hD⟩ := Option.isSome_iff_exists.mp r7
  have T : OexC K (gA K "BadSpot") := ⟨⟨nm, qn, N, bs, bm, sn, sub, ab, col, dd, m0, m1, m2, m3, m5, xL, hbm⟩, sameO_ok r3, of_decide_eq_true r4, of_decide_eq_true r5, r6⟩
  refine ⟨?_⟩
  rw [hct]
  refine ⟨mA K "BadSpot" "__init__", _, ["self"], T, sameO_ok r1, of_decide_eq_true r2, fn_err0 lk hcd scx_BadSpot rfl rfl T hcode hvs hfile hcell hD (of_decide_eq_true r8) (PySem.W.mg_none_of KX G (sameO_ok hsuper)) htop (by rfl) (sameO_ok hop) (sameO_ok r9) (of_decide_eq_true r10) rfl (by decide) (fun A outer s H E => (pak_str .nil)), .all ?_, PySem.W.mg_of KX G (sameO_ok g)⟩
  exact fun us hl => match us, hl with | [_], _ => rfl
theorem scx_BadDirection : FdX.ScopeS ["self"] (defScope i_BadDirection) := ⟨rfl, rfl, rfl, by decide +kernel, by decide +kernel, by decide +kernel, freeNames_of (by decide +kernel), by decide +kernel, by decide +kernel⟩
theorem mk_BadDirection {P : Program} {w : World} {K : Fr} {h : Heap} {mg : Str → Option Value} {ct : Nat → Addr} {d : Df} (KX : K.In h) (G : h.Ns mainGlobals mg) (hct : ct 2 = gA K "BadDirection") (g : tGlo "BadDirection" K = true) (xo : tXo "BadDirection" K = true) (e : fnO K (d.ad K) = d.val) (hd : d = ⟨("BadDirection", some "__init__"), "__init__", "BadDirection.__init__", i_BadDirection, true, false⟩)
    (xi : tXi "BadDirection" "BadDirection.__init__" fileS K = true) (xr : tXr "BadDirection" K = true) (hsuper : tFree "super" K = true) (hop : tSt "thirdparty.any" K = true) (hfile : ((P.main.file : Str) == fileS) = true) (htop : (P.main.scope.names.lookup ("super" : Str)).isSome = false)
     : ∀ base : Heap, ErrX0 P w K mg base ct "BadDirection" 2 := fun base => by
  obtain ⟨nm, qn, N, bs, bm, sn, sub, ab, col, dd, m0, m1, m2, m3, m5, xL, hbm⟩ := xo_h xo
  obtain ⟨oc, od, kV, doc, pm, an, cda, ct1, cc, osl, ccl, cdd, cvs, ccs, tf, cl0, cld, csl, lk, hcd, hcode, hvs, hcell, kf⟩ := xi_h hd e xi
  unfold tXr at xr
  simp only [Bool.and_eq_true] at xr
  obtain ⟨r1, r2, r3, r4, r5, r6, r7, r8, r9, r10⟩ := xr
  obtain ⟨cdD, hD⟩ := Option.isSome_iff_exists.mp r7
  have T : OexC K (gA K "BadDirection") := ⟨⟨nm, qn, N, bs, bm, sn, sub, ab, col, dd, m0, m1, m2, m3, m5, xL, hbm⟩, sameO_ok r3, of_decide_eq_true r4, of_decide_eq_true r5, r6⟩
  refine ⟨?_⟩
  rw [hct]
  refine ⟨mA K "BadDirection" "__init__", _, ["self"], T, sameO_ok r1, of_decide_eq_true r2, fn_err0 lk hcd scx_BadDirection rfl rfl T hcode hvs hfile hcell hD (of_decide_eq_true r8) (PySem.W.mg_none_of KX G (sameO_ok hsuper)) htop (by rfl) (sameO_ok hop) (sameO_ok r9) (of_decide_eq_true r10) rfl (by decide) (fun A outer s H E => (pak_str .nil)), .all ?_, PySem.W.mg_of KX G (sameO_ok g)⟩
  exact fun us hl => match us, hl with | [_], _ => rfl
theorem scx_BadHalf : FdX.ScopeS ["self"] (defScope i_BadHalf) := ⟨rfl, rfl, rfl, by decide +kernel, by decide +kernel, by decide +kernel, freeNames_of (by decide +kernel), by decide +kernel, by decide +kernel⟩
theorem mk_BadHalf {P : Program} {w : World} {K : Fr} {h : Heap} {mg : Str → Option Value} {ct : Nat → Addr} {d : Df} (KX : K.In h) (G : h.Ns mainGlobals mg) (hct : ct 3 = gA K "BadHalf") (g : tGlo "BadHalf" K = true) (xo : tXo "BadHalf" K = true) (e : fnO K (d.ad K) = d.val) (hd : d = ⟨("BadHalf", some "__init__"), "__init__", "BadHalf.__init__", i_BadHalf, true, false⟩)
    (xi : tXi "BadHalf" "BadHalf.__init__" fileS K = true) (xr : tXr "BadHalf" K = true) (hsuper : tFree "super" K = true) (hop : tSt "thirdparty.any" K = true) (hfile : ((P.main.file : Str) == fileS) = true) (htop : (P.main.scope.names.lookup ("super" : Str)).isSome = false)
     : ∀ base : Heap, ErrX0 P w K mg base ct "BadHalf" 3 := fun base => by
  obtain ⟨nm, qn, N, bs, bm, sn, sub, ab, col, dd, m0, m1, m2, m3, m5, xL, hbm⟩ := xo_h xo
  obtain ⟨oc, od, kV, doc, pm, an, cda, ct1, cc, osl, ccl, cdd, cvs, ccs, tf, cl0, cld, csl, lk, hcd, hcode, hvs, hcell, kf⟩ := xi_h hd e xi
  unfold tXr at xr
  simp only [Bool.and_eq_true] at xr
  obtain ⟨r1, r2, r3, r4, r5, r6, r7, r8, r9, r10⟩ := xr
  obtain ⟨cdD, hD⟩ := Option.isSome_iff_exists.mp r7
  have T : OexC K (gA K "BadHalf") := ⟨⟨nm, qn, N, bs, bm, sn, sub, ab, col, dd, m0, m1, m2, m3, m5, xL, hbm⟩, sameO_ok r3, of_decide_eq_true r4, of_decide_eq_true r5, r6⟩
  refine ⟨?_⟩
  rw [hct]
  refine ⟨mA K "BadHalf" "__init__", _, ["self"], T, sameO_ok r1, of_decide_eq_true r2, fn_err0 lk hcd scx_BadHalf rfl rfl T hcode hvs hfile hcell hD (of_decide_eq_true r8) (PySem.W.mg_none_of KX G (sameO_ok hsuper)) htop (by rfl) (sameO_ok hop) (sameO_ok r9) (of_decide_eq_true r10) rfl (by decide) (fun A outer s H E => (pak_str .nil)), .all ?_, PySem.W.mg_of KX G (sameO_ok g)⟩
  exact fun us hl => match us, hl with | [_], _ => rfl
theorem scx_BadQuarters : FdX.ScopeS ["self"] (defScope i_BadQuarters) := ⟨rfl, rfl, rfl, by decide +kernel, by decide +kernel, by decide +kernel, freeNames_of (by decide +kernel), by decide +kernel, by decide +kernel⟩
theorem mk_BadQuarters {P : Program} {w : World} {K : Fr} {h : Heap} {mg : Str → Option Value} {ct : Nat → Addr} {d : Df} (KX : K.In h) (G : h.Ns mainGlobals mg) (hct : ct 4 = gA K "BadQuarters") (g : tGlo "BadQuarters" K = true) (xo : tXo "BadQuarters" K = true) (e : fnO K (d.ad K) = d.val) (hd : d = ⟨("BadQuarters", some "__init__"), "__init__", "BadQuarters.__init__", i_BadQuarters, true, false⟩)
    (xi : tXi "BadQuarters" "BadQuarters.__init__" fileS K = true) (xr : tXr "BadQuarters" K = true) (hsuper : tFree "super" K = true) (hop : tSt "thirdparty.any" K = true) (hfile : ((P.main.file : Str) == fileS) = true) (htop : (P.main.scope.names.lookup ("super" : Str)).isSome = false)
     : ∀ base : Heap, ErrX0 P w K mg base ct "BadQuarters" 4 := fun base => by
  obtain ⟨nm, qn, N, bs, bm, sn, sub, ab, col, dd, m0, m1, m2, m3, m5, xL, hbm⟩ := xo_h xo
  obtain ⟨oc, od, kV, doc, pm, an, cda, ct1, cc, osl, ccl, cdd, cvs, ccs, tf, cl0, cld, csl, lk, hcd, hcode, hvs, hcell, kf⟩ := xi_h hd e xi
  unfold tXr at xr
  simp only [Bool.and_eq_true] at xr
  obtain ⟨r1, r2, r3, r4, r5, r6, r7, r8, r9, r10⟩ := xr
  obtain ⟨cdD, hD⟩ := Option.isSome_iff_exists.mp r7
  have T : OexC K (gA K "BadQuarters") := ⟨⟨nm, qn, N, bs, bm, sn, sub, ab, col, dd, m0, m1, m2, m3, m5, xL, hbm⟩, sameO_ok r3, of_decide_eq_true r4, of_decide_eq_true r5, r6⟩
  refine ⟨?_⟩
  rw [hct]
  refine ⟨mA K "BadQuarters" "__init__", _, ["self"], T, sameO_ok r1, of_decide_eq_true r2, fn_err0 lk hcd scx_BadQuarters rfl rfl T hcode hvs hfile hcell hD (of_decide_eq_true r8) (PySem.W.mg_none_of KX G (sameO_ok hsuper)) htop (by rfl) (sameO_ok hop) (sameO_ok r9) (of_decide_eq_true r10) rfl (by decide) (fun A outer s H E => (pak_str .nil)), .all ?_, PySem.W.mg_of KX G (sameO_ok g)⟩
  exact fun us hl => match us, hl with | [_], _ => rfl
def ctN : List Str := ["BadRatio", "BadSpot", "BadDirection", "BadHalf", "BadQuarters"]
def ctK (K : Fr) : Nat → Addr := ctOf (ctN.map (gA K))
theorem ct_err (K : Fr) : ∀ j y, errN[j]? = some y → ctK K j = gA K y := fun j y h => by
  match j, h with
  | 0, h => cases h; rfl
  | 1, h => cases h; rfl
  | 2, h => cases h; rfl
  | 3, h => cases h; rfl
  | 4, h => cases h; rfl
  | j + 5, h => simp [errN] at h
theorem all_mk {P : Program} {w : World} {K : Fr} {h : Heap} {mg : Str → Option Value} {fa : Addr} (KX : K.In h) (G : h.Ns mainGlobals mg) (hfa : mg "law" = some (.ref fa)) (c : obsK hdFs hdFn K = valK hdFn) (hfile : ((P.main.file : Str) == fileS) = true) (htop : (P.main.scope.names.lookup ("super" : Str)).isSome = false) :
    ∃ fd : FuncData, (∀ (s : Shared) (v : Value), BindsTo s fd ⟨[v], []⟩ [("_law_script", v)]) ∧ ∀ base : Heap, K.In base → base.Ns mainGlobals mg → FnG P w K mg base (L2.CX P w) 9 fa fd ["_law_script"] (spLaw K) := by
  have y0 := fact_h c 0
  unfold hdq0 at y0
  simp only [Bool.and_eq_true] at y0
  obtain ⟨x0, x1, x2, x3, x4, x5, x6, x7, x8, x9, x10, x11, x12, x13, x14, x15⟩ := y0
  have y1 := fact_h c 1
  unfold hdq1 at y1
  simp only [Bool.and_eq_true] at y1
  obtain ⟨x16, x17, x18, x19, x20, x21, x22, x23, x24, x25, x26, x27, x28, x29, x30, x31⟩ := y1
  have y2 := fact_h c 2
  unfold hdq2 at y2
  simp only [Bool.and_eq_true] at y2
  obtain ⟨x32, x33, x34, x35, x36, x37, x38, x39, x40, x41, x42, x43, x44, x45, x46, x47⟩ := y2
  have y3 := fact_h c 3
  unfold hdq3 at y3
  simp only [Bool.and_eq_true] at y3
  obtain ⟨x48, x49, x50, x51, x52, x53, x54, x55, x56, x57, x58, x59, x60, x61, x62, x63⟩ := y3
  have y4 := fact_h c 4
  unfold hdq4 at y4
  simp only [Bool.and_eq_true] at y4
  obtain ⟨x64, x65, x66, x67, x68, x69, x70, x71, x72, x73, x74, x75, x76, x77, x78, x79⟩ := y4
  have y5 := fact_h c 5
  unfold hdq5 at y5
  simp only [Bool.and_eq_true] at y5
  obtain ⟨x80, x81, x82, x83, x84, x85, x86, x87, x88, x89, x90, x91, x92, x93, x94, x95⟩ := y5
  have y6 := fact_h c 6
  unfold hdq6 at y6
  simp only [Bool.and_eq_true] at y6
  obtain ⟨x96, x97, x98, x99, x100, x101, x102, x103, x104, x105, x106, x107, x108, x109, x110, x111⟩ := y6
  have y7 := fact_h c 7
  unfold hdq7 at y7
  simp only [Bool.and_eq_true] at y7
  obtain ⟨x112, x113, x114, x115, x116, x117, x118, x119, x120, x121, x122, x123, x124, x125, x126, x127⟩ := y7
  have y8 := fact_h c 8
  unfold hdq8 at y8
  simp only [Bool.and_eq_true] at y8
  obtain ⟨x128, x129, x130, x131, x132, x133, x134, x135, x136, x137, x138, x139, x140, x141, x142, x143⟩ := y8
  have y9 := fact_h c 9
  unfold hdq9 at y9
  simp only [Bool.and_eq_true] at y9
  obtain ⟨x144, x145, x146, x147, x148, x149, x150, x151, x152, x153, x154, x155, x156, x157, x158, x159⟩ := y9
  have y10 := fact_h c 10
  unfold hdq10 at y10
  simp only [Bool.and_eq_true] at y10
  obtain ⟨x160, x161, x162, x163, x164, x165, x166, x167, x168, x169, x170⟩ := y10
  have f_law := fnT_h (x := "law") (st := s_law) (q := "law") KX G x169 (def_h c 59) x170 rfl
  obtain ⟨f, fd, hm, F⟩ := f_law.ex
  have e := hfa.symm.trans hm
  cases e
  refine ⟨fd, fun s v => ?_, fun base _ _ => ok_law (ct := ctK K) ⟨PySem.W.mg_none_of KX G (sameO_ok x0), PySem.W.mg_none_of KX G (sameO_ok x1), PySem.W.mg_none_of KX G (sameO_ok x2), PySem.W.mg_none_of KX G (sameO_ok x3), PySem.W.mg_none_of KX G (sameO_ok x4), PySem.W.mg_none_of KX G (sameO_ok x5), PySem.W.mg_none_of KX G (sameO_ok x6), PySem.W.mg_none_of KX G (sameO_ok x7), PySem.W.mg_none_of KX G (sameO_ok x8), PySem.W.mg_of KX G (sameO_ok x9), csT_h KX G x10, csT_h KX G x11, csT_h KX G x12, csT_h KX G x13, csT_h KX G x14, csT_h KX G x15, fnTV_h KX G x16 (def_h c 0) x17 rfl (fun z => nomatch z), fnT_h (q := "is_ratio") KX G x18 (def_h c 1) x19 rfl, fnT_h (q := "lowest_terms") KX G x20 (def_h c 2) x21 rfl, fnT_h (q := "plus") KX G x22 (def_h c 3) x23 rfl, fnT_h (q := "minus") KX G x24 (def_h c 4) x25 rfl, fnT_h (q := "times") KX G x26 (def_h c 5) x27 rfl, fnT_h (q := "over") KX G x28 (def_h c 6) x29 rfl, fnT_h (q := "negative") KX G x30 (def_h c 7) x31 rfl, fnT_h (q := "is_spot") KX G x32 (def_h c 8) x33 rfl, fnT_h (q := "check_spot") KX G x34 (def_h c 9) x35 rfl, fnT_h (q := "square_sum") KX G x36 (def_h c 10) x37 rfl, fnT_h (q := "is_direction") KX G x38 (def_h c 11) x39 rfl, fnT_h (q := "check_direction") KX G x40 (def_h c 12) x41 rfl, fnT_h (q := "check_half") KX G x42 (def_h c 13) x43 rfl, fnT_h (q := "direction_by") KX G x44 (def_h c 14) x45 rfl, fnT_h (q := "half_of") KX G x46 (def_h c 15) x47 rfl, fnT_h (q := "add_halves") KX G x48 (def_h c 16) x49 rfl, fnT_h (q := "turn_along") KX G x50 (def_h c 17) x51 rfl, fnT_h (q := "turned_by") KX G x52 (def_h c 18) x53 rfl, fnT_h (q := "quarter_direction") KX G x54 (def_h c 19) x55 rfl, fnT_h (q := "turned_quarters") KX G x56 (def_h c 20) x57 rfl, fnT_h (q := "opposite_of") KX G x58 (def_h c 21) x59 rfl, fnT_h (q := "mirrored_direction") KX G x60 (def_h c 22) x61 rfl, fnT_h (q := "cosine_between") KX G x62 (def_h c 23) x63 rfl, fnT_h (q := "sine_between") KX G x64 (def_h c 24) x65 rfl, fnT_h (q := "_law_hand") KX G x66 (def_h c 25) x67 rfl, fnT_h (q := "_law_take") KX G x68 (def_h c 26) x69 rfl, fnT_h (q := "_law_gcd") KX G x70 (def_h c 27) x71 rfl, fnT_h (q := "_law_ratio") KX G x72 (def_h c 28) x73 rfl, fnT_h (q := "_law_plus") KX G x74 (def_h c 29) x75 rfl, fnT_h (q := "_law_less") KX G x76 (def_h c 30) x77 rfl, fnT_h (q := "_law_times") KX G x78 (def_h c 31) x79 rfl, fnT_h (q := "_law_over") KX G x80 (def_h c 32) x81 rfl, fnT_h (q := "_law_is_ratio") KX G x82 (def_h c 33) x83 rfl, fnT_h (q := "_law_mark") KX G x84 (def_h c 34) x85 rfl, fnT_h (q := "_law_direction") KX G x86 (def_h c 35) x87 rfl, fnT_h (q := "_law_half") KX G x88 (def_h c 36) x89 rfl, fnT_h (q := "_law_wide") KX G x90 (def_h c 37) x91 rfl, fnT_h (q := "_law_any_half") KX G x92 (def_h c 38) x93 rfl, fnT_h (q := "_law_square") KX G x94 (def_h c 39) x95 rfl, fnT_h (q := "_law_same") KX G x96 (def_h c 40) x97 rfl, fnT_h (q := "_law_same_row") KX G x98 (def_h c 41) x99 rfl, fnT_h (q := "_law_truth") KX G x100 (def_h c 42) x101 rfl, fnT_h (q := "_law_form") KX G x102 (def_h c 43) x103 rfl, fnT_h (q := "_law_is_spot") KX G x104 (def_h c 44) x105 rfl, fnT_h (q := "_law_is_direction") KX G x106 (def_h c 45) x107 rfl, fnT_h (q := "_law_odd") KX G x108 (def_h c 46) x109 rfl, fnT_h (q := "_law_spoilt_direction") KX G x110 (def_h c 47) x111 rfl, fnT_h (q := "_law_spoilt_half") KX G x112 (def_h c 48) x113 rfl, fnT_h (q := "_law_is_half") KX G x114 (def_h c 49) x115 rfl, fnT_h (q := "_law_called") KX G x116 (def_h c 50) x117 rfl, fnT_h (q := "_law_told") KX G x118 (def_h c 51) x119 rfl, fnT_h (q := "_law_due") KX G x120 (def_h c 52) x121 rfl, fnT_h (q := "_law_quarters") KX G x122 (def_h c 53) x123 rfl, mk_BadRatio (ct := ctK K) KX G rfl x124 x125 (def_h c 54) rfl x126 x127 x128 x129 hfile htop x130 base, mk_BadSpot (ct := ctK K) KX G rfl x131 x132 (def_h c 55) rfl x133 x134 x128 x129 hfile htop  base, errH_h (xs := errN) (c := 1) (x := "BadSpot") KX G rfl (ct_err K) x131 x135 x136, isX_own (c := 1) (x := "BadSpot") KX G rfl x137 x138 x139, isX_ty (c := 1) (x := "BadSpot") (t' := "ValueError") KX G rfl x137 x140 boot_ValueError x141, mk_BadDirection (ct := ctK K) KX G rfl x142 x143 (def_h c 56) rfl x144 x145 x128 x129 hfile htop  base, errH_h (xs := errN) (c := 2) (x := "BadDirection") KX G rfl (ct_err K) x142 x146 x147, isX_own (c := 2) (x := "BadDirection") KX G rfl x148 x138 x149, isX_ty (c := 2) (x := "BadDirection") (t' := "ValueError") KX G rfl x148 x140 boot_ValueError x150, mk_BadHalf (ct := ctK K) KX G rfl x151 x152 (def_h c 57) rfl x153 x154 x128 x129 hfile htop  base, errH_h (xs := errN) (c := 3) (x := "BadHalf") KX G rfl (ct_err K) x151 x155 x156, isX_own (c := 3) (x := "BadHalf") KX G rfl x157 x138 x158, isX_ty (c := 3) (x := "BadHalf") (t' := "ValueError") KX G rfl x157 x140 boot_ValueError x159, mk_BadQuarters (ct := ctK K) KX G rfl x160 x161 (def_h c 58) rfl x162 x163 x128 x129 hfile htop  base, errH_h (xs := errN) (c := 4) (x := "BadQuarters") KX G rfl (ct_err K) x160 x164 x165, isX_own (c := 4) (x := "BadQuarters") KX G rfl x166 x138 x167, isX_ty (c := 4) (x := "BadQuarters") (t' := "ValueError") KX G rfl x166 x140 boot_ValueError x168⟩ F law_holds⟩
  obtain ⟨oc, od, dV, kV, doc, pm, an, cdv, ct2, osl, rfl, lk, hcd, hD, hK⟩ := F.ex
  rcases hD with ⟨_, rfl⟩ | ⟨z, _⟩
  · exact .of_eq rfl
  · exact absurd rfl z
end Law
open PySem PySem.W PyProof.Rows
set_option maxRecDepth 100000 in
set_option maxHeartbeats 0 in
theorem PySem.Challenge.cw_stillarms_k09_spots_and_directions_let_a_holds : PySem.Challenge.rw_stillarms_k09_spots_and_directions_let_a.Holds := by
  w_on; o_law
  refine HandSHeadRun.head_imp (r := Law.hdR) (q := Law.hdV) (H := Law.hdK) (ob := Law.hdO) (M := 30000) (loose := Law.hdN) (d := HandSHeadRun.topDef Law.hdR.prog 71) (kwd := []) Law.hdO_eq Law.hdRun (by kernel_rfl) (by kernel_rfl) (by kernel_rfl) (by rfl) (by first | assumption | decide +kernel) (by decide +kernel) ⟨rfl, rfl, rfl, rfl, rfl, by decide +kernel⟩ ?hw ?hc
  case hw => w_witness2
  case hc =>
    refine Fd.law_endHG (l := PySem.Challenge.rw_stillarms_k09_spots_and_directions_let_a) (k := 9) rfl (by kernel_rfl) ⟨rfl, by decide, by decide⟩ ?F
    intro w mg fa h Y G hmg0
    obtain ⟨K, KX, c⟩ := Y
    have hmg : mg ("law" : PySem.Str) = some (.ref fa) := by
      have e : (HandSHeadRun.topDef Law.hdR.prog 71).name = ("law" : PySem.Str) := by kernel_rfl
      rw [← e]
      exact hmg0
    exact ⟨K, KX, Law.all_mk KX G hmg c (by rfl) (by rfl)⟩
