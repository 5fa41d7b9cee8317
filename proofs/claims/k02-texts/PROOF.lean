import PyProof.Rows.All
import Wide.All
import OpenK.AllK
import Wide.FinOn
import HandS.ForSpec
import HandS.ForMost
import HandS.ExcInit
import KE.KExcSuper
import KE.KSuper
import HandS.ExcSuper
import HandS.Wide
import HandS.CallSlots
import HandS.Defaults
import HandS.IsInst
import HandS.TryOnly
import HandS.Flow
import HandS.Gcd
import HandS.TupAny
import HandS.Deep
import HandS.Style
import HandS.Walk
import HandS.ExcField
import HandS.Text
import HandS.StrMore
import HandS.FStr
import HandS.Iter
import KE.IntTextLaws
import KE.KIntText
import PyProof.StrLawsAffix
import PySem.Challenge.RW_stillarms_k02_whole_ratio_texts_read
set_option Elab.async false
set_option linter.all false
set_option maxRecDepth 100000
set_option maxHeartbeats 4000000
namespace FdX
open PySem PySem.Spec PyProof.Rows L2
/-- the context of an __init__ that says super().__init__ -/
def cxS (CX : CXT) (P : Program) (w : World) (K : PySem.W.Frag) (mg : Str → Option Value) (base : Heap) (N : List Str) (fd : FuncData) (f : Addr) (A : Around) (outer : List Env) (s : Shared) (H : Hp) (E : XK) : Cx where
  prog := P
  w := w
  K := K
  mg := mg
  base := base
  A := A.deeper (callEnv fd s.heap.objs.size f)
  N := N
  s_0 := s
  H_0 := H
  env := callEnv fd s.heap.objs.size f
  outer := outer
  stack := callEnv fd s.heap.objs.size f :: outer
  ex := []
  calm := true
  fn := fun _ => false
  pn := []
  xe := fun e s' => wpAny (model P w) (A.deeper (callEnv fd s.heap.objs.size f)) (leaving (callEnv fd s.heap.objs.size f) e) (fun _ s'' => CX outer H s E e s'') (fun e' s'' => CX outer H s E e' s'') s'
abbrev fnS (name qual : Str) (params : Arguments) (body : List Stmt) (scope : Scope) (dV kV doc pm : Value) (an : Option Addr) (cdv ct : Value) (cc : Addr) : FuncData := PySem.W.ksFn name qual params body scope dV kV doc pm an cdv ct cc
structure ScopeS (ps : List Str) (sc : Scope) : Prop where
  kind : sc.kind = .function
  co : sc.isCoroutine = false
  gen : sc.isGenerator = false
  nd : ps.Nodup
  par : ∀ x ∈ ps, sc.names.lookup x = some .local
  nocell : ∀ y ∈ sc.names, y.2 ≠ .cell
  free : ∀ x, sc.names.lookup x = some .free → x = "__class__"
  sup : sc.names.lookup ("super" : Str) = some .globalImplicit
  cls : sc.names.lookup ("__class__" : Str) = some .free
section
variable {CX : CXT} {P : Program} {w : World} {K : PySem.W.Frag} {mg : Str → Option Value} {base : Heap} {ps : List Str} {name qual : Str} {params : Arguments} {body : List Stmt} {scope : Scope} {dV kV doc pm cdv ct : Value} {an : Option Addr} {cc f : Addr} {A : Around} {outer : List Env} {s : Shared} {H : Hp} {E : XK} {us : List Value} {vs : List V}
theorem zip_get {v : Value} {i : Nat} {x : Str} : ∀ {ps : List Str} {us : List Value} {i : Nat}, ps.Nodup → ps[i]? = some x → us[i]? = some v → (ps.zip us).reverse.lookup x = some v := by
  intro ps
  induction ps with
  | nil => intro us i _ h _; simp at h
  | cons p ps ih =>
    intro us i nd h1 h2
    cases us with
    | nil => simp at h2
    | cons u us =>
      rw [List.zip_cons_cons, List.reverse_cons, List.lookup_append]
      cases i with
      | zero =>
        simp at h1 h2
        subst h1 h2
        have hn : (ps.zip us).reverse.lookup p = none := by
          rw [List.lookup_eq_none_iff]
          intro q hq
          have hq' : q ∈ ps.zip us := by simpa using hq
          have : q.1 ∈ ps := (List.of_mem_zip hq').1
          have hne : p ≠ q.1 := fun z => (List.nodup_cons.mp nd).1 (z ▸ this)
          simpa using hne
        rw [hn]
        simp [List.lookup]
      | succ i =>
        simp at h1 h2
        rw [ih (List.nodup_cons.mp nd).2 h1 h2]
        rfl
theorem inv_startS (S : ScopeS ps scope) (hd : A.handled = none) (e0 : Env0 P w K mg base A outer s H) (hl : vs.length = ps.length) (r : Vals vs us) (hc : ∃ cl cld v csl, K.lookup cc = some ⟨cl, cld, .cell v, csl⟩)
    {h₀ : Heap} {tk : Nat} (hns : h₀.Ns s.heap.objs.size (fun x => (ps.zip us).reverse.lookup x)) (hk : ∀ b o, s.heap.get? b = some o → h₀.get? b = some o) :
    Inv (cxS CX P w K mg base ps (fnS name qual params body scope dV kV doc pm an cdv ct cc) f A outer s H E) [] (vs.map some) H { s with heap := h₀, toks := tk } := by
  have noA : ∀ b : Addr, b ∉ (cxS CX P w K mg base ps (fnS name qual params body scope dV kV doc pm an cdv ct cc) f A outer s H E).ex := fun b z => absurd (show b ∈ ([] : List Addr) from z) (by simp)
  have KX : K.In s.heap := e0.mod.kin.keeps fun b o e => (e0.bs b o e).1
  obtain ⟨cl, cld, cv, csl, hcl⟩ := hc
  have lookc : ∀ x c, (cxS CX P w K mg base ps (fnS name qual params body scope dV kV doc pm an cdv ct cc) f A outer s H E).env.cells.lookup x = some c → x = "__class__" ∧ c = cc := fun x c h => by
    have h' : List.lookup x [(("__class__" : Str), cc)] = some c := h
    rw [List.lookup_cons] at h'
    split at h'
    · rename_i z
      cases h'
      exact ⟨beq_iff_eq.mp z, rfl⟩
    · cases h'
  have hcc : s.heap.get? cc = some ⟨cl, cld, .cell cv, csl⟩ := KX _ _ hcl
  have hcb : base.get? cc = some ⟨cl, cld, .cell cv, csl⟩ := e0.mod.kin _ _ hcl
  refine ⟨⟨e0.mod, S.kind, rfl, rfl, Nat.le_refl _, fun y z c h1 h2 => by rw [(lookc y c h1).1, (lookc z c h2).1], fun y hy => ?_, fun y c hf _ => (Bool.noConfusion hf), fun _ => hd, Around.frames_deeper e0.frames, .inr ⟨rfl, rfl⟩, fun b z => absurd z (noA b), e0.bs, e0.bsz, fun b _ _ => noA b, fun b z => absurd z (noA b), e0.funs, e0.frf⟩,
    rfl, e0.bare, Un.kept hk, ⟨_, hns, fun i y v h1 h2 h3 => ?_⟩, fun y c h => ?_, e0.hok.fresh (Nat.le_refl _), fun y c h => ?_, fun p hp => absurd (show p ∈ ([] : List (Addr × Obj)) from hp) (by simp), e0.hok.kept hk, ?_⟩
  · have hy : scope.names.lookup y = some .cell ∨ scope.names.lookup y = some .free := hy
    rcases hy with hy | hy
    · exact absurd rfl (S.nocell _ (PySem.mem_of_lookup hy))
    · have := S.free y hy
      subst this
      exact ⟨cc, by show List.lookup _ [(("__class__" : Str), cc)] = some cc; simp [List.lookup]⟩
  · have ha : vs[i]? = some v := by
      rw [List.getElem?_map] at h2
      cases e : vs[i]? with
      | none => rw [e] at h2; cases h2
      | some a => rw [e] at h2; cases h2; rfl
    obtain ⟨u, hu, rv⟩ := r.get ha
    have hp : ps[i]? = some y := h1
    exact ⟨u, rv, .inl ⟨S.par y (List.mem_of_getElem? hp), zip_get (i := i) S.nd hp hu⟩⟩
  · obtain ⟨rfl, rfl⟩ := lookc y c h
    exact ⟨_, _, hk _ _ hcc, rfl⟩
  · obtain ⟨rfl, rfl⟩ := lookc y c h
    exact (e0.bs _ _ hcb).2
  · show (vs.map some).length = ps.length
    simpa using hl
end
/-! ## the call of the wrapper -/
section
open PySem.W
variable {prog : Program} {w : World} {A : Around} {E : Value → Shared → Prop} {h : Heap} {g : Array GenState} {d : Drawn} {t : Nat} {os : OsState}
variable {nm q : Str} {C N : Addr} {bs bm : List Value} {hdct : Bool} {sn : List Str} {sub : List Value} {ab : Bool} {col : Option Bool} {dd : Option Addr} {k0 k1 k2 k3 k5 : Option Value}
theorem call_mw {u e t0 : Addr} {rest : List Value} {Q : Value → Shared → Prop}
    (hC : h.get? C = some (excClassObj nm q C N bs bm hdct sn sub ab col dd k0 k1 k2 k3 k5 "ValueError.__new__")) (he : h.get? e = some (PySem.HandSPX.excO C t0)) (hu : h.get? u = some (kxs_mw "ValueError.__init__" e)) (hrest : rest.length ≤ sizeLine)
    (hq : ∀ h' t1, (∀ b o, b ≠ e → h.get? b = some o → h'.get? b = some o) → h'.get? e = some (PySem.HandSPX.excO C t1) → Q .none ⟨h', g, d, t, os⟩) :
    wpAny (model prog w) A (call (.ref u) rest) Q E ⟨h, g, d, t, os⟩ := by
  refine wpAny_call (codeAny_of_tree ?_)
  show wpAny _ A.in1 (callAny (.ref u) ⟨rest, []⟩) _ _ _
  simp only [callAny]
  refine wpAny_bind (wpAny_load hu ?_)
  simp only [kxs_mw, show (Value.type "method-wrapper" == Value.type "method" || Value.type "method-wrapper" == Value.type "builtin_function_or_method" || Value.type "method-wrapper" == Value.type "method-wrapper") = true by decide, if_true]
  refine W.KFB.if_so (by decide) ?_
  refine wpAny_bind (PySem.ESX.check_bound F.excBase_ValueError hC he rfl ?_)
  refine wpAny_bind (wpAny_pure (wpAny_pure ?_))
  refine ⟨Code.quiet_builtin _ (by decide +kernel), codeAny_builtin F.excBase_ValueError.initEntry ?_⟩
  rw [Around.under_plainId F.excBase_ValueError.init.plain _]
  wp_walk
  refine hq _ h.objs.size (fun b o hb ho => ?_) ?_
  · rw [Heap.get?_update_other _ _ (Ne.symm hb)]
    exact Heap.get?_push_of_some _ ho
  · rw [Heap.get?_update_self _ (Heap.get?_push_of_some _ he) rfl]
    rfl
end

section
open PySem.W
variable {CX : CXT} {P : Program} {w : World} {K : PySem.W.Frag} {mg : Str → Option Value} {base : Heap} {ps : List Str} {name qual : Str} {params : Arguments} {rest : List Stmt} {scope : Scope} {dV kV doc pm ct oc ccl cl : Value} {an od cdd cld : Option Addr} {cc cda f C : Addr} {osl ccs csl : Array (Option Value)} {sp : Sp} {k : Nat}
  {p0 p1 p2 p3 p4 : Pos} {e : Expr} {es : List Expr} {cvs : Array Value} {file : Str} {tf : Tok} {cdD : ClassData} {ar : Arg}
abbrev bodyS (p0 p1 p2 p3 p4 : Pos) (e : Expr) (es : List Expr) (rest : List Stmt) : List Stmt := .Expr (.Call (.Attribute (.Call (.Name "super" p0) [] [] p1) "__init__" p2) (e :: es) [] p3) p4 :: rest
theorem fn_sup (lk : K.lookup f = some ⟨oc, od, .func (fnS name qual params (bodyS p0 p1 p2 p3 p4 e es rest) scope dV kV doc pm an (.ref cda) ct cc), osl⟩) (hcd : codeIn K (.ref cda) qual = true) (S : ScopeS ps scope)
    (har : (params.posonlyargs ++ params.args).head? = some ar) (hps : ps[0]? = some ar.arg) (T : OexC K C)
    (hcode : K.lookup cda = some ⟨ccl, cdd, .fields cvs, ccs⟩) (hvs : cvs[2]? = some (.str file tf)) (hfile : ((P.main.file : Str) == file) = true)
    (hcell : K.lookup cc = some ⟨cl, cld, .cell (some (.ref C)), csl⟩) (hD : clsIn K C = some cdD) (hsub : mroIn K C (.ref C) = some true) (hsuper : mg "super" = none)
    (htop : (P.main.scope.names.lookup ("super" : Str)).isSome = false) (hboot : bootBuiltins "super" = some (.type "super")) (hop : nsIn K cStatics "thirdparty.any" = some none)
    (hsu : ks_superIn K C C "__init__" = some (some (.builtin "ValueError.__init__"))) (hB : subIn K (.ref C) (.type "ValueError") = some true)
    (len : ∀ vs H Q E, sp vs H Q E → vs.length = ps.length)
    (hbody : ∀ (A : Around) (outer : List Env) (s : Shared) (H : Hp) (vs : List V) (Q : VK) (E : XK), Room k (A.deeper (callEnv (fnS name qual params (bodyS p0 p1 p2 p3 p4 e es rest) scope dV kV doc pm an (.ref cda) ct cc) s.heap.objs.size f)) → sp vs H Q E →
      ∃ a vr ta t, vs = .ref a :: vr ∧ H a = some (exo a C none) ∧
        PA (cxS CX P w K mg base ps (fnS name qual params (bodyS p0 p1 p2 p3 p4 e es rest) scope dV kV doc pm an (.ref cda) ct cc) f A outer s H E) (e :: es) ta ∧ ta (vs.map some) H (fun ws H' => H' = H ∧ ws.length ≤ 1000) ∧
        PSs (cxS CX P w K mg base ps (fnS name qual params (bodyS p0 p1 p2 p3 p4 e es rest) scope dV kV doc pm an (.ref cda) ct cc) f A outer s H E) rest t ∧ t { nx := fun _ H' => Q .non H', rt := Q } (vs.map some) H)
    (hm1 : eval (.Call (.Attribute (.Call (.Name "super" p0) [] [] p1) "__init__" p2) (e :: es) [] p3) = fun env => (do
      let ov ← attributeBase (.Call (.Name "super" p0) [] [] p1) "__init__" env (eval (.Call (.Name "super" p0) [] [] p1) env)
      standAt p2.atName
      let (f, first) ← holding [ov] (getMethod ov "__init__" (pure false))
      callWith p3 f first (backTo p3 (starEach (e :: es) env)) []) := by rfl)
    (he : ∀ env, starEach (e :: es) env = (false, eval e env) :: starEach es env := by intro _; rfl) (hpl : ∀ env, (backTo p3 (starEach es env)).any (·.1) = false := by intro _; rfl) :
    FnOk P w K mg base CX (k + 1) f (fnS name qual params (bodyS p0 p1 p2 p3 p4 e es rest) scope dV kV doc pm an (.ref cda) ct cc) ps sp := by
  refine ⟨len, fun A outer s H args us vs Q E hr e0 hb r hsp => ?_⟩
  have hl := len _ _ _ _ hsp
  have KX : K.In s.heap := e0.mod.kin.keeps fun b o e => (e0.bs b o e).1
  have lim : s.heap.NoLimit := e0.mod.nolimit.keeps fun b o e => (e0.bs b o e).1
  refine PySem.ks_codeAny_call_defAt hr.depth (KX _ _ lk) rfl lim (codeRec_of KX hcd) rfl hb S.nocell (fun ⟨n, v⟩ hy => S.par n (List.of_mem_zip hy).1) (fun h₀ hns hk => ?_) S.co S.gen S.kind
  obtain ⟨a, vr, ta, t, rfl, ha, hA, qA, ht, qt⟩ := hbody A outer s H vs Q E (hr.deeper _) hsp
  have I : L2.Inv (cxS CX P w K mg base ps (fnS name qual params (bodyS p0 p1 p2 p3 p4 e es rest) scope dV kV doc pm an (.ref cda) ct cc) f A outer s H E) [] ((V.ref a :: vr).map some) H { s with heap := h₀, toks := s.toks + (ps.zip us).length } :=
    inv_startS S hr.hd e0 hl r ⟨_, _, _, _, hcell⟩ hns hk
  -- the first statement
  refine PySem.ks_wpAt_execs_cons (PySem.ks_wpAt_Expr_any (PySem.ks_wpAt_MethodCall (pl := pure false) ?_ (by rw [hm1])) ?hi ?hs)
  case hi => simp [interactive, callEnv, newEnv, S.kind]
  case hs => rfl
  -- the heap's facts
  have kI := I.kIn
  have hCo : ∃ oD, h₀.get? C = some oD ∧ oD.data = .cls cdD := by
    unfold clsIn at hD
    split at hD
    · rename_i c d cd' sl ho
      cases hD
      exact ⟨_, kI _ _ ho, rfl⟩
    · cases hD
  obtain ⟨oD, hD1, hD2⟩ := hCo
  obtain ⟨t1, hx⟩ := exo_at I.hok ha
  have hxC : a ≠ C := by
    intro z
    rw [z] at hx
    have hx' : h₀.get? C = _ := hx
    rw [hD1] at hx'
    cases hx'
    cases hD2
  have hself : us[0]? = some (.ref a) := by
    cases r with
    | cons q _ => cases q; rfl
  refine PySem.ks_wpAt_super_base S.sup S.cls (by decide) rfl (kI _ _ lk) rfl har rfl (kI _ _ hcode) rfl hvs hfile htop ?_
  obtain ⟨mb, bl1, bl2⟩ := I.mod.blt
  refine ks_loadName_global S.kind S.sup (Calls.loadGlobal_builtin (I.mod.glob.keeps I.bk) hsuper (bl1.keeps I.bk) ((bl2 _ (by decide)).trans hboot) ⟨rfl, ?_⟩)
  refine wpAny_loadName_free S.kind S.cls rfl ⟨_, kI _ _ hcell, rfl⟩ ?_
  refine wpAny_loadName_local S.kind (S.par _ (List.mem_of_getElem? hps)) hns (zip_get (i := 0) S.nd hps hself) ?_
  refine PySem.ks_wpAny_isType_cls hD1 hD2 ⟨rfl, ?_⟩
  refine PySem.ks_wpAny_call_super hD1 hD2 hx rfl (fun c z => by cases z) (looks_mroIn kI hsub) (fun h1 e1 k1 => ?_)
  have I1 := I.kept (h' := h1) (t' := s.toks + (ps.zip us).length) fun b u q => k1 b u q
  have kI1 := I1.kIn
  refine kxs_getMethod kxs_ValueError e1 (looks_opaque kI1 hop) (l₀ := cdD.mro) ?g1 rfl kI1 ?g2 ?g3 hxC (by decide) ?g4
  case g1 => exact fun A Q E s k q => wpAny_bind ((looks_clsIn kI1 hD) A _ E s k (wpAny_pure q))
  case g2 =>
    unfold ks_superIn at hsu
    rw [hD] at hsu
    exact hsu
  case g3 =>
    have ty : Looks (model P w) h1 (typeOf (.ref a)) (.ref C) := fun A Q E s k q => wpAny_typeOf_ref (k _ _ (k1 _ _ hx)) q
    exact ty.andThen (looks_subIn kI1 hB)
  case g4 =>
    refine kxs_callWith (i := "ValueError.__init__") (x := a) (by rw [he]; show (false || (backTo p3 (starEach es _)).any (·.1)) = false; rw [hpl]; rfl) ?_
    have I2 := I1.kept (h' := h1.push (kxs_mw "ValueError.__init__" a)) (t' := s.toks + (ps.zip us).length + 1) fun b u q => Heap.get?_push_of_some _ q
    have hu : (h1.push (kxs_mw "ValueError.__init__" a)).get? h1.objs.size = some (kxs_mw "ValueError.__init__" a) := Heap.get?_push_size _ rfl
    have I3 := I2.pins_of (pins' := [(h1.objs.size, kxs_mw "ValueError.__init__" a)]) fun p hp => by
      have : p = (h1.objs.size, kxs_mw "ValueError.__init__" a) := by simpa using hp
      subst this
      exact ⟨hu, I1.hok.fresh (Nat.le_refl _), Nat.ne_of_gt I1.lt, I1.nofs (Nat.le_refl _), fun v z => by cases z⟩
    rw [he]
    refine Calls.evalArgs_plain ?_
    have hrun := hA.run p3 [(h1.objs.size, kxs_mw "ValueError.__init__" a)] _ _ H _ I3 qA
    rw [he] at hrun
    refine wpAny_mono hrun (fun ws s3 ⟨wvs, H3, I4, rw3, eH, lw⟩ => ?_) fun _ _ z => z
    subst eH
    have hp := I4.pin (h1.objs.size, kxs_mw "ValueError.__init__" a) (by simp [cxS])
    refine ⟨hp.1, ?_⟩
    obtain ⟨nm, q, N, bs, bm, sn, sub, ab, col, dd, k0, k1', k2, k3, k5, hC, hbm⟩ := T.cls
    obtain ⟨t2, hx2⟩ := exo_at I4.hok ha
    obtain ⟨hp3, g3, d3, tk3, os3⟩ := s3
    refine call_mw (I4.kIn _ _ hC) hx2 hp.1 ?_ fun h4 t4 k4 hx4 => ?_
    · show ([] ++ ws).length ≤ sizeLine
      rw [List.nil_append, ← Paired.length rw3, sizeLine_eq]
      omega
    have J := I4.write (t' := tk3) (x := a) (e := a) (o := exo a C none) (by rw [ha]; exact True.intro) (.inl rfl) k4 ⟨_, hx4⟩ (exo_ok hx4)
    have eu : upd H3 a (exo a C none) = H3 := by
      funext b
      by_cases hb : b = a
      · rw [hb, upd_same, ha]
      · rw [upd_ne hb]
    rw [eu] at J
    refine PySem.wpAt_of_wpAny (wpAny_mono (ht.run _ _ _ H3 _ J qt) (fun fl s' hs => ?_) fun e s' hs => hs)
    have fin : ∀ {σ' : L2.St} {H' : Hp} {v : V} {u : Value} {pp}, L2.Inv (cxS CX P w K mg base ps (fnS name qual params (bodyS p0 p1 p2 p3 p4 e es rest) scope dV kV doc pm an (.ref cda) ct cc) f A outer s H3 E) pp σ' H' s' → RelV v u → Q v H' → CE outer P w H3 s Q u s' :=
      fun {σ' H' v u pp} J rv q => ⟨v, H', J.os, J.bare, J.base, J.hok, rv, q⟩
    cases fl with
    | ret u =>
      obtain ⟨v, σ', H', J, rv, q⟩ := hs
      exact fin J rv q
    | next =>
      obtain ⟨σ', H', J, q⟩ := hs
      exact fin (v := V.non) (u := Value.none) J rfl q
    | brk =>
      obtain ⟨_, _, _, q⟩ := hs
      exact False.elim q
    | cont =>
      obtain ⟨_, _, _, q⟩ := hs
      exact False.elim q
end
end FdX
set_option Elab.async false
set_option linter.all false
set_option maxRecDepth 100000
set_option maxHeartbeats 4000000
namespace Fd
open PySem PySem.Spec PyProof.Rows L2

/-! ## data -/
inductive D where
  | non | bl (b : Bool) | int (i : Int) | str (x : Str) | tup (ds : List D) | lst (ds : List D) | obj (c : Nat) (ds : List (Str × D))

/-- a locked list -/
def FzL (K : PySem.W.Frag) (H : Hp) (a : Addr) (xs : List V) : Prop := ∃ o, H a = some (.frz o (.lst xs))
theorem FzL.rd {K : PySem.W.Frag} {H : Hp} {a : Addr} {xs : List V} (h : FzL K H a xs) : Rd H a (.lst xs) := .inr h
theorem FzL.sq {K : PySem.W.Frag} {H : Hp} {a : Addr} {xs : List V} (h : FzL K H a xs) : SqL K H a xs := .inl (.inr h)
def Imm : HO → Prop
  | .tup _ => True
  | .frz _ _ => True
  | .xd _ => True
  | _ => False

section
variable (K : PySem.W.Frag) (ct : Nat → Addr)
mutual
inductive RepD (H : Hp) : V → D → Prop
  | non : RepD H .non .non
  | bl (b : Bool) : RepD H (.bl b) (.bl b)
  | int (i : Int) : RepD H (.int i) (.int i)
  | str (x : Str) : RepD H (.str x) (.str x)
  | tup {a : Addr} {vs : List V} {ds : List D} : SqT K H a vs → RepDs H vs ds → RepD H (.ref a) (.tup ds)
  | lst {a : Addr} {vs : List V} {ds : List D} : FzL K H a vs → RepDs H vs ds → RepD H (.ref a) (.lst ds)
  | obj {a dx : Addr} {o : Obj} {c : Nat} {fs : List (Str × V)} {ds : List (Str × D)} : H a = some (.frz o (.ins (ct c) dx fs)) → fs.map (·.1) = ds.map (·.1) → RepDs H (fs.map (·.2)) (ds.map (·.2)) → RepD H (.ref a) (.obj c ds)
inductive RepDs (H : Hp) : List V → List D → Prop
  | nil : RepDs H [] []
  | cons {v : V} {vs : List V} {d : D} {ds : List D} : RepD H v d → RepDs H vs ds → RepDs H (v :: vs) (d :: ds)
end
end
def KeepI (H H' : Hp) : Prop := ∀ a o, H a = some o → Imm o → H' a = some o
section
variable {K : PySem.W.Frag} {ct : Nat → Addr} {H H' : Hp}
theorem FzL.mono (k : KeepI H H') {a : Addr} {xs : List V} (h : FzL K H a xs) : FzL K H' a xs := by
  obtain ⟨o, h⟩ := h
  exact ⟨o, k _ _ h trivial⟩
theorem sqT_mono (k : KeepI H H') {a : Addr} {xs : List V} (h : SqT K H a xs) : SqT K H' a xs := by
  rcases h with (h | ⟨o, h⟩) | h
  · exact .inl (.inl (k _ _ h trivial))
  · exact .inl (.inr ⟨o, k _ _ h trivial⟩)
  · exact .inr h
mutual
theorem RepD.mono (k : KeepI H H') : ∀ {v : V} {d : D}, RepD K ct H v d → RepD K ct H' v d
  | _, _, .non => .non
  | _, _, .bl b => .bl b
  | _, _, .int i => .int i
  | _, _, .str x => .str x
  | _, _, .tup h r => .tup (sqT_mono k h) (RepDs.mono k r)
  | _, _, .lst h r => .lst (h.mono k) (RepDs.mono k r)
  | _, _, .obj h e r => .obj (k _ _ h trivial) e (RepDs.mono k r)
theorem RepDs.mono (k : KeepI H H') : ∀ {vs : List V} {ds : List D}, RepDs K ct H vs ds → RepDs K ct H' vs ds
  | _, _, .nil => .nil
  | _, _, .cons r t => .cons (RepD.mono k r) (RepDs.mono k t)
end
theorem RepDs.length {vs : List V} {ds : List D} (r : RepDs K ct H vs ds) : vs.length = ds.length := by
  induction ds generalizing vs with
  | nil => cases r; rfl
  | cons d ds ih => cases r with | cons _ t => simp [ih t]
theorem RepDs.get {vs : List V} {ds : List D} (r : RepDs K ct H vs ds) : ∀ {i : Nat} {d : D}, ds[i]? = some d → ∃ v, vs[i]? = some v ∧ RepD K ct H v d := by
  induction ds generalizing vs with
  | nil => intro i d h; simp at h
  | cons d ds ih =>
    cases r with
    | cons q t =>
      intro i d' h
      cases i with
      | zero => simp at h; subst h; exact ⟨_, rfl, q⟩
      | succ i => simp at h; obtain ⟨v, e, q'⟩ := ih t h; exact ⟨v, by simpa using e, q'⟩
theorem RepDs.append {vs us : List V} {ds es : List D} (r : RepDs K ct H vs ds) (q : RepDs K ct H us es) : RepDs K ct H (vs ++ us) (ds ++ es) := by
  induction ds generalizing vs with
  | nil => cases r; exact q
  | cons d ds ih => cases r with | cons h t => exact .cons h (ih t)
end

/-! ## states -/
inductive SV where
  | dat (d : D) | ref (k : Nat) | hand
inductive RV where
  | sv (x : SV) | new (xs : List SV)
structure Hand where
  great : List Int
  mixed : Int
  cnt : Int
structure S where
  env : List (Option SV)
  mem : List (Option (List SV))
  hd : Option Hand
structure Exn where
  c : Nat
  fs : List (Str × D)
inductive Out (α : Type) where
  | ok (a : α) (s : S) | exc (x : Exn) (s : S) | bad
def Out.post {α : Type} (o : Out α) (P : α → S → Prop) (E : Exn → S → Prop) : Prop := match o with
  | .ok a s => P a s
  | .exc x s => E x s
  | .bad => False
theorem Out.post.imp {α : Type} {o : Out α} {P P' : α → S → Prop} {E E' : Exn → S → Prop} (h : o.post P E) (hp : ∀ a s, P a s → P' a s) (he : ∀ x s, E x s → E' x s) : o.post P' E' := by
  cases o with
  | ok a s => exact hp a s h
  | exc x s => exact he x s h
  | bad => exact h
abbrev M (α : Type) := S → Out α
def pur {α : Type} (a : α) : M α := fun s => .ok a s
def bnd {α β : Type} (m : M α) (f : α → M β) : M β := fun s => match m s with
  | .ok a s' => f a s'
  | .exc x s' => .exc x s'
  | .bad => .bad
def stuck {α : Type} : M α := fun _ => .bad
theorem post_bnd {α β : Type} {m : M α} {f : α → M β} {s : S} {P : β → S → Prop} {E : Exn → S → Prop} (h : (bnd m f s).post P E) : (m s).post (fun a s1 => (f a s1).post P E) E := by
  unfold bnd at h
  cases e : m s with
  | ok a s' => rw [e] at h; exact h
  | exc x s' => rw [e] at h; exact h
  | bad => rw [e] at h; exact h

/-! ## what stands for a state -/
structure G where
  kp : Nat → Addr
  ah : Addr
  g : Addr
def Live (s : S) (k : Nat) : Prop := ∃ xs, s.mem[k]? = some (some xs)
theorem Live.lt {s : S} {k : Nat} (h : Live s k) : k < s.mem.length := by
  obtain ⟨xs, h⟩ := h
  exact (List.getElem?_eq_some_iff.mp h).1
def Own (γ : G) (s : S) (a : Addr) : Prop := (∃ k, Live s k ∧ γ.kp k = a) ∨ (s.hd ≠ none ∧ (a = γ.ah ∨ a = γ.g))
def HandAt (γ : G) (H : Hp) (h : Hand) : Prop := H γ.ah = some (.lst [.ref γ.g, .int h.mixed, .int h.cnt]) ∧ H γ.g = some (.lst (h.great.map V.int))
section
variable (K : PySem.W.Frag) (ct : Nat → Addr)
def RepS (γ : G) (n : Nat) (H : Hp) (v : V) : SV → Prop
  | .dat d => RepD K ct H v d
  | .ref k => k < n ∧ v = .ref (γ.kp k)
  | .hand => v = .ref γ.ah
structure Rep (γ : G) (H : Hp) (σ : L2.St) (s : S) : Prop where
  len : σ.length = s.env.length
  env : ∀ (i : Nat) x, s.env[i]? = some (some x) → ∃ v, σ[i]? = some (some v) ∧ RepS K ct γ s.mem.length H v x
  mem : ∀ (k : Nat) xs, s.mem[k]? = some (some xs) → ∃ vs, H (γ.kp k) = some (.lst vs) ∧ Paired (RepS K ct γ s.mem.length H) vs xs
  inj : ∀ j k, Live s j → Live s k → γ.kp j = γ.kp k → j = k
  hd : ∀ h, s.hd = some h → HandAt γ H h
  hdk : s.hd ≠ none → ∀ k, Live s k → γ.kp k ≠ γ.ah ∧ γ.kp k ≠ γ.g
structure Step (γ γ' : G) (s s' : S) (H H' : Hp) : Prop where
  keep : ∀ a o, H a = some o → ¬ Own γ s a → H' a = some o
  own : ∀ a, Own γ' s' a → Own γ s a ∨ H a = none
  imm : KeepI H H'
  there : ∀ a, H a ≠ none → H' a ≠ none
  kp : ∀ k, k < s.mem.length → γ'.kp k = γ.kp k
  len : s.mem.length ≤ s'.mem.length
  ah : γ'.ah = γ.ah
  fresh : ∀ k, s.mem.length ≤ k → k < s'.mem.length → H (γ'.kp k) = none
def RepR (γ : G) (s : S) (H0 H : Hp) (v : V) : RV → Prop
  | .sv x => RepS K ct γ s.mem.length H v x
  | .new xs => ∃ a vs, v = .ref a ∧ H0 a = none ∧ H a = some (.lst vs) ∧ ¬ Own γ s a ∧ Paired (RepS K ct γ s.mem.length H) vs xs
/-- an exception: its class, its own dict -/
def RepX (H : Hp) (x : Exn) (cl : Value) (d : Option Addr) : Prop := cl = .ref (ct x.c) ∧ ((x.fs = [] ∧ d = none) ∨ ∃ dx fs, d = some dx ∧ H dx = some (.xd fs) ∧ fs.map (·.1) = x.fs.map (·.1) ∧ RepDs K ct H (fs.map (·.2)) (x.fs.map (·.2)))
end
section
variable {K : PySem.W.Frag} {ct : Nat → Addr} {γ γ1 γ2 : G} {s s1 s2 : S} {H H1 H2 : Hp} {σ : L2.St}
theorem KeepI.refl : KeepI H H := fun _ _ e _ => e
theorem KeepI.trans (a : KeepI H H1) (b : KeepI H1 H2) : KeepI H H2 := fun x o e i => b x o (a x o e i) i
theorem Step.refl : Step γ γ s s H H := ⟨fun _ _ e _ => e, fun _ h => .inl h, KeepI.refl, fun _ z => z, fun _ _ => rfl, Nat.le_refl _, rfl, fun _ h1 h2 => absurd h2 (Nat.not_lt.mpr h1)⟩
theorem Step.trans (a : Step γ γ1 s s1 H H1) (b : Step γ1 γ2 s1 s2 H1 H2) : Step γ γ2 s s2 H H2 where
  keep := fun x o e n => b.keep x o (a.keep x o e n) fun z => by
    rcases a.own x z with q | q
    · exact n q
    · rw [q] at e; cases e
  own := fun x z => by
    rcases b.own x z with q | q
    · exact a.own x q
    · by_cases n : Own γ s x
      · exact .inl n
      · right
        cases e : H x with
        | none => rfl
        | some o => rw [a.keep x o e n] at q; cases q
  imm := a.imm.trans b.imm
  there := fun x z => b.there x (a.there x z)
  kp := fun k h => (b.kp k (Nat.lt_of_lt_of_le h a.len)).trans (a.kp k h)
  len := Nat.le_trans a.len b.len
  ah := b.ah.trans a.ah
  fresh := fun k h1 h2 => by
    by_cases h : k < s1.mem.length
    · rw [b.kp k h]; exact a.fresh k h1 h
    · have q := b.fresh k (Nat.not_lt.mp h) h2
      cases e : H (γ2.kp k) with
      | none => rfl
      | some o => exact absurd q (a.there _ (by rw [e]; exact fun z => by cases z))
theorem RepS.mono (t : Step γ γ1 s s1 H H1) {v : V} {x : SV} (h : RepS K ct γ s.mem.length H v x) : RepS K ct γ1 s1.mem.length H1 v x := by
  cases x with
  | dat d => exact RepD.mono t.imm h
  | ref k => exact ⟨Nat.lt_of_lt_of_le h.1 t.len, by rw [t.kp k h.1]; exact h.2⟩
  | hand => show v = .ref γ1.ah; rw [t.ah]; exact h
theorem RepSs.mono (t : Step γ γ1 s s1 H H1) {vs : List V} {xs : List SV} (h : Paired (RepS K ct γ s.mem.length H) vs xs) : Paired (RepS K ct γ1 s1.mem.length H1) vs xs := Paired.mapP h fun _ _ r => r.mono t
theorem RepR.mono {H0 : Hp} (t : Step γ γ1 s s1 H H1) {v : V} {r : RV} (h : RepR K ct γ s H0 H v r) : RepR K ct γ1 s1 H0 H1 v r := by
  cases r with
  | sv x => exact RepS.mono t h
  | new xs =>
    obtain ⟨a, vs, rfl, e0, e, n, p⟩ := h
    refine ⟨a, vs, rfl, e0, t.keep a _ e n, fun z => ?_, RepSs.mono t p⟩
    rcases t.own a z with q | q
    · exact n q
    · rw [q] at e; cases e
theorem free_of {H H1 : Hp} (t : ∀ a, H a ≠ none → H1 a ≠ none) {a : Addr} (e : H1 a = none) : H a = none := by
  cases q : H a with
  | none => rfl
  | some o => exact absurd e (t a (by rw [q]; exact fun z => by cases z))
theorem RepR.base {Ha Hb : Hp} (t : ∀ a, Ha a ≠ none → Hb a ≠ none) {v : V} {r : RV} (h : RepR K ct γ s Hb H v r) : RepR K ct γ s Ha H v r := by
  cases r with
  | sv x => exact h
  | new xs =>
    obtain ⟨a, vs, rfl, e0, e, n, p⟩ := h
    exact ⟨a, vs, rfl, free_of t e0, e, n, p⟩
theorem Rep.own_lst (R : Rep K ct γ H σ s) {a : Addr} (h : Own γ s a) : ∃ vs, H a = some (.lst vs) := by
  rcases h with ⟨k, ⟨xs, e⟩, rfl⟩ | ⟨n, h⟩
  · obtain ⟨vs, q, _⟩ := R.mem k xs e
    exact ⟨vs, q⟩
  · cases e : s.hd with
    | none => exact absurd e n
    | some hh =>
      obtain ⟨q1, q2⟩ := R.hd hh e
      rcases h with rfl | rfl
      · exact ⟨_, q1⟩
      · exact ⟨_, q2⟩
theorem Rep.imm_notOwn (R : Rep K ct γ H σ s) {a : Addr} {o : HO} (e : H a = some o) (i : Imm o) : ¬ Own γ s a := fun z => by
  obtain ⟨vs, q⟩ := R.own_lst z
  rw [q] at e; cases e; exact i
theorem keepI_new {p : Addr} {o : HO} (h : H p = none) : KeepI H (upd H p o) := fun a u e _ => by
  rw [upd_ne (ne_of_none e h)]; exact e
/-- a new object that is not owned -/
theorem there_upd {p : Addr} {o : HO} : ∀ a, H a ≠ none → upd H p o a ≠ none := fun a z => by
  unfold upd
  split
  · exact fun q => by cases q
  · exact z
theorem Step.laid {p : Addr} {o : HO} (h : H p = none) : Step γ γ s s H (upd H p o) :=
  ⟨fun a u e _ => by rw [upd_ne (ne_of_none e h)]; exact e, fun _ z => .inl z, keepI_new h, there_upd, fun _ _ => rfl, Nat.le_refl _, rfl, fun _ h1 h2 => absurd h2 (Nat.not_lt.mpr h1)⟩
theorem HandAt.mono {h : Hand} (e1 : ∀ a o, H a = some o → (a = γ.ah ∨ a = γ.g) → H1 a = some o) (x : HandAt γ H h) : HandAt γ H1 h := ⟨e1 _ _ x.1 (.inl rfl), e1 _ _ x.2 (.inr rfl)⟩
/-- all is kept -/
theorem Rep.kept (R : Rep K ct γ H σ s) (k : ∀ a o, H a = some o → H1 a = some o) : Rep K ct γ H1 σ s := by
  have st : Step γ γ s s H H1 := ⟨fun a o e _ => k a o e, fun _ z => .inl z, fun a o e _ => k a o e, fun a z q => z (by cases e : H a with | none => rfl | some o => rw [k a o e] at q; cases q), fun _ _ => rfl, Nat.le_refl _, rfl, fun _ h1 h2 => absurd h2 (Nat.not_lt.mpr h1)⟩
  refine ⟨R.len, fun i x e => ?_, fun k' xs e => ?_, R.inj, fun h e => ?_, R.hdk⟩
  · obtain ⟨v, q, r⟩ := R.env i x e
    exact ⟨v, q, r.mono st⟩
  · obtain ⟨vs, q, r⟩ := R.mem k' xs e
    exact ⟨vs, k _ _ q, RepSs.mono st r⟩
  · exact (R.hd h e).mono fun a o q _ => k a o q
theorem Rep.laid (R : Rep K ct γ H σ s) {p : Addr} {o : HO} (h : H p = none) : Rep K ct γ (upd H p o) σ s := R.kept fun a u e => by rw [upd_ne (ne_of_none e h)]; exact e
theorem Rep.notOwn_free (R : Rep K ct γ H σ s) {p : Addr} (h : H p = none) : ¬ Own γ s p := fun z => by
  obtain ⟨vs, q⟩ := R.own_lst z
  rw [h] at q; cases q
end

/-! ## judgements -/
section
variable (K : PySem.W.Frag) (ct : Nat → Addr)
def GoodX (W : WX) (σ : L2.St) (γ : G) (s : S) (H : Hp) (x : Exn) (s' : S) : Prop := ∀ cl d γ' H', Step γ γ' s s' H H' → Rep K ct γ' H' σ s' → RepX K ct H' x cl d → W cl d σ H'
def Good (W : WX) (σ : L2.St) (γ : G) (s : S) (H : Hp) (o : Out RV) (Q : VK) : Prop :=
  o.post (fun r s' => ∀ v γ' H', Step γ γ' s s' H H' → Rep K ct γ' H' σ s' → RepR K ct γ' s' H H' v r → Q v H') (GoodX K ct W σ γ s H)
def GoodT (W : WX) (σ : L2.St) (γ : G) (s : S) (H : Hp) (o : Out Bool) (Q : Bool → Hp → Prop) : Prop :=
  o.post (fun b s' => ∀ γ' H', Step γ γ' s s' H H' → Rep K ct γ' H' σ s' → Q b H') (GoodX K ct W σ γ s H)
def GoodA (W : WX) (σ : L2.St) (γ : G) (s : S) (H : Hp) (o : Out (List SV)) (Q : List V → Hp → Prop) : Prop :=
  o.post (fun xs s' => ∀ vs γ' H', Step γ γ' s s' H H' → Rep K ct γ' H' σ s' → Paired (RepS K ct γ' s'.mem.length H') vs xs → Q vs H') (GoodX K ct W σ γ s H)
inductive Fl where
  | nx | bk | ct | rt (r : RV)
def GoodXS (W : WX) (γ : G) (s : S) (H : Hp) (x : Exn) (s' : S) : Prop := ∀ cl d σ' γ' H', Step γ γ' s s' H H' → Rep K ct γ' H' σ' s' → RepX K ct H' x cl d → W cl d σ' H'
def GoodF (γ : G) (s : S) (H : Hp) (N : Ends) (f : Fl) (s' : S) : Prop := match f with
  | .nx => ∀ σ' γ' H', Step γ γ' s s' H H' → Rep K ct γ' H' σ' s' → N.nx σ' H'
  | .bk => ∀ σ' γ' H', Step γ γ' s s' H H' → Rep K ct γ' H' σ' s' → N.bk σ' H'
  | .ct => ∀ σ' γ' H', Step γ γ' s s' H H' → Rep K ct γ' H' σ' s' → N.ct σ' H'
  | .rt r => ∀ v σ' γ' H', Step γ γ' s s' H H' → Rep K ct γ' H' σ' s' → RepR K ct γ' s' H H' v r → N.rt v H'
def GoodS (W : WX) (γ : G) (s : S) (H : Hp) (o : Out Fl) (N : Ends) : Prop := o.post (GoodF K ct γ s H N) (GoodXS K ct W γ s H)
end
structure ED (X : Cx) (ct : Nat → Addr) (W : WX) (e : Expr) (m : M RV) : Prop where
  ex : ∃ t, PE X e t ∧ ∀ σ H γ s Q, Rep X.K ct γ H σ s → Good X.K ct W σ γ s H (m s) Q → t σ H Q
structure TD (X : Cx) (ct : Nat → Addr) (W : WX) (e : Expr) (m : M Bool) : Prop where
  ex : ∃ t, PT X e t ∧ ∀ σ H γ s Q, Rep X.K ct γ H σ s → GoodT X.K ct W σ γ s H (m s) Q → t σ H Q
structure AD (X : Cx) (ct : Nat → Addr) (W : WX) (es : List Expr) (m : M (List SV)) : Prop where
  ex : ∃ t, PA X es t ∧ ∀ σ H γ s Q, Rep X.K ct γ H σ s → GoodA X.K ct W σ γ s H (m s) Q → t σ H Q
structure SD (X : Cx) (ct : Nat → Addr) (W : WX) (st : Stmt) (m : M Fl) : Prop where
  ex : ∃ t, PS X st t ∧ ∀ N σ H γ s, Rep X.K ct γ H σ s → GoodS X.K ct W γ s H (m s) N → t N σ H
structure SDs (X : Cx) (ct : Nat → Addr) (W : WX) (st : List Stmt) (m : M Fl) : Prop where
  ex : ∃ t, PSs X st t ∧ ∀ N σ H γ s, Rep X.K ct γ H σ s → GoodS X.K ct W γ s H (m s) N → t N σ H
section
variable {K : PySem.W.Frag} {ct : Nat → Addr} {W : WX} {γ γ1 : G} {s s1 : S} {H H1 : Hp} {σ : L2.St}
theorem GoodX.step {x : Exn} {s' : S} (t : Step γ γ1 s s1 H H1) (h : GoodX K ct W σ γ s H x s') : GoodX K ct W σ γ1 s1 H1 x s' := fun cl d γ' H' t' => h cl d γ' H' (t.trans t')
theorem GoodXS.step {x : Exn} {s' : S} (t : Step γ γ1 s s1 H H1) (h : GoodXS K ct W γ s H x s') : GoodXS K ct W γ1 s1 H1 x s' := fun cl d σ' γ' H' t' => h cl d σ' γ' H' (t.trans t')
theorem GoodXS.at {x : Exn} {s' : S} (h : GoodXS K ct W γ s H x s') : GoodX K ct W σ γ s H x s' := fun cl d γ' H' t' => h cl d σ γ' H' t'
theorem Good.step {o : Out RV} {Q : VK} (t : Step γ γ1 s s1 H H1) (h : Good K ct W σ γ s H o Q) : Good K ct W σ γ1 s1 H1 o Q := Out.post.imp h (fun r s' q v γ' H' t' R' r' => q v γ' H' (t.trans t') R' (r'.base t.there)) fun x s' q => q.step t
theorem GoodT.step {o : Out Bool} {Q : Bool → Hp → Prop} (t : Step γ γ1 s s1 H H1) (h : GoodT K ct W σ γ s H o Q) : GoodT K ct W σ γ1 s1 H1 o Q := Out.post.imp h (fun r s' q γ' H' t' => q γ' H' (t.trans t')) fun x s' q => q.step t
theorem GoodA.step {o : Out (List SV)} {Q : List V → Hp → Prop} (t : Step γ γ1 s s1 H H1) (h : GoodA K ct W σ γ s H o Q) : GoodA K ct W σ γ1 s1 H1 o Q := Out.post.imp h (fun r s' q v γ' H' t' => q v γ' H' (t.trans t')) fun x s' q => q.step t
theorem GoodF.step {f : Fl} {s' : S} {N : Ends} (t : Step γ γ1 s s1 H H1) (h : GoodF K ct γ s H N f s') : GoodF K ct γ1 s1 H1 N f s' := by
  cases f with
  | nx => exact fun σ' γ' H' t' => h σ' γ' H' (t.trans t')
  | bk => exact fun σ' γ' H' t' => h σ' γ' H' (t.trans t')
  | ct => exact fun σ' γ' H' t' => h σ' γ' H' (t.trans t')
  | rt r => exact fun v σ' γ' H' t' R' r' => h v σ' γ' H' (t.trans t') R' (r'.base t.there)
theorem GoodS.step {o : Out Fl} {N : Ends} (t : Step γ γ1 s s1 H H1) (h : GoodS K ct W γ s H o N) : GoodS K ct W γ1 s1 H1 o N := Out.post.imp h (fun f s' q => q.step t) fun x s' q => q.step t
end
end Fd
set_option Elab.async false
set_option linter.all false
set_option maxRecDepth 100000
set_option maxHeartbeats 4000000
namespace Fd
open PySem PySem.Spec PyProof.Rows L2
section
variable {K : PySem.W.Frag} {ct : Nat → Addr} {W : WX} {γ γ1 : G} {s s1 : S} {H H1 : Hp} {σ : L2.St} {β : Type}
theorem Good.imp {o : Out RV} {Q Q' : VK} (h : Good K ct W σ γ s H o Q) (f : ∀ v H, Q v H → Q' v H) : Good K ct W σ γ s H o Q' := Out.post.imp h (fun _ _ q v γ' H' t' R r => f _ _ (q v γ' H' t' R r)) fun _ _ q => q
/-- an expression first -/
theorem use_e {m : M RV} {f : RV → M β} {P : β → S → Prop} {E : Exn → S → Prop} {Q : VK} (h : (bnd m f s).post P E) (hE : ∀ x s', E x s' → GoodX K ct W σ γ s H x s')
    (k : ∀ r s1 v γ1 H1, Step γ γ1 s s1 H H1 → Rep K ct γ1 H1 σ s1 → RepR K ct γ1 s1 H H1 v r → (f r s1).post P E → Q v H1) : Good K ct W σ γ s H (m s) Q :=
  Out.post.imp (post_bnd h) (fun r s1 q v γ1 H1 t R r' => k r s1 v γ1 H1 t R r' q) hE
theorem use_t {m : M Bool} {f : Bool → M β} {P : β → S → Prop} {E : Exn → S → Prop} {Q : Bool → Hp → Prop} (h : (bnd m f s).post P E) (hE : ∀ x s', E x s' → GoodX K ct W σ γ s H x s')
    (k : ∀ b s1 γ1 H1, Step γ γ1 s s1 H H1 → Rep K ct γ1 H1 σ s1 → (f b s1).post P E → Q b H1) : GoodT K ct W σ γ s H (m s) Q :=
  Out.post.imp (post_bnd h) (fun r s1 q γ1 H1 t R => k r s1 γ1 H1 t R q) hE
theorem use_a {m : M (List SV)} {f : List SV → M β} {P : β → S → Prop} {E : Exn → S → Prop} {Q : List V → Hp → Prop} (h : (bnd m f s).post P E) (hE : ∀ x s', E x s' → GoodX K ct W σ γ s H x s')
    (k : ∀ xs s1 vs γ1 H1, Step γ γ1 s s1 H H1 → Rep K ct γ1 H1 σ s1 → Paired (RepS K ct γ1 s1.mem.length H1) vs xs → (f xs s1).post P E → Q vs H1) : GoodA K ct W σ γ s H (m s) Q :=
  Out.post.imp (post_bnd h) (fun r s1 q v γ1 H1 t R r' => k r s1 v γ1 H1 t R r' q) hE
theorem good_pur {r : RV} {Q : VK} (q : ∀ v γ' H', Step γ γ' s s H H' → Rep K ct γ' H' σ s → RepR K ct γ' s H H' v r → Q v H') : Good K ct W σ γ s H (pur r s) Q := q
end

/-! ## pure data in lists -/
def datL : List SV → Option (List D)
  | [] => some []
  | .dat d :: r => match datL r with
    | some ds => some (d :: ds)
    | none => none
  | _ :: _ => none
theorem datL_map (ds : List D) : datL (ds.map SV.dat) = some ds := by
  induction ds with
  | nil => rfl
  | cons d ds ih => simp [datL, ih]
section
variable {K : PySem.W.Frag} {ct : Nat → Addr} {W : WX} {γ γ1 : G} {s s1 : S} {H H1 : Hp} {σ : L2.St}
theorem datL_rep {n : Nat} : ∀ {xs : List SV} {ds : List D} {vs : List V}, datL xs = some ds → Paired (RepS K ct γ n H) vs xs → RepDs K ct H vs ds := by
  intro xs
  induction xs with
  | nil => intro ds vs e h; cases h; cases e; exact .nil
  | cons x xs ih =>
    intro ds vs e h
    cases h with
    | cons q t =>
      cases x with
      | dat d =>
        unfold datL at e
        cases h : datL xs with
        | none => rw [h] at e; cases e
        | some es => rw [h] at e; cases e; exact .cons q (ih h t)
      | ref _ => cases e
      | hand => cases e
theorem rep_map {n : Nat} : ∀ {ds : List D} {vs : List V}, RepDs K ct H vs ds → Paired (RepS K ct γ n H) vs (ds.map SV.dat) := by
  intro ds
  induction ds with
  | nil => intro vs h; cases h; exact .nil
  | cons d ds ih => intro vs h; cases h with | cons r t => exact .cons r (ih t)

/-! ## locking: a list becomes data -/
def substR (k : Nat) (ds : List D) : Option SV → Option SV
  | some (.ref j) => if j = k then some (.dat (.lst ds)) else some (.ref j)
  | x => x
def frz : RV → M RV
  | .sv (.dat d) => pur (.sv (.dat d))
  | .sv (.ref k) => fun s => match s.mem[k]? with
    | some (some xs) => match datL xs with
      | some ds => .ok (.sv (.dat (.lst ds))) { s with mem := s.mem.set k none, env := s.env.map (substR k ds) }
      | none => .bad
    | _ => .bad
  | .sv .hand => stuck
  | .new xs => fun s => match datL xs with
    | some ds => .ok (.sv (.dat (.lst ds))) s
    | none => .bad
end
def tFz (t : TE) : TE := fun σ H Q => t σ H fun v H1 => Q v H1 ∨ ∃ a vs, v = .ref a ∧ H1 a = some (.lst vs) ∧ ∀ o, Q v (upd H1 a (.frz o (.lst vs)))
theorem pe_fz {X : Cx} {e : Expr} {t : TE} (h : PE X e t) : PE X e (tFz t) := ⟨fun pins s σ H Q I hw =>
  thn (h.run pins s σ H _ I hw) fun u s1 ⟨v, H1, I1, r1, q1⟩ => by
    rcases q1 with q | ⟨a, vs, rfl, ea, q⟩
    · exact ⟨v, H1, I1, r1, q⟩
    · obtain ⟨o, I2⟩ := I1.lock ea trivial
      exact ⟨_, _, I2, r1, q o⟩⟩
section
variable {K : PySem.W.Frag} {ct : Nat → Addr} {W : WX} {γ γ1 : G} {s s1 : S} {H H1 : Hp} {σ : L2.St}
/-- what is not owned is locked -/
theorem step_lockN {a : Addr} {vs : List V} {o : Obj} (e : H a = some (.lst vs)) (s0 : S) (γ0 : G) (H0 : Hp) (t : Step γ0 γ s0 s H0 H) (n0 : H0 a = none) : Step γ0 γ s0 s H0 (upd H a (.frz o (.lst vs))) := by
  refine ⟨fun x u ex n => ?_, t.own, fun x u ex i => ?_, fun x z => ?_, t.kp, t.len, t.ah, t.fresh⟩
  · rw [upd_ne (ne_of_none ex n0)]; exact t.keep x u ex n
  · rw [upd_ne (ne_of_none ex n0)]; exact t.imm x u ex i
  · exact there_upd x (t.there x z)
theorem rep_lockN (R : Rep K ct γ H σ s) {a : Addr} {vs : List V} {o : Obj} (e : H a = some (.lst vs)) (n : ¬ Own γ s a) : Rep K ct γ (upd H a (.frz o (.lst vs))) σ s := by
  have ki : KeepI H (upd H a (.frz o (.lst vs))) := fun x u ex i => by
    rw [upd_ne]
    · exact ex
    · rintro rfl; rw [e] at ex; cases ex; exact i
  have m1 : ∀ {v x}, RepS K ct γ s.mem.length H v x → RepS K ct γ s.mem.length (upd H a (.frz o (.lst vs))) v x := fun {v x} r => by
    cases x with
    | dat d => exact RepD.mono ki r
    | ref k => exact r
    | hand => exact r
  refine ⟨R.len, fun i x ex => ?_, fun k xs ex => ?_, R.inj, fun h ex => ?_, R.hdk⟩
  · obtain ⟨v, q, r⟩ := R.env i x ex
    exact ⟨v, q, m1 r⟩
  · obtain ⟨us, q, r⟩ := R.mem k xs ex
    refine ⟨us, ?_, Paired.mapP r fun _ _ z => m1 z⟩
    rw [upd_ne]
    · exact q
    · rintro rfl; exact n (.inl ⟨k, ⟨xs, ex⟩, rfl⟩)
  · refine (R.hd h ex).mono fun b u q hb => ?_
    rw [upd_ne]
    · exact q
    · rintro rfl; exact n (.inr ⟨by rw [ex]; exact (fun z => by cases z), hb⟩)
end
section
variable {X : Cx} {ct : Nat → Addr} {W : WX} {e : Expr} {m : M RV}
theorem ed_frz (h : ED X ct W e m) : ED X ct W e (bnd m frz) := by
  obtain ⟨t, pt, rt⟩ := h.ex
  refine ⟨_, pe_fz pt, fun σ H γ s Q R h => ?_⟩
  refine rt σ H γ s _ R (use_e h (fun _ _ z => z) fun r s1 v γ1 H1 t1 R1 r1 g => ?_)
  cases r with
  | sv x =>
    cases x with
    | dat d => exact .inl (g v γ1 H1 t1 R1 r1)
    | hand => exact False.elim g
    | ref k =>
      right
      have r1' : k < s1.mem.length ∧ v = .ref (γ1.kp k) := r1
      obtain ⟨hk, rfl⟩ := r1'
      unfold frz at g
      cases e1 : s1.mem[k]? with
      | none => simp only [e1] at g; exact False.elim g
      | some o1 =>
        cases o1 with
        | none => simp only [e1] at g; exact False.elim g
        | some xs =>
          simp only [e1] at g
          cases e2 : datL xs with
          | none => simp only [e2] at g; exact False.elim g
          | some ds =>
            simp only [e2] at g
            obtain ⟨vs, ek, rp⟩ := R1.mem k xs e1
            refine ⟨γ1.kp k, vs, rfl, ek, fun o => ?_⟩
            have lk : Live s1 k := ⟨xs, e1⟩
            have live : ∀ j, Live { s1 with mem := s1.mem.set k none, env := s1.env.map (substR k ds) } j → Live s1 j ∧ j ≠ k := fun j ⟨ys, ey⟩ => by
              by_cases hj : k = j
              · subst hj
                have ey' : (s1.mem.set k none)[k]? = some (some ys) := ey
                rw [List.getElem?_set_self hk] at ey'; cases ey'
              · have ey' : (s1.mem.set k none)[j]? = some (some ys) := ey
                rw [List.getElem?_set_ne hj] at ey'
                exact ⟨⟨ys, ey'⟩, fun z => hj z.symm⟩
            have ki : KeepI H1 (upd H1 (γ1.kp k) (.frz o (.lst vs))) := fun x u ex i => by
              rw [upd_ne]
              · exact ex
              · rintro rfl; rw [ek] at ex; cases ex; exact i
            have st : Step γ1 γ1 s1 { s1 with mem := s1.mem.set k none, env := s1.env.map (substR k ds) } H1 (upd H1 (γ1.kp k) (.frz o (.lst vs))) := by
              refine ⟨fun x u ex n => ?_, fun x z => ?_, ki, fun x z => there_upd x z, fun _ _ => rfl, by simp, rfl, fun j h1 h2 => by simp at h2; omega⟩
              · rw [upd_ne]
                · exact ex
                · rintro rfl; exact n (.inl ⟨k, lk, rfl⟩)
              · rcases z with ⟨j, lj, rfl⟩ | z
                · exact .inl (.inl ⟨j, (live j lj).1, rfl⟩)
                · exact .inl (.inr z)
            have dk : RepD X.K ct (upd H1 (γ1.kp k) (.frz o (.lst vs))) (.ref (γ1.kp k)) (.lst ds) := .lst ⟨o, upd_same⟩ (RepDs.mono ki (datL_rep e2 rp))
            refine g _ γ1 _ (t1.trans st) ⟨by simpa using R1.len, fun i x ex => ?_, fun j ys ey => ?_, fun i j li lj => R1.inj i j (live i li).1 (live j lj).1, fun h eh => ?_, fun z j lj => R1.hdk z j (live j lj).1⟩ dk
            · have ex' : (s1.env.map (substR k ds))[i]? = some (some x) := ex
              rw [List.getElem?_map] at ex'
              cases e3 : s1.env[i]? with
              | none => rw [e3] at ex'; cases ex'
              | some y =>
                rw [e3] at ex'
                have ex2 : substR k ds y = some x := Option.some.inj ex'
                cases y with
                | none => cases ex2
                | some y =>
                  obtain ⟨v, q, r⟩ := R1.env i y e3
                  refine ⟨v, q, ?_⟩
                  cases y with
                  | dat d => cases ex2; exact RepD.mono ki r
                  | hand => cases ex2; exact r
                  | ref j =>
                    unfold substR at ex2
                    obtain ⟨r1, rfl⟩ := r
                    by_cases hj : j = k
                    · simp only [hj, if_true] at ex2
                      cases ex2
                      rw [hj]
                      exact dk
                    · simp only [hj, if_false] at ex2
                      cases ex2
                      exact ⟨by simpa using r1, rfl⟩
            · obtain ⟨lj, nj⟩ := live j ⟨ys, ey⟩
              have ey' : (s1.mem.set k none)[j]? = some (some ys) := ey
              rw [List.getElem?_set_ne (Ne.symm nj)] at ey'
              obtain ⟨us, q, r⟩ := R1.mem j ys ey'
              refine ⟨us, ?_, Paired.mapP r fun _ _ z => z.mono st⟩
              rw [upd_ne]
              · exact q
              · exact fun z => nj (R1.inj j k lj lk z)
            · have eh' : s1.hd = some h := eh
              refine (R1.hd h eh').mono fun b u q hb => ?_
              rw [upd_ne]
              · exact q
              · rintro rfl
                have := R1.hdk (by rw [eh']; exact fun z => by cases z) k lk
                rcases hb with z | z
                · exact this.1 z
                · exact this.2 z
  | new xs =>
    right
    unfold frz at g
    cases e2 : datL xs with
    | none => simp only [e2] at g; exact False.elim g
    | some ds =>
      simp only [e2] at g
      obtain ⟨a, vs, rfl, e0, ea, na, rp⟩ := r1
      refine ⟨a, vs, rfl, ea, fun o => ?_⟩
      have ki : KeepI H1 (upd H1 a (.frz o (.lst vs))) := fun x u ex i => by
        rw [upd_ne]
        · exact ex
        · rintro rfl; rw [ea] at ex; cases ex; exact i
      exact g _ γ1 _ (step_lockN ea s γ H t1 e0) (rep_lockN R1 ea na) (.lst ⟨o, upd_same⟩ (RepDs.mono ki (datL_rep e2 rp)))

/-! ## a new list becomes the state's own -/
def own : RV → M RV
  | .sv x => pur (.sv x)
  | .new xs => fun s => .ok (.sv (.ref s.mem.length)) { s with mem := s.mem ++ [some xs] }
theorem ed_own (h : ED X ct W e m) : ED X ct W e (bnd m own) := by
  obtain ⟨t, pt, rt⟩ := h.ex
  refine ⟨_, pt, fun σ H γ s Q R h => ?_⟩
  refine rt σ H γ s _ R (use_e h (fun _ _ z => z) fun r s1 v γ1 H1 t1 R1 r1 g => ?_)
  cases r with
  | sv x => exact g v γ1 H1 t1 R1 r1
  | new xs =>
    obtain ⟨a, vs, rfl, e0, ea, na, rp⟩ := r1
    let γ2 : G := { γ1 with kp := fun j => if j = s1.mem.length then a else γ1.kp j }
    let s2 : S := { s1 with mem := s1.mem ++ [some xs] }
    have kp1 : ∀ k, k < s1.mem.length → γ2.kp k = γ1.kp k := fun k h => if_neg (Nat.ne_of_lt h)
    have kp2 : γ2.kp s1.mem.length = a := if_pos rfl
    have live : ∀ k, Live s2 k → (Live s1 k ∧ γ2.kp k = γ1.kp k) ∨ (k = s1.mem.length ∧ γ2.kp k = a) := fun k ⟨ys, ey⟩ => by
      have ey' : (s1.mem ++ [some xs])[k]? = some (some ys) := ey
      by_cases hk : k < s1.mem.length
      · rw [List.getElem?_append_left hk] at ey'
        exact .inl ⟨⟨ys, ey'⟩, kp1 k hk⟩
      · have hk2 : k < (s1.mem ++ [some xs]).length := (List.getElem?_eq_some_iff.mp ey').1
        simp at hk2
        have : k = s1.mem.length := by omega
        exact .inr ⟨this, by rw [this]; exact kp2⟩
    have own2 : ∀ x, Own γ2 s2 x → Own γ1 s1 x ∨ x = a := fun x z => by
      rcases z with ⟨k, lk, rfl⟩ | z
      · rcases live k lk with ⟨l, q⟩ | ⟨_, q⟩
        · exact .inl (.inl ⟨k, l, q.symm⟩)
        · exact .inr q
      · exact .inl (.inr z)
    have st : Step γ γ2 s s2 H H1 := by
      refine ⟨t1.keep, fun x z => ?_, t1.imm, t1.there, fun k hk => (kp1 k (Nat.lt_of_lt_of_le hk t1.len)).trans (t1.kp k hk), by show s.mem.length ≤ (s1.mem ++ [some xs]).length; have := t1.len; simp; omega, t1.ah, fun k h1 h2 => ?_⟩
      rcases own2 x z with z | z
      · exact t1.own x z
      · rw [z]; exact .inr e0
      · have h3 : k < (s1.mem ++ [some xs]).length := h2
        simp at h3
        by_cases hk : k < s1.mem.length
        · rw [kp1 k hk]; exact t1.fresh k h1 hk
        · have : k = s1.mem.length := by omega
          rw [this, kp2]; exact e0
    have m1 : ∀ {v x}, RepS X.K ct γ1 s1.mem.length H1 v x → RepS X.K ct γ2 s2.mem.length H1 v x := fun {v x} r => by
      cases x with
      | dat d => exact r
      | ref k => exact ⟨by show k < (s1.mem ++ [some xs]).length; have := r.1; simp; omega, by rw [kp1 k r.1]; exact r.2⟩
      | hand => exact r
    refine g _ γ2 H1 st ⟨R1.len, fun i x ex => ?_, fun k ys ey => ?_, fun i j li lj eij => ?_, fun h eh => R1.hd h eh, fun z k lk => ?_⟩ ⟨by show s1.mem.length < (s1.mem ++ [some xs]).length; simp, by rw [kp2]⟩
    · obtain ⟨v, q, r⟩ := R1.env i x ex
      exact ⟨v, q, m1 r⟩
    · have ey' : (s1.mem ++ [some xs])[k]? = some (some ys) := ey
      by_cases hk : k < s1.mem.length
      · rw [List.getElem?_append_left hk] at ey'
        obtain ⟨us, q, r⟩ := R1.mem k ys ey'
        exact ⟨us, by rw [kp1 k hk]; exact q, Paired.mapP r fun _ _ z => m1 z⟩
      · have hk2 : k < (s1.mem ++ [some xs]).length := (List.getElem?_eq_some_iff.mp ey').1
        simp at hk2
        have hk3 : k = s1.mem.length := by omega
        subst hk3
        simp at ey'
        subst ey'
        exact ⟨vs, by rw [kp2]; exact ea, Paired.mapP rp fun _ _ z => m1 z⟩
    · rcases live i li with ⟨l1, q1⟩ | ⟨l1, q1⟩ <;> rcases live j lj with ⟨l2, q2⟩ | ⟨l2, q2⟩
      · exact R1.inj i j l1 l2 (by rw [← q1, ← q2]; exact eij)
      · exact absurd (.inl ⟨i, l1, by rw [← q1, eij, q2]⟩) na
      · exact absurd (.inl ⟨j, l2, by rw [← q2, ← eij, q1]⟩) na
      · rw [l1, l2]
    · rcases live k lk with ⟨l1, q1⟩ | ⟨l1, q1⟩
      · rw [q1]; exact R1.hdk z k l1
      · rw [q1]
        exact ⟨fun y => na (.inr ⟨z, .inl y⟩), fun y => na (.inr ⟨z, .inr y⟩)⟩
end
end Fd
set_option Elab.async false
set_option linter.all false
set_option maxRecDepth 100000
set_option maxHeartbeats 4000000
namespace Fd
open PySem PySem.Spec PyProof.Rows L2
abbrev RD (d : D) : RV := .sv (.dat d)
abbrev RI (i : Int) : RV := .sv (.dat (.int i))
abbrev RB (b : Bool) : RV := .sv (.dat (.bl b))
abbrev RT (ds : List D) : RV := .sv (.dat (.tup ds))
abbrev RS (x : Str) : RV := .sv (.dat (.str x))
abbrev RN : RV := .sv (.dat .non)

/-! ## data for == -/
mutual
def D.py : D → PyData
  | .non => .none
  | .bl b => .bool b
  | .int i => .int i
  | .str x => .str x
  | .tup ds => .tuple (D.pys ds)
  | .lst ds => .list (D.pys ds)
  | .obj _ _ => .dict []
def D.pys : List D → List PyData
  | [] => []
  | d :: ds => D.py d :: D.pys ds
end
def okD (d : D) : Bool := SeqAt.shaped d.py
def eqD (d e : D) : Bool := PyData.eqv d.py e.py
theorem lim_ok {n : Nat} (h : n ≤ 100000) : n ≤ sizeLine := Nat.le_trans h (by decide)
section
variable {K : PySem.W.Frag} {ct : Nat → Addr} {W : WX} {γ γ1 : G} {s s1 : S} {H H0 H1 : Hp} {σ : L2.St}
mutual
theorem dp_of : ∀ (d : D) {v : V}, d.py.canLay0 = true → RepD K ct H v d → Dp K H v d.py
  | .non, _, _, .non => .non
  | .bl b, _, _, .bl _ => .bl b
  | .int i, _, _, .int _ => .int i
  | .str x, _, _, .str _ => .str x
  | .tup ds, _, h, .tup q r => by
    have h' : PyData.canLayAll0 (D.pys ds) = true := by simpa [D.py, PyData.canLay0] using h
    have := dps_of ds h' r
    exact .tup q this
  | .lst ds, _, h, .lst q r => by
    have h' : PyData.canLayAll0 (D.pys ds) = true := by simpa [D.py, PyData.canLay0] using h
    have := dps_of ds h' r
    exact .lst q.sq this
  | .obj _ _, _, h, _ => by simp [D.py, PyData.canLay0] at h
theorem dps_of : ∀ (ds : List D) {vs : List V}, PyData.canLayAll0 (D.pys ds) = true → RepDs K ct H vs ds → DpAll K H vs (D.pys ds)
  | [], _, _, .nil => .nil
  | d :: ds, _, h, .cons r t => by
    have h' : d.py.canLay0 = true ∧ PyData.canLayAll0 (D.pys ds) = true := by simpa [D.pys, PyData.canLayAll0] using h
    exact .cons (dp_of d h'.1 r) (dps_of ds h'.2 t)
end

/-! ## what a value is in a state -/
def deep (s : S) : RV → Option D
  | .sv (.dat d) => some d
  | .sv (.ref k) => match s.mem[k]? with
    | some (some xs) => match datL xs with
      | some ds => some (.lst ds)
      | none => none
    | _ => none
  | .sv .hand => none
  | .new xs => match datL xs with
    | some ds => some (.lst ds)
    | none => none
def seqL (s : S) : RV → Option (List SV)
  | .sv (.dat (.lst ds)) => some (ds.map SV.dat)
  | .sv (.ref k) => match s.mem[k]? with
    | some (some xs) => some xs
    | _ => none
  | .new xs => some xs
  | _ => none
theorem seqL_rd (R : Rep K ct γ H σ s) {r : RV} {v : V} {xs : List SV} (e : seqL s r = some xs) (q : RepR K ct γ s H0 H v r) : ∃ a vs, v = .ref a ∧ Rd H a (.lst vs) ∧ Paired (RepS K ct γ s.mem.length H) vs xs := by
  cases r with
  | new ys =>
    obtain ⟨a, vs, rfl, _, ea, _, p⟩ := q
    cases e
    exact ⟨a, vs, rfl, .inl ea, p⟩
  | sv x =>
    cases x with
    | hand => cases e
    | ref k =>
      have q' : k < s.mem.length ∧ v = .ref (γ.kp k) := q
      unfold seqL at e
      cases h : s.mem[k]? with
      | none => simp only [h] at e; cases e
      | some o =>
        cases o with
        | none => simp only [h] at e; cases e
        | some ys =>
          simp only [h] at e
          cases e
          obtain ⟨vs, ek, p⟩ := R.mem k _ h
          exact ⟨_, vs, q'.2, .inl ek, p⟩
    | dat d =>
      cases d with
      | lst ds =>
        cases e
        have q' : RepD K ct H v (.lst ds) := q
        cases q' with
        | lst hq r => exact ⟨_, _, rfl, hq.rd, rep_map r⟩
      | _ => cases e
theorem seqL_rep (R : Rep K ct γ H σ s) {r : RV} {v : V} {xs : List SV} (e : seqL s r = some xs) (q : RepR K ct γ s H0 H v r) : ∃ a vs, v = .ref a ∧ SqL K H a vs ∧ Paired (RepS K ct γ s.mem.length H) vs xs := by
  obtain ⟨a, vs, e1, h, p⟩ := seqL_rd R e q
  exact ⟨a, vs, e1, .inl h, p⟩
theorem tup_rep {v : V} {ds : List D} (q : RepR K ct γ s H0 H v (RT ds)) : ∃ a vs, v = .ref a ∧ SqT K H a vs ∧ RepDs K ct H vs ds := by
  have q' : RepD K ct H v (.tup ds) := q
  cases q' with
  | tup hq r => exact ⟨_, _, rfl, hq, r⟩
theorem deep_dp (R : Rep K ct γ H σ s) {r : RV} {v : V} {d : D} (e : deep s r = some d) (c : d.py.canLay0 = true) (q : RepR K ct γ s H0 H v r) : Dp K H v d.py := by
  have fin : ∀ {xs : List SV} {ds : List D}, seqL s r = some xs → datL xs = some ds → d = .lst ds → Dp K H v d.py := fun {xs ds} e1 e2 e3 => by
    obtain ⟨a, vs, rfl, hq, p⟩ := seqL_rep R e1 q
    subst e3
    have h' : PyData.canLayAll0 (D.pys ds) = true := by simpa [D.py, PyData.canLay0] using c
    exact .lst hq (dps_of ds h' (datL_rep e2 p))
  cases r with
  | new ys =>
    unfold deep at e
    cases h : datL ys with
    | none => simp only [h] at e; cases e
    | some ds => simp only [h] at e; cases e; exact fin rfl h rfl
  | sv x =>
    cases x with
    | hand => cases e
    | dat d' => cases e; exact dp_of _ c q
    | ref k =>
      unfold deep at e
      cases h : s.mem[k]? with
      | none => simp only [h] at e; cases e
      | some o =>
        cases o with
        | none => simp only [h] at e; cases e
        | some ys =>
          simp only [h] at e
          cases h2 : datL ys with
          | none => simp only [h2] at e; cases e
          | some ds => simp only [h2] at e; cases e; exact fin (by unfold seqL; simp only [h]) h2 rfl
theorem rep_int {v : V} {i : Int} (q : RepR K ct γ s H0 H v (RI i)) : v = .int i := by
  have q' : RepD K ct H v (.int i) := q
  cases q'; rfl
theorem rep_str {v : V} {x : Str} (q : RepR K ct γ s H0 H v (RS x)) : v = .str x := by
  have q' : RepD K ct H v (.str x) := q
  cases q'; rfl
theorem rep_bl {v : V} {b : Bool} (q : RepR K ct γ s H0 H v (RB b)) : v = .bl b := by
  have q' : RepD K ct H v (.bl b) := q
  cases q'; rfl
/-- a new list, a new tuple -/
theorem good_new {xs : List SV} {vs : List V} {Q : VK} (R : Rep K ct γ H σ s) (p : Paired (RepS K ct γ s.mem.length H) vs xs) (g : Good K ct W σ γ s H (.ok (.new xs) s) Q) : ∀ a, H a = none → Q (.ref a) (upd H a (.lst vs)) := fun a ha =>
  g _ γ _ (Step.laid ha) (R.laid ha) ⟨a, vs, rfl, ha, upd_same, R.notOwn_free ha, RepSs.mono (Step.laid ha) p⟩
theorem good_tup {ds : List D} {vs : List V} {Q : VK} (R : Rep K ct γ H σ s) (p : RepDs K ct H vs ds) (g : Good K ct W σ γ s H (.ok (RT ds) s) Q) : ∀ a, H a = none → Q (.ref a) (upd H a (.tup vs)) := fun a ha =>
  g _ γ _ (Step.laid ha) (R.laid ha) (.tup (SqT.of upd_same) (RepDs.mono (keepI_new ha) p))
theorem good_ok {r : RV} {v : V} {Q : VK} (R : Rep K ct γ H σ s) (q : RepR K ct γ s H H v r) (g : Good K ct W σ γ s H (.ok r s) Q) : Q v H := g v γ H Step.refl R q
theorem RepDs.appendS {vs us : List V} {xs ys : List SV} {n : Nat} (r : Paired (RepS K ct γ n H) vs xs) (q : Paired (RepS K ct γ n H) us ys) : Paired (RepS K ct γ n H) (vs ++ us) (xs ++ ys) := by
  induction r with
  | nil => exact q
  | cons h t ih => exact .cons h ih
theorem paired_get {n : Nat} : ∀ {xs : List SV} {vs : List V} {i : Nat} {x : SV}, Paired (RepS K ct γ n H) vs xs → xs[i]? = some x → ∃ v, vs[i]? = some v ∧ RepS K ct γ n H v x := by
  intro xs
  induction xs with
  | nil => intro vs i x _ e; simp at e
  | cons y ys ih =>
    intro vs i x h e
    cases h with
    | cons r t =>
      cases i with
      | zero => simp at e; subst e; exact ⟨_, rfl, r⟩
      | succ i => simp at e; obtain ⟨v, q, r'⟩ := ih t e; exact ⟨v, by simpa using q, r'⟩
theorem atI_rep {n : Nat} {xs : List SV} {vs : List V} {i : Int} {x : SV} (p : Paired (RepS K ct γ n H) vs xs) (e : atI xs i = some x) : ∃ v, atI vs i = some v ∧ RepS K ct γ n H v x := by
  unfold atI at e ⊢
  have hl : vs.length = xs.length := Paired.length p
  rw [hl]
  cases h : ixN xs.length i with
  | none => rw [h] at e; cases e
  | some j => rw [h] at e; exact paired_get p e
end

/-! ## names, constants -/
def getV (i : Nat) : M RV := fun s => match s.env[i]? with
  | some (some x) => .ok (.sv x) s
  | _ => .bad
section
variable {X : Cx} {ct : Nat → Addr} {W : WX} {pos : Pos}
theorem ed_name (i : Nat) {x : Str} (hp : PE X (.Name x pos) (tVar i)) : ED X ct W (.Name x pos) (getV i) := by
  refine ⟨_, hp, fun σ H γ s Q R h => ?_⟩
  unfold getV at h
  cases e : s.env[i]? with
  | none => simp only [e] at h; exact False.elim h
  | some o =>
    cases o with
    | none => simp only [e] at h; exact False.elim h
    | some y =>
      simp only [e] at h
      obtain ⟨v, q, r⟩ := R.env i y e
      exact ⟨v, q, good_ok (r := .sv y) R r h⟩
theorem ed_c {e : Expr} {v : V} {d : D} (hp : PE X e (tC v)) (hd : ∀ H, RepD X.K ct H v d) : ED X ct W e (pur (RD d)) :=
  ⟨_, hp, fun σ H γ s Q R h => good_ok (r := RD d) R (hd H) h⟩
theorem ed_int {i : Int} {j : Nat} : ED X ct W (.Constant (.int i) j pos) (pur (RI i)) := ed_c pe_int fun _ => .int i
theorem ed_bl {b : Bool} {j : Nat} : ED X ct W (.Constant (.bool b) j pos) (pur (RB b)) := ed_c pe_bl fun _ => .bl b
theorem ed_non {j : Nat} : ED X ct W (.Constant .none j pos) (pur RN) := ed_c pe_non fun _ => .non
theorem ed_str {x : Str} {j : Nat} : ED X ct W (.Constant (.str x) j pos) (pur (RS x)) := ed_c pe_str fun _ => .str x

/-! ## two operands -/
def BinOk (X : Cx) (ct : Nat → Addr) (r : R2) (f : RV → RV → M RV) : Prop := ∀ (W : WX) (σ : L2.St) (γ : G) (s : S) (H Ha Hb : Hp) (x y : V) (r1 r2 : RV) (Q : VK), Rep X.K ct γ H σ s → RepR X.K ct γ s Ha H x r1 → RepR X.K ct γ s Hb H y r2 → Good X.K ct W σ γ s H (f r1 r2 s) Q → r x y H Q
def UnOk (X : Cx) (ct : Nat → Addr) (r : V → Hp → VK → Prop) (f : RV → M RV) : Prop := ∀ (W : WX) (σ : L2.St) (γ : G) (s : S) (H Ha : Hp) (x : V) (r1 : RV) (Q : VK), Rep X.K ct γ H σ s → RepR X.K ct γ s Ha H x r1 → Good X.K ct W σ γ s H (f r1 s) Q → r x H Q
def m2 (ma mb : M RV) (f : RV → RV → M RV) : M RV := bnd ma fun x => bnd mb fun y => f x y
theorem sem2 {r : R2} {f : RV → RV → M RV} (hf : BinOk X ct r f) {ta tb : TE} {ma mb : M RV} (ra : ∀ σ H γ s Q, Rep X.K ct γ H σ s → Good X.K ct W σ γ s H (ma s) Q → ta σ H Q) (rb : ∀ σ H γ s Q, Rep X.K ct γ H σ s → Good X.K ct W σ γ s H (mb s) Q → tb σ H Q)
    {σ : L2.St} {H : Hp} {γ : G} {s : S} {Q : VK} (R : Rep X.K ct γ H σ s) (h : Good X.K ct W σ γ s H (m2 ma mb f s) Q) : tOp r ta tb σ H Q := by
  refine ra σ H γ s _ R (use_e h (fun _ _ z => z) fun r1 s1 v γ1 H1 t1 R1 q1 g1 => ?_)
  have g1' : Good X.K ct W σ γ1 s1 H1 (bnd mb (fun y => f r1 y) s1) Q := Good.step t1 g1
  refine rb σ H1 γ1 s1 _ R1 (use_e g1' (fun _ _ z => z) fun r2 s2 u γ2 H2 t2 R2 q2 g2 => ?_)
  exact hf W σ γ2 s2 H2 _ _ v u r1 r2 Q R2 (q1.mono t2) q2 (Good.step t2 g2)
variable {a b : Expr} {ma mb : M RV}
theorem ed_bin {op : Operator} {r : R2} {f : RV → RV → M RV} (ho : OpR X (binaryOp op) r) (hf : BinOk X ct r f) (ha : ED X ct W a ma) (hb : ED X ct W b mb) : ED X ct W (.BinOp a op b pos) (m2 ma mb f) := by
  obtain ⟨ta, pa, ra⟩ := ha.ex
  obtain ⟨tb, pb, rb⟩ := hb.ex
  exact ⟨_, pe_op ho pa pb, fun σ H γ s Q R h => sem2 hf ra rb R h⟩
theorem ed_cmp {op : CmpOp} {r : R2} {f : RV → RV → M RV} (ho : OpR X (compareOp op) r) (hf : BinOk X ct r f) (ha : ED X ct W a ma) (hb : ED X ct W b mb) (hm : behindInMarks op b = false) : ED X ct W (.Compare a [op] [b] pos) (m2 ma mb f) := by
  obtain ⟨ta, pa, ra⟩ := ha.ex
  obtain ⟨tb, pb, rb⟩ := hb.ex
  exact ⟨_, pe_cmpR ho pa pb hm, fun σ H γ s Q R h => sem2 hf ra rb R h⟩
theorem ed_ix {r : R2} {f : RV → RV → M RV} (ho : IxR X r) (hf : BinOk X ct r f) (ha : ED X ct W a ma) (hb : ED X ct W b mb) (hs : PlainIx b) : ED X ct W (.Subscript a b pos) (m2 ma mb f) := by
  obtain ⟨ta, pa, ra⟩ := ha.ex
  obtain ⟨tb, pb, rb⟩ := hb.ex
  exact ⟨_, pe_ix ho pa pb hs, fun σ H γ s Q R h => sem2 hf ra rb R h⟩
theorem ed_un {op : UnaryOp} {r : V → Hp → VK → Prop} {f : RV → M RV} (ho : UnR X (unaryOp op) r) (hf : UnOk X ct r f) (ha : ED X ct W a ma) : ED X ct W (.UnaryOp op a pos) (bnd ma f) := by
  obtain ⟨ta, pa, ra⟩ := ha.ex
  refine ⟨_, pe_un ho pa, fun σ H γ s Q R h => ?_⟩
  refine ra σ H γ s _ R (use_e h (fun _ _ z => z) fun r1 s1 v γ1 H1 t1 R1 q1 g1 => ?_)
  exact hf W σ γ1 s1 H1 _ v r1 Q R1 q1 (Good.step t1 g1)

/-! ## ints -/
def int2 (g : Int → Int → RV) : RV → RV → M RV
  | .sv (.dat (.int i)), .sv (.dat (.int j)) => pur (g i j)
  | _, _ => stuck
def int2g (C : Int → Int → Bool) (g : Int → Int → RV) : RV → RV → M RV
  | .sv (.dat (.int i)), .sv (.dat (.int j)) => fun s => if C i j = true then .ok (g i j) s else .bad
  | _, _ => stuck
theorem int2_ok {g : Int → Int → V} {g' : Int → Int → RV} (hg : ∀ i j K ct γ s H, RepR K ct γ s H H (g i j) (g' i j)) : BinOk X ct (rI0 g) (int2 g') := by
  intro W σ γ s H Ha Hb x y r1 r2 Q R q1 q2 h
  unfold int2 at h
  split at h
  · rename_i i j
    exact ⟨i, j, rep_int q1, rep_int q2, good_ok R (hg ..) h⟩
  · exact False.elim h
theorem int2g_ok {C : Int → Int → Prop} {Cb : Int → Int → Bool} {g : Int → Int → V} {g' : Int → Int → RV} (hC : ∀ i j, Cb i j = true → C i j) (hg : ∀ i j K ct γ s H, RepR K ct γ s H H (g i j) (g' i j)) : BinOk X ct (rI C g) (int2g Cb g') := by
  intro W σ γ s H Ha Hb x y r1 r2 Q R q1 q2 h
  unfold int2g at h
  split at h
  · rename_i i j
    by_cases c : Cb i j = true
    · rw [if_pos c] at h
      exact ⟨i, j, rep_int q1, rep_int q2, hC i j c, good_ok R (hg ..) h⟩
    · rw [if_neg c] at h
      exact False.elim h
  · exact False.elim h
theorem repI {K : PySem.W.Frag} {ct : Nat → Addr} {γ : G} {s : S} {H : Hp} (i : Int) : RepR K ct γ s H H (.int i) (RI i) := RepD.int i
theorem repB {K : PySem.W.Frag} {ct : Nat → Addr} {γ : G} {s : S} {H : Hp} (i : Bool) : RepR K ct γ s H H (.bl i) (RB i) := RepD.bl i
def subM : RV → RV → M RV := int2 fun i j => RI (i - j)
def ltM : RV → RV → M RV := int2 fun i j => RB (decide (i < j))
def leM : RV → RV → M RV := int2 fun i j => RB (decide (i ≤ j))
def gtM : RV → RV → M RV := int2 fun i j => RB (decide (j < i))
def geM : RV → RV → M RV := int2 fun i j => RB (decide (j ≤ i))
theorem ed_sub (ha : ED X ct W a ma) (hb : ED X ct W b mb) : ED X ct W (.BinOp a .Sub b pos) (m2 ma mb subM) := ed_bin op_sub (int2_ok fun i j _ _ _ _ _ => repI _) ha hb
theorem ed_lt (ha : ED X ct W a ma) (hb : ED X ct W b mb) : ED X ct W (.Compare a [.Lt] [b] pos) (m2 ma mb ltM) := ed_cmp op_lt (int2_ok fun i j _ _ _ _ _ => repB _) ha hb (nomark _)
theorem ed_le (ha : ED X ct W a ma) (hb : ED X ct W b mb) : ED X ct W (.Compare a [.LtE] [b] pos) (m2 ma mb leM) := ed_cmp op_le (int2_ok fun i j _ _ _ _ _ => repB _) ha hb (nomark _)
theorem ed_gt (ha : ED X ct W a ma) (hb : ED X ct W b mb) : ED X ct W (.Compare a [.Gt] [b] pos) (m2 ma mb gtM) := ed_cmp op_gt (int2_ok fun i j _ _ _ _ _ => repB _) ha hb (nomark _)
theorem ed_ge (ha : ED X ct W a ma) (hb : ED X ct W b mb) : ED X ct W (.Compare a [.GtE] [b] pos) (m2 ma mb geM) := ed_cmp op_ge (int2_ok fun i j _ _ _ _ _ => repB _) ha hb (nomark _)
def negM : RV → M RV
  | .sv (.dat (.int i)) => pur (RI (-i))
  | _ => stuck
theorem ed_neg (ha : ED X ct W a ma) : ED X ct W (.UnaryOp .USub a pos) (bnd ma negM) := by
  refine ed_un un_neg (fun W σ γ s H Ha x r1 Q R q1 h => ?_) ha
  unfold negM at h
  split at h
  · rename_i i
    exact ⟨i, rep_int q1, good_ok R (repI _) h⟩
  · exact False.elim h
/-! * // % ** -/
def mulC (i j : Int) : Bool := decide (i.natAbs.log2 + j.natAbs.log2 < 100000000)
def divC (i j : Int) : Bool := decide (j ≠ 0 ∧ j.natAbs.log2 < 9000)
def modC (_ j : Int) : Bool := decide (j ≠ 0)
def powC (i j : Int) : Bool := decide (0 ≤ j ∧ j ≤ 1000 ∧ i.natAbs < 2 ^ 64)
theorem mulC_ok {i j : Int} (h : mulC i j = true) : IntMulOk i j := by
  have b : ∀ x : Int, Builtin.Int.intBits x ≤ x.natAbs.log2 + 1 := fun x => by
    unfold Builtin.Int.intBits
    split <;> omega
  have h1 := b i
  have h2 := b j
  have h3 : i.natAbs.log2 + j.natAbs.log2 < 100000000 := of_decide_eq_true h
  have e : bitsLine = 134217728 := by decide
  unfold IntMulOk
  intro z
  rw [Bool.and_eq_true] at z
  have z2 := z.2
  unfold Builtin.Int.intTooBig at z2
  have z3 := of_decide_eq_true z2
  rw [e] at z3
  omega
theorem op_mulF : OpR X (binaryOp .Mult) (rI IntMulOk fun i j => .int (i * j)) := opI fun _ _ _ _ _ _ _ hc q => mul_int q hc
theorem op_divF : OpR X (binaryOp .FloorDiv) (rI (fun _ j => j ≠ 0 ∧ j.natAbs.log2 < 9000) fun i j => .int (i.fdiv j)) := opI fun i j _ _ _ _ _ hc q => floordiv_int hc.1 q (.inl (PyProof.noPylong_of_log2 hc.2))
def mulI : RV → RV → M RV := int2g mulC fun i j => RI (i * j)
def divM : RV → RV → M RV := int2g divC fun i j => RI (i.fdiv j)
def modM : RV → RV → M RV := int2g modC fun i j => RI (i.fmod j)
def powM : RV → RV → M RV := int2g powC fun i j => RI (i ^ j.toNat)
theorem ed_mulI (ha : ED X ct W a ma) (hb : ED X ct W b mb) : ED X ct W (.BinOp a .Mult b pos) (m2 ma mb mulI) := ed_bin op_mulF (int2g_ok (fun i j h => mulC_ok h) fun i j _ _ _ _ _ => repI _) ha hb
theorem ed_div (ha : ED X ct W a ma) (hb : ED X ct W b mb) : ED X ct W (.BinOp a .FloorDiv b pos) (m2 ma mb divM) := ed_bin op_divF (int2g_ok (fun i j h => of_decide_eq_true h) fun i j _ _ _ _ _ => repI _) ha hb
theorem ed_mod (ha : ED X ct W a ma) (hb : ED X ct W b mb) : ED X ct W (.BinOp a .Mod b pos) (m2 ma mb modM) := ed_bin op_modN (int2g_ok (fun i j h => of_decide_eq_true h) fun i j _ _ _ _ _ => repI _) ha hb
theorem ed_pow (ha : ED X ct W a ma) (hb : ED X ct W b mb) : ED X ct W (.BinOp a .Pow b pos) (m2 ma mb powM) := ed_bin op_pow (int2g_ok (fun i j h => by
  have := of_decide_eq_true h
  exact ⟨this.1, by omega, this.2.2⟩) fun i j _ _ _ _ _ => repI _) ha hb
end
end Fd
set_option Elab.async false
set_option linter.all false
set_option maxRecDepth 100000
set_option maxHeartbeats 4000000
namespace Fd
open PySem PySem.Spec PyProof.Rows L2
/-! ## truth -/
def trB (s : S) : RV → Option Bool
  | .sv (.dat .non) => some false
  | .sv (.dat (.bl b)) => some b
  | .sv (.dat (.int i)) => some (i != 0)
  | .sv (.dat (.str x)) => if x.length ≤ 100000 then some ((x.length : Int) != 0) else none
  | .sv (.dat (.tup ds)) => some (!ds.isEmpty)
  | r => match seqL s r with
    | some xs => some (!xs.isEmpty)
    | none => none
def truthM (r : RV) : M Bool := fun s => match trB s r with
  | some b => .ok b s
  | none => .bad
section
variable {K : PySem.W.Frag} {ct : Nat → Addr} {W : WX} {γ γ1 : G} {s s1 : S} {H H0 H1 : Hp} {σ : L2.St}
theorem isEmpty_rep {n : Nat} {vs : List V} {xs : List SV} (p : Paired (RepS K ct γ n H) vs xs) : (!xs.isEmpty) = !vs.isEmpty := by cases p <;> rfl
theorem isEmpty_reps {vs : List V} {ds : List D} (p : RepDs K ct H vs ds) : (!ds.isEmpty) = !vs.isEmpty := by cases p <;> rfl
theorem trB_rep (R : Rep K ct γ H σ s) {r : RV} {v : V} {b : Bool} (e : trB s r = some b) (q : RepR K ct γ s H0 H v r) : TruV K v H b := by
  have fin : ∀ {xs : List SV}, seqL s r = some xs → b = !xs.isEmpty → TruV K v H b := fun {xs} e1 e2 => by
    obtain ⟨a, vs, rfl, hq, p⟩ := seqL_rep R e1 q
    exact .inl ⟨vs, hq, by rw [e2]; exact isEmpty_rep p⟩
  have fin2 : (match seqL s r with | some xs => some (!xs.isEmpty) | none => none) = some b → TruV K v H b := fun e2 => by
    cases h : seqL s r with
    | none => rw [h] at e2; cases e2
    | some xs => rw [h] at e2; cases e2; exact fin h rfl
  cases r with
  | new xs => exact fin2 e
  | sv x =>
    cases x with
    | hand => exact fin2 e
    | ref k => exact fin2 e
    | dat d =>
      cases d with
      | non => cases e; have q' : RepD K ct H v .non := q; cases q'; rfl
      | bl c => cases e; rw [rep_bl q]; rfl
      | int i => cases e; rw [rep_int q]; rfl
      | str y =>
        rw [rep_str q]
        unfold trB at e
        by_cases h : y.length ≤ 100000
        · simp only [h, if_true] at e
          cases e
          exact ⟨lim_ok h, rfl⟩
        · simp only [h, if_false] at e
          cases e
      | tup ds =>
        cases e
        obtain ⟨a, vs, rfl, hq, p⟩ := tup_rep q
        exact .inr (.inl ⟨vs, hq, isEmpty_reps p⟩)
      | lst ds => exact fin2 e
      | obj c ds => exact fin2 e
end
section
variable {X : Cx} {ct : Nat → Addr} {W : WX} {pos : Pos} {a b e : Expr} {ma mb m : M RV} {rest : List Expr}
theorem td_truth (h : ED X ct W e m) (he : ∀ whole, isTrue e X.env whole = (do let v ← whole; standAt e.pos; holding [v] (truthy v)) := by intro _; rfl) : TD X ct W e (bnd m truthM) := by
  obtain ⟨t, pt, rt⟩ := h.ex
  refine ⟨_, pt_truth pt he, fun σ H γ s Q R h => ?_⟩
  refine rt σ H γ s _ R (use_e h (fun _ _ z => z) fun r s1 v γ1 H1 t1 R1 r1 g => ?_)
  unfold truthM at g
  cases h1 : trB s1 r with
  | none => simp only [h1] at g; exact False.elim g
  | some c => simp only [h1] at g; exact ⟨c, trB_rep R1 h1 r1, g γ1 H1 t1 R1⟩
def asB : RV → M Bool
  | .sv (.dat (.bl b)) => pur b
  | _ => stuck
theorem td_cmp {op : CmpOp} {r : R2} {f : RV → RV → M RV} (ho : OpR X (compareOp op) r) (hf : BinOk X ct r f) (ha : ED X ct W a ma) (hb : ED X ct W b mb) (hm : behindInMarks op b = false) : TD X ct W (.Compare a [op] [b] pos) (bnd (m2 ma mb f) asB) := by
  obtain ⟨ta, pa, ra⟩ := ha.ex
  obtain ⟨tb, pb, rb⟩ := hb.ex
  refine ⟨_, pt_cmpR ho pa pb hm, fun σ H γ s Q R h => ?_⟩
  have h' : Good X.K ct W σ γ s H (m2 ma mb f s) (fun x H' => ∃ k, x = .bl k ∧ Q k H') := use_e h (fun _ _ z => z) fun r s1 v γ1 H1 t1 R1 r1 g => by
    unfold asB at g
    split at g
    · exact ⟨_, rep_bl r1, g γ1 H1 t1 R1⟩
    · exact False.elim g
  exact sem2 hf ra rb R h'
/-! ## and, or, not as tests -/
structure WD (X : Cx) (ct : Nat → Addr) (W : WX) (e : Expr) (m : M Bool) : Prop where
  ex : ∃ t, PW X e t ∧ ∀ σ H γ s Q, Rep X.K ct γ H σ s → GoodT X.K ct W σ γ s H (m s) Q → t σ H Q
variable {ta tb : M Bool}
theorem WD.td (h : WD X ct W e ta) : TD X ct W e ta := by
  obtain ⟨t, p, r⟩ := h.ex
  exact ⟨t, p.pt, r⟩
theorem wd_and1 (h : TD X ct W a ta) : WD X ct W (.BoolOp .And [a] pos) ta := by
  obtain ⟨t, p, r⟩ := h.ex
  exact ⟨t, pw_and1 p, r⟩
theorem wd_or1 (h : TD X ct W a ta) : WD X ct W (.BoolOp .Or [a] pos) ta := by
  obtain ⟨t, p, r⟩ := h.ex
  exact ⟨t, pw_or1 p, r⟩
def andT (ta tb : M Bool) : M Bool := bnd ta fun b => if b = true then tb else pur false
def orT (ta tb : M Bool) : M Bool := bnd ta fun b => if b = true then pur true else tb
theorem wd_and (ha : TD X ct W a ta) (hb : WD X ct W (.BoolOp .And (b :: rest) pos) tb) : WD X ct W (.BoolOp .And (a :: b :: rest) pos) (andT ta tb) := by
  obtain ⟨t, p, r⟩ := ha.ex
  obtain ⟨t2, p2, r2⟩ := hb.ex
  refine ⟨_, pw_and p p2, fun σ H γ s Q R h => ?_⟩
  refine r σ H γ s _ R (use_t h (fun _ _ z => z) fun b s1 γ1 H1 t1 R1 g => ?_)
  cases b with
  | true => exact r2 σ H1 γ1 s1 Q R1 (GoodT.step t1 g)
  | false => exact g γ1 H1 t1 R1
theorem wd_or (ha : TD X ct W a ta) (hb : WD X ct W (.BoolOp .Or (b :: rest) pos) tb) : WD X ct W (.BoolOp .Or (a :: b :: rest) pos) (orT ta tb) := by
  obtain ⟨t, p, r⟩ := ha.ex
  obtain ⟨t2, p2, r2⟩ := hb.ex
  refine ⟨_, pw_or p p2, fun σ H γ s Q R h => ?_⟩
  refine r σ H γ s _ R (use_t h (fun _ _ z => z) fun b s1 γ1 H1 t1 R1 g => ?_)
  cases b with
  | true => exact g γ1 H1 t1 R1
  | false => exact r2 σ H1 γ1 s1 Q R1 (GoodT.step t1 g)
def notT (ta : M Bool) : M Bool := bnd ta fun b => pur (!b)
theorem td_not (h : TD X ct W a ta) : TD X ct W (.UnaryOp .Not a pos) (notT ta) := by
  obtain ⟨t, p, r⟩ := h.ex
  refine ⟨_, pt_not p, fun σ H γ s Q R h => ?_⟩
  exact r σ H γ s _ R (use_t h (fun _ _ z => z) fun b s1 γ1 H1 t1 R1 g => g γ1 H1 t1 R1)
/-! ## .. as values -/
def orV (ma mb : M RV) : M RV := bnd ma fun x s => match trB s x with
  | some true => .ok x s
  | some false => mb s
  | none => .bad
def andV (ma mb : M RV) : M RV := bnd ma fun x s => match trB s x with
  | some true => mb s
  | some false => .ok x s
  | none => .bad
def notM (r : RV) : M RV := fun s => match trB s r with
  | some b => .ok (RB (!b)) s
  | none => .bad
theorem ed_one {op : BoolOp} (h : ED X ct W a ma) : ED X ct W (.BoolOp op [a] pos) ma := by
  obtain ⟨t, p, r⟩ := h.ex
  exact ⟨t, pe_one p, r⟩
theorem ed_or (ha : ED X ct W a ma) (hb : ED X ct W (.BoolOp .Or (b :: rest) pos) mb) : ED X ct W (.BoolOp .Or (a :: b :: rest) pos) (orV ma mb) := by
  obtain ⟨t, p, r⟩ := ha.ex
  obtain ⟨t2, p2, r2⟩ := hb.ex
  refine ⟨_, pe_orT p p2, fun σ H γ s Q R h => ?_⟩
  refine r σ H γ s _ R (use_e h (fun _ _ z => z) fun x s1 v γ1 H1 t1 R1 q1 g => ?_)
  cases h1 : trB s1 x with
  | none => simp only [h1] at g; exact False.elim g
  | some c =>
    simp only [h1] at g
    refine ⟨c, trB_rep R1 h1 q1, ?_⟩
    cases c with
    | true => exact g v γ1 H1 t1 R1 q1
    | false => exact r2 σ H1 γ1 s1 Q R1 (Good.step t1 g)
theorem ed_and (ha : ED X ct W a ma) (hb : ED X ct W (.BoolOp .And (b :: rest) pos) mb) : ED X ct W (.BoolOp .And (a :: b :: rest) pos) (andV ma mb) := by
  obtain ⟨t, p, r⟩ := ha.ex
  obtain ⟨t2, p2, r2⟩ := hb.ex
  refine ⟨_, pe_andT p p2, fun σ H γ s Q R h => ?_⟩
  refine r σ H γ s _ R (use_e h (fun _ _ z => z) fun x s1 v γ1 H1 t1 R1 q1 g => ?_)
  cases h1 : trB s1 x with
  | none => simp only [h1] at g; exact False.elim g
  | some c =>
    simp only [h1] at g
    refine ⟨c, trB_rep R1 h1 q1, ?_⟩
    cases c with
    | true => exact r2 σ H1 γ1 s1 Q R1 (Good.step t1 g)
    | false => exact g v γ1 H1 t1 R1 q1
theorem ed_not (ha : ED X ct W a ma) : ED X ct W (.UnaryOp .Not a pos) (bnd ma notM) := by
  obtain ⟨t, p, r⟩ := ha.ex
  refine ⟨_, pe_notT p, fun σ H γ s Q R h => ?_⟩
  refine r σ H γ s _ R (use_e h (fun _ _ z => z) fun x s1 v γ1 H1 t1 R1 q1 g => ?_)
  unfold notM at g
  cases h1 : trB s1 x with
  | none => simp only [h1] at g; exact False.elim g
  | some c =>
    simp only [h1] at g
    exact ⟨c, trB_rep R1 h1 q1, g _ γ1 H1 t1 R1 (repB _)⟩
def ifE (tc : M Bool) (ma mb : M RV) : M RV := bnd tc fun b => if b = true then ma else mb
theorem ed_if {c : Expr} (hc : TD X ct W c ta) (ha : ED X ct W a ma) (hb : ED X ct W b mb) : ED X ct W (.IfExp c a b pos) (ifE ta ma mb) := by
  obtain ⟨t, p, r⟩ := hc.ex
  obtain ⟨t1, p1, r1⟩ := ha.ex
  obtain ⟨t2, p2, r2⟩ := hb.ex
  refine ⟨_, pe_ifExp p p1 p2, fun σ H γ s Q R h => ?_⟩
  refine r σ H γ s _ R (use_t h (fun _ _ z => z) fun b s1 γ1 H1 t1 R1 g => ?_)
  cases b with
  | true => exact r1 σ H1 γ1 s1 Q R1 (Good.step t1 g)
  | false => exact r2 σ H1 γ1 s1 Q R1 (Good.step t1 g)
/-! ## comparisons of data -/
def cmpC (i j : Int) : Bool := true
def eqM (x y : RV) : M RV := fun s => match deep s x, deep s y with
  | some d, some e => if okD d = true then if okD e = true then .ok (RB (eqD d e)) s else .bad else .bad
  | _, _ => .bad
def neM (x y : RV) : M RV := fun s => match deep s x, deep s y with
  | some d, some e => if okD d = true then if okD e = true then .ok (RB (!eqD d e)) s else .bad else .bad
  | _, _ => .bad
theorem eqM_ok : BinOk X ct (rEqD X.K) eqM := by
  intro W σ γ s H Ha Hb x y r1 r2 Q R q1 q2 h
  unfold eqM at h
  cases e1 : deep s r1 with
  | none => simp only [e1] at h; exact False.elim h
  | some d =>
    cases e2 : deep s r2 with
    | none => simp only [e1, e2] at h; exact False.elim h
    | some e =>
      simp only [e1, e2] at h
      by_cases o1 : okD d = true
      · by_cases o2 : okD e = true
        · rw [if_pos o1, if_pos o2] at h
          exact ⟨_, _, deep_dp R e1 (SeqAt.canLay_of_shaped o1) q1, deep_dp R e2 (SeqAt.canLay_of_shaped o2) q2, o1, o2, good_ok R (repB _) h⟩
        · rw [if_pos o1, if_neg o2] at h; exact False.elim h
      · rw [if_neg o1] at h; exact False.elim h
theorem neM_ok : BinOk X ct (rNeD X.K) neM := by
  intro W σ γ s H Ha Hb x y r1 r2 Q R q1 q2 h
  unfold neM at h
  cases e1 : deep s r1 with
  | none => simp only [e1] at h; exact False.elim h
  | some d =>
    cases e2 : deep s r2 with
    | none => simp only [e1, e2] at h; exact False.elim h
    | some e =>
      simp only [e1, e2] at h
      by_cases o1 : okD d = true
      · by_cases o2 : okD e = true
        · rw [if_pos o1, if_pos o2] at h
          exact ⟨_, _, deep_dp R e1 (SeqAt.canLay_of_shaped o1) q1, deep_dp R e2 (SeqAt.canLay_of_shaped o2) q2, o1, o2, good_ok R (repB _) h⟩
        · rw [if_pos o1, if_neg o2] at h; exact False.elim h
      · rw [if_neg o1] at h; exact False.elim h
/-- x in list -/
def inC (neg : Bool) (x y : RV) : M RV := fun s => match deep s x, deep s y with
  | some d, some (.lst es) => if okD d = true then if okD (.lst es) = true then .ok (RB (if neg then !(es.any fun z => eqD z d) else es.any fun z => eqD z d)) s else .bad else .bad
  | _, _ => .bad
theorem pys_any (es : List D) (d : D) : (D.pys es).any (fun z => PyData.eqv z d.py) = es.any fun z => eqD z d := by
  induction es with
  | nil => rfl
  | cons e es ih => simp only [D.pys, List.any_cons, ih]; rfl
theorem inC_ok : BinOk X ct (rInD X.K) (inC false) := by
  intro W σ γ s H Ha Hb x y r1 r2 Q R q1 q2 h
  unfold inC at h
  split at h
  · rename_i d es e1 e2
    by_cases o1 : okD d = true
    · by_cases o2 : okD (.lst es) = true
      · rw [if_pos o1, if_pos o2] at h
        have o2' : SeqAt.shaped (.list (D.pys es)) = true := by simpa [okD, D.py] using o2
        have k := deep_dp R e2 (SeqAt.canLay_of_shaped o2) q2
        have k' : Dp X.K H y (.list (D.pys es)) := by simpa [D.py] using k
        refine ⟨d.py, D.pys es, deep_dp R e1 (SeqAt.canLay_of_shaped o1) q1, k', o1, o2', ?_⟩
        rw [pys_any]
        exact good_ok R (repB _) h
      · rw [if_pos o1, if_neg o2] at h; exact False.elim h
    · rw [if_neg o1] at h; exact False.elim h
  · exact False.elim h
theorem notInC_ok : BinOk X ct (rNotInD X.K) (inC true) := by
  intro W σ γ s H Ha Hb x y r1 r2 Q R q1 q2 h
  unfold inC at h
  split at h
  · rename_i d es e1 e2
    by_cases o1 : okD d = true
    · by_cases o2 : okD (.lst es) = true
      · rw [if_pos o1, if_pos o2] at h
        have o2' : SeqAt.shaped (.list (D.pys es)) = true := by simpa [okD, D.py] using o2
        have k := deep_dp R e2 (SeqAt.canLay_of_shaped o2) q2
        have k' : Dp X.K H y (.list (D.pys es)) := by simpa [D.py] using k
        refine ⟨d.py, D.pys es, deep_dp R e1 (SeqAt.canLay_of_shaped o1) q1, k', o1, o2', ?_⟩
        rw [pys_any]
        exact good_ok R (repB _) h
      · rw [if_pos o1, if_neg o2] at h; exact False.elim h
    · rw [if_neg o1] at h; exact False.elim h
  · exact False.elim h
/-- is None, is not None; is True .. of bools alone -/
def isN : RV → M RV
  | .sv (.dat .non) => pur (RB true)
  | .sv (.dat _) => pur (RB false)
  | .new _ => pur (RB false)
  | .sv (.ref _) => pur (RB false)
  | .sv .hand => pur (RB false)
def isNM (x y : RV) : M RV := match y with
  | .sv (.dat .non) => isN x
  | _ => stuck
def notNM (x y : RV) : M RV := match y with
  | .sv (.dat .non) => bnd (isN x) fun r => match r with
    | .sv (.dat (.bl b)) => pur (RB (!b))
    | _ => stuck
  | _ => stuck
theorem isN_rep {K : PySem.W.Frag} {ct : Nat → Addr} {γ : G} {s : S} {H0 H : Hp} {v : V} {r : RV} (q : RepR K ct γ s H0 H v r) : isN r s = .ok (RB (decide (v = .non))) s := by
  cases r with
  | new xs => obtain ⟨a, vs, rfl, _⟩ := q; rfl
  | sv x =>
    cases x with
    | hand => have q' : v = .ref γ.ah := q; subst q'; rfl
    | ref k => have q' : k < s.mem.length ∧ v = .ref (γ.kp k) := q; rw [q'.2]; rfl
    | dat d =>
      have q' : RepD K ct H v d := q
      cases q' <;> rfl
theorem rep_non {K : PySem.W.Frag} {ct : Nat → Addr} {γ : G} {s : S} {H0 H : Hp} {v : V} (q : RepR K ct γ s H0 H v RN) : v = .non := by
  have q' : RepD K ct H v .non := q
  cases q'; rfl
theorem isNM_ok : BinOk X ct (fun x y H Q => y = .non ∧ Q (.bl (decide (x = .non))) H) isNM := by
  intro W σ γ s H Ha Hb x y r1 r2 Q R q1 q2 h
  unfold isNM at h
  split at h
  · rw [isN_rep q1] at h
    exact ⟨rep_non q2, good_ok R (repB _) h⟩
  · exact False.elim h
theorem notNM_ok : BinOk X ct (fun x y H Q => y = .non ∧ Q (.bl (!decide (x = .non))) H) notNM := by
  intro W σ γ s H Ha Hb x y r1 r2 Q R q1 q2 h
  unfold notNM at h
  split at h
  · unfold bnd at h
    rw [isN_rep q1] at h
    exact ⟨rep_non q2, good_ok R (repB _) h⟩
  · exact False.elim h
end
end Fd
set_option Elab.async false
set_option linter.all false
set_option maxRecDepth 100000
set_option maxHeartbeats 4000000
namespace Fd
open PySem PySem.Spec PyProof.Rows L2
section
variable {X : Cx} {ct : Nat → Addr} {W : WX} {pos : Pos} {a b e : Expr} {ma mb m : M RV} {rest es : List Expr}
theorem ed_eq (hu : X.A.units + 64 < cLine) (ha : ED X ct W a ma) (hb : ED X ct W b mb) : ED X ct W (.Compare a [.Eq] [b] pos) (m2 ma mb eqM) := ed_cmp (op_eqD hu) eqM_ok ha hb (nomark _)
theorem ed_ne (hu : X.A.units + 64 < cLine) (ha : ED X ct W a ma) (hb : ED X ct W b mb) : ED X ct W (.Compare a [.NotEq] [b] pos) (m2 ma mb neM) := ed_cmp (op_neD hu) neM_ok ha hb (nomark _)
theorem ed_in (hu : X.A.units + 65 < cLine) (ha : ED X ct W a ma) (hb : ED X ct W b mb) (hm : behindInMarks .In b = false) : ED X ct W (.Compare a [.In] [b] pos) (m2 ma mb (inC false)) := ed_cmp (op_inD hu) inC_ok ha hb hm
theorem ed_notin (hu : X.A.units + 65 < cLine) (ha : ED X ct W a ma) (hb : ED X ct W b mb) (hm : behindInMarks .NotIn b = false) : ED X ct W (.Compare a [.NotIn] [b] pos) (m2 ma mb (inC true)) := ed_cmp (op_notInD hu) notInC_ok ha hb hm
theorem ed_isN (ha : ED X ct W a ma) (hb : ED X ct W b mb) : ED X ct W (.Compare a [.Is] [b] pos) (m2 ma mb isNM) := ed_cmp op_isN isNM_ok ha hb (nomark _)
theorem ed_notN (ha : ED X ct W a ma) (hb : ED X ct W b mb) : ED X ct W (.Compare a [.IsNot] [b] pos) (m2 ma mb notNM) := ed_cmp op_notN notNM_ok ha hb (nomark _)
/-- is not of bools -/
def notBM : RV → RV → M RV
  | .sv (.dat (.bl x)), .sv (.dat (.bl y)) => pur (RB (!decide (x = y)))
  | _, _ => stuck
theorem ed_notB (ha : ED X ct W a ma) (hb : ED X ct W b mb) : ED X ct W (.Compare a [.IsNot] [b] pos) (m2 ma mb notBM) := by
  refine ed_cmp op_notBl (fun W σ γ s H Ha Hb x y r1 r2 Q R q1 q2 h => ?_) ha hb (nomark _)
  unfold notBM at h
  split at h
  · exact ⟨_, _, rep_bl q1, rep_bl q2, good_ok R (repB _) h⟩
  · exact False.elim h
theorem td_eq (hu : X.A.units + 64 < cLine) (ha : ED X ct W a ma) (hb : ED X ct W b mb) : TD X ct W (.Compare a [.Eq] [b] pos) (bnd (m2 ma mb eqM) asB) := td_cmp (op_eqD hu) eqM_ok ha hb (nomark _)
theorem td_ne (hu : X.A.units + 64 < cLine) (ha : ED X ct W a ma) (hb : ED X ct W b mb) : TD X ct W (.Compare a [.NotEq] [b] pos) (bnd (m2 ma mb neM) asB) := td_cmp (op_neD hu) neM_ok ha hb (nomark _)
theorem td_in (hu : X.A.units + 65 < cLine) (ha : ED X ct W a ma) (hb : ED X ct W b mb) (hm : behindInMarks .In b = false) : TD X ct W (.Compare a [.In] [b] pos) (bnd (m2 ma mb (inC false)) asB) := td_cmp (op_inD hu) inC_ok ha hb hm
theorem td_notin (hu : X.A.units + 65 < cLine) (ha : ED X ct W a ma) (hb : ED X ct W b mb) (hm : behindInMarks .NotIn b = false) : TD X ct W (.Compare a [.NotIn] [b] pos) (bnd (m2 ma mb (inC true)) asB) := td_cmp (op_notInD hu) notInC_ok ha hb hm
theorem td_lt (ha : ED X ct W a ma) (hb : ED X ct W b mb) : TD X ct W (.Compare a [.Lt] [b] pos) (bnd (m2 ma mb ltM) asB) := td_cmp op_lt (int2_ok fun i j _ _ _ _ _ => repB _) ha hb (nomark _)
theorem td_le (ha : ED X ct W a ma) (hb : ED X ct W b mb) : TD X ct W (.Compare a [.LtE] [b] pos) (bnd (m2 ma mb leM) asB) := td_cmp op_le (int2_ok fun i j _ _ _ _ _ => repB _) ha hb (nomark _)
theorem td_gt (ha : ED X ct W a ma) (hb : ED X ct W b mb) : TD X ct W (.Compare a [.Gt] [b] pos) (bnd (m2 ma mb gtM) asB) := td_cmp op_gt (int2_ok fun i j _ _ _ _ _ => repB _) ha hb (nomark _)
theorem td_ge (ha : ED X ct W a ma) (hb : ED X ct W b mb) : TD X ct W (.Compare a [.GtE] [b] pos) (bnd (m2 ma mb geM) asB) := td_cmp op_ge (int2_ok fun i j _ _ _ _ _ => repB _) ha hb (nomark _)
theorem td_isN (ha : ED X ct W a ma) (hb : ED X ct W b mb) : TD X ct W (.Compare a [.Is] [b] pos) (bnd (m2 ma mb isNM) asB) := td_cmp op_isN isNM_ok ha hb (nomark _)
theorem td_notN (ha : ED X ct W a ma) (hb : ED X ct W b mb) : TD X ct W (.Compare a [.IsNot] [b] pos) (bnd (m2 ma mb notNM) asB) := td_cmp op_notN notNM_ok ha hb (nomark _)
theorem td_notB (ha : ED X ct W a ma) (hb : ED X ct W b mb) : TD X ct W (.Compare a [.IsNot] [b] pos) (bnd (m2 ma mb notBM) asB) := by
  refine td_cmp op_notBl (fun W σ γ s H Ha Hb x y r1 r2 Q R q1 q2 h => ?_) ha hb (nomark _)
  unfold notBM at h
  split at h
  · exact ⟨_, _, rep_bl q1, rep_bl q2, good_ok R (repB _) h⟩
  · exact False.elim h

/-! ## + -/
def rCatR : R2 := fun x y H Q => ∃ l b xs zs, x = .ref l ∧ y = .ref b ∧ Rd H l (.lst xs) ∧ Rd H b (.lst zs) ∧ xs.length + zs.length ≤ sizeLine ∧ ∀ p, H p = none → Q (.ref p) (upd H p (.lst (xs ++ zs)))
theorem op_catR : OpR X (binaryOp .Add) rCatR := by
  intro pins s σ H x y v u Q I rx ry h
  obtain ⟨l, b, xs, zs, rfl, rfl, hH, hB, hz, q⟩ := h
  cases rx
  cases ry
  obtain ⟨z, its, n, r, e⟩ := hH.ok I.hok
  obtain ⟨z2, its2, n2, r2, e2⟩ := hB.ok I.hok
  have hl := r.length
  have hl2 := r2.length
  refine PySem.P.add_list e e2 ?_ (by rw [List.size_toArray, List.size_toArray]; omega)
  have ea : its.toArray ++ its2.toArray = (its ++ its2).toArray := by simp
  rw [ea]
  exact ⟨.ref _, _, I.lnew (t' := s.toks) (r.append r2) (by rw [List.length_append]; omega), rfl, q _ I.fresh⟩
def rAddF (K : PySem.W.Frag) : R2 := fun x y H Q => (rI0 fun i j => .int (i + j)) x y H Q ∨ ((∃ i j, x = .str i ∧ y = .str j ∧ i.length + j.length ≤ sizeLine ∧ Q (.str (i ++ j)) H) ∨ (rCatA K x y H Q ∨ rCatR x y H Q))
theorem op_addF : OpR X (binaryOp .Add) (rAddF X.K) := op_add.or (op_add_str.or (op_catA.or op_catR))
def addM : RV → RV → M RV
  | .sv (.dat (.int i)), .sv (.dat (.int j)) => pur (RI (i + j))
  | .sv (.dat (.str x)), .sv (.dat (.str y)) => fun s => if x.length + y.length ≤ 100000 then .ok (RS (x ++ y)) s else .bad
  | .sv (.dat (.tup x)), .sv (.dat (.tup y)) => fun s => if x.length + y.length ≤ 100000 then .ok (RT (x ++ y)) s else .bad
  | x, y => fun s => match seqL s x, seqL s y with
    | some xs, some ys => if xs.length + ys.length ≤ 100000 then .ok (.new (xs ++ ys)) s else .bad
    | _, _ => .bad
theorem addM_ok : BinOk X ct (rAddF X.K) addM := by
  intro W σ γ s H Ha Hb x y r1 r2 Q R q1 q2 h
  unfold addM at h
  split at h
  · rename_i i j
    exact .inl ⟨i, j, rep_int q1, rep_int q2, good_ok R (repI _) h⟩
  · rename_i z1 z2
    by_cases c : z1.length + z2.length ≤ 100000
    · rw [if_pos c] at h
      exact .inr (.inl ⟨z1, z2, rep_str q1, rep_str q2, lim_ok c, good_ok (r := RS _) R (RepD.str _) h⟩)
    · rw [if_neg c] at h; exact False.elim h
  · rename_i z1 z2
    by_cases c : z1.length + z2.length ≤ 100000
    · rw [if_pos c] at h
      obtain ⟨p1, vs1, rfl, h1, w1⟩ := tup_rep q1
      obtain ⟨p2, vs2, rfl, h2, w2⟩ := tup_rep q2
      refine .inr (.inr (.inl ⟨p1, p2, vs1, vs2, rfl, rfl, h1, h2, by rw [w1.length, w2.length]; exact lim_ok c, fun e1 => ?_, fun e1 e2 => ?_, fun _ _ => good_tup R (RepDs.append w1 w2) h⟩))
      · have e3 : z1 = [] := by
          have := w1.length; rw [e1] at this; exact List.length_eq_zero_iff.mp this.symm
        rw [e3, List.nil_append] at h
        exact good_ok (r := RT z2) R (RepD.tup h2 w2) h
      · have e3 : z2 = [] := by
          have := w2.length; rw [e2] at this; exact List.length_eq_zero_iff.mp this.symm
        rw [e3, List.append_nil] at h
        exact good_ok (r := RT z1) R (RepD.tup h1 w1) h
    · rw [if_neg c] at h; exact False.elim h
  · dsimp only at h
    split at h
    · rename_i xs ys e1 e2
      by_cases c : xs.length + ys.length ≤ 100000
      · rw [if_pos c] at h
        obtain ⟨p1, vs1, rfl, h1, w1⟩ := seqL_rd R e1 q1
        obtain ⟨p2, vs2, rfl, h2, w2⟩ := seqL_rd R e2 q2
        exact .inr (.inr (.inr ⟨p1, p2, vs1, vs2, rfl, rfl, h1, h2, by rw [Paired.length w1, Paired.length w2]; exact lim_ok c, good_new R (RepDs.appendS w1 w2) h⟩))
      · rw [if_neg c] at h; exact False.elim h
    · exact False.elim h
theorem ed_add (ha : ED X ct W a ma) (hb : ED X ct W b mb) : ED X ct W (.BinOp a .Add b pos) (m2 ma mb addM) := ed_bin op_addF addM_ok ha hb

/-! ## x[i] -/
def ixM : RV → RV → M RV
  | .sv (.dat (.tup ds)), .sv (.dat (.int i)) => fun s => match atI ds i with
    | some d => .ok (RD d) s
    | none => .bad
  | .sv (.dat (.str z)), .sv (.dat (.int i)) => fun s => if z.length ≤ 100000 then match atI z.cps.toList i with
    | some c => .ok (RS ⟨#[c]⟩) s
    | none => .bad
    else .bad
  | x, .sv (.dat (.int i)) => fun s => match seqL s x with
    | some xs => match atI xs i with
      | some y => .ok (.sv y) s
      | none => .bad
    | none => .bad
  | _, _ => stuck
theorem atI_repD {K : PySem.W.Frag} {H : Hp} {ds : List D} {vs : List V} {i : Int} {d : D} (p : RepDs K ct H vs ds) (e : atI ds i = some d) : ∃ v, atI vs i = some v ∧ RepD K ct H v d := by
  unfold atI at e ⊢
  rw [p.length]
  cases h : ixN ds.length i with
  | none => rw [h] at e; cases e
  | some j => rw [h] at e; exact p.get e
theorem ixM_ok : BinOk X ct (rIx X.K) ixM := by
  intro W σ γ s H Ha Hb x y r1 r2 Q R q1 q2 h
  unfold ixM at h
  split at h
  · rename_i ds i
    cases e : atI ds i with
    | none => simp only [e] at h; exact False.elim h
    | some d =>
      simp only [e] at h
      obtain ⟨p1, vs1, rfl, h1, w1⟩ := tup_rep q1
      obtain ⟨v, ev, rv⟩ := atI_repD w1 e
      exact .inr (.inl ⟨p1, vs1, i, v, rfl, rep_int q2, h1, ev, good_ok (r := RD d) R rv h⟩)
  · rename_i z i
    by_cases c : z.length ≤ 100000
    · rw [if_pos c] at h
      cases e : atI z.cps.toList i with
      | none => simp only [e] at h; exact False.elim h
      | some d =>
        simp only [e] at h
        exact .inr (.inr ⟨z, i, d, rep_str q1, rep_int q2, lim_ok c, e, good_ok (r := RS _) R (RepD.str _) h⟩)
    · rw [if_neg c] at h; exact False.elim h
  · rename_i i _ _
    cases e1 : seqL s r1 with
    | none => simp only [e1] at h; exact False.elim h
    | some xs =>
      simp only [e1] at h
      cases e : atI xs i with
      | none => simp only [e] at h; exact False.elim h
      | some d =>
        simp only [e] at h
        obtain ⟨p1, vs1, rfl, h1, w1⟩ := seqL_rep R e1 q1
        obtain ⟨v, ev, rv⟩ := atI_rep w1 e
        exact .inl ⟨p1, vs1, i, v, rfl, rep_int q2, h1, ev, good_ok (r := .sv d) R rv h⟩
  · exact False.elim h
theorem ed_sub1 (ha : ED X ct W a ma) (hb : ED X ct W b mb) (hs : PlainIx b := by intro _ _; rfl) : ED X ct W (.Subscript a b pos) (m2 ma mb ixM) := ed_ix ix_seq ixM_ok ha hb hs

/-! ## slices -/
def OD (X : Cx) (ct : Nat → Addr) (W : WX) (e : Option Expr) (m : M (Option Int)) : Prop := ∃ t, PO X e t ∧ ∀ σ H γ s Q, Rep X.K ct γ H σ s →
  (m s).post (fun o s' => ∀ γ' H', Step γ γ' s s' H H' → Rep X.K ct γ' H' σ s' → Q o H') (GoodX X.K ct W σ γ s H) → t σ H Q
theorem od_none : OD X ct W none (pur none) := ⟨_, po_none, fun σ H γ s Q R h => h γ H Step.refl R⟩
def asI : RV → M (Option Int)
  | .sv (.dat (.int i)) => pur (some i)
  | _ => stuck
theorem od_some (h : ED X ct W e m) : OD X ct W (some e) (bnd m asI) := by
  obtain ⟨t, p, r⟩ := h.ex
  refine ⟨_, po_some p, fun σ H γ s Q R h => ?_⟩
  refine r σ H γ s _ R (use_e h (fun _ _ z => z) fun x s1 v γ1 H1 t1 R1 q1 g => ?_)
  unfold asI at g
  split at g
  · exact ⟨_, rep_int q1, g γ1 H1 t1 R1⟩
  · exact False.elim g
def cutD {α : Type} (xs : List α) (lo hi : Option Int) : List α := (xs.drop (HT.sIx xs.length 0 lo)).take (HT.sIx xs.length xs.length hi - HT.sIx xs.length 0 lo)
def slM (x : RV) (lo hi : Option Int) : M RV := match x with
  | .sv (.dat (.tup ds)) => pur (RT (cutD ds lo hi))
  | x => fun s => match seqL s x with
    | some xs => .ok (.new (cutD xs lo hi)) s
    | none => .bad
def m3 (m : M RV) (ml mh : M (Option Int)) : M RV := bnd m fun x => bnd ml fun lo => bnd mh fun hi => slM x lo hi
theorem Paired.takeS {α β : Type} {F : α → β → Prop} : ∀ {l₁ : List α} {l₂ : List β} (n : Nat), Paired F l₁ l₂ → Paired F (l₁.take n) (l₂.take n)
  | _, _, 0, _ => by simp; exact .nil
  | _, _, n + 1, .nil => by simp; exact .nil
  | _, _, n + 1, .cons r t => by simp; exact .cons r (Paired.takeS n t)
theorem Paired.dropS {α β : Type} {F : α → β → Prop} : ∀ {l₁ : List α} {l₂ : List β} (n : Nat), Paired F l₁ l₂ → Paired F (l₁.drop n) (l₂.drop n)
  | _, _, 0, h => by simpa using h
  | _, _, n + 1, .nil => by simp; exact .nil
  | _, _, n + 1, .cons r t => by simp; exact Paired.dropS n t
theorem RepDs.take {K : PySem.W.Frag} {H : Hp} (n : Nat) : ∀ {vs : List V} {ds : List D}, RepDs K ct H vs ds → RepDs K ct H (vs.take n) (ds.take n) := by
  induction n with
  | zero => intro vs ds h; simp; exact .nil
  | succ n ih => intro vs ds h; cases ds with
    | nil => cases h; simp; exact .nil
    | cons d ds => cases h with | cons r t => simp; exact .cons r (ih t)
theorem RepDs.drop {K : PySem.W.Frag} {H : Hp} (n : Nat) : ∀ {vs : List V} {ds : List D}, RepDs K ct H vs ds → RepDs K ct H (vs.drop n) (ds.drop n) := by
  induction n with
  | zero => intro vs ds h; simpa using h
  | succ n ih => intro vs ds h; cases ds with
    | nil => cases h; simp; exact .nil
    | cons d ds => cases h with | cons r t => simp; exact ih t
theorem use_o {K : PySem.W.Frag} {β : Type} {σ : L2.St} {γ : G} {s : S} {H : Hp} {m : M (Option Int)} {f : Option Int → M β} {P : β → S → Prop} {E : Exn → S → Prop} {Q : Option Int → Hp → Prop} (h : (bnd m f s).post P E) (hE : ∀ x s', E x s' → GoodX K ct W σ γ s H x s')
    (k : ∀ b s1 γ1 H1, Step γ γ1 s s1 H H1 → Rep K ct γ1 H1 σ s1 → (f b s1).post P E → Q b H1) : (m s).post (fun o s' => ∀ γ' H', Step γ γ' s s' H H' → Rep K ct γ' H' σ s' → Q o H') (GoodX K ct W σ γ s H) :=
  Out.post.imp (post_bnd h) (fun r s1 q γ1 H1 t R => k r s1 γ1 H1 t R q) hE
theorem ed_slice {lo hi : Option Expr} {ml mh : M (Option Int)} {p2 : Pos} (h : ED X ct W e m) (hl : OD X ct W lo ml) (hh : OD X ct W hi mh) : ED X ct W (.Subscript e (.Slice lo hi none p2) pos) (m3 m ml mh) := by
  obtain ⟨t, p, r⟩ := h.ex
  obtain ⟨tl, pl, rl⟩ := hl
  obtain ⟨th, ph, rh⟩ := hh
  refine ⟨_, pe_slice (sl_tupA.or sl_list) p pl ph, fun σ H γ s Q R h => ?_⟩
  refine r σ H γ s _ R (use_e h (fun _ _ z => z) fun x s1 v γ1 H1 t1 R1 q1 g => ?_)
  refine rl σ H1 γ1 s1 _ R1 (use_o (Good.step t1 g) (fun _ _ z => z) fun o1 s2 γ2 H2 t2 R2 g2 => ?_)
  refine rh σ H2 γ2 s2 _ R2 (use_o (Good.step t2 g2) (fun _ _ z => z) fun o2 s3 γ3 H3 t3 R3 g3 => ?_)
  have g4 : Good X.K ct W σ γ3 s3 H3 (slM x o1 o2 s3) Q := Good.step t3 g3
  have q3 := (q1.mono t2).mono t3
  unfold slM at g4
  split at g4
  · rename_i ds
    obtain ⟨p1, vs1, rfl, h1, w1⟩ := tup_rep q3
    have hl := w1.length
    refine .inl ⟨p1, vs1, rfl, h1, fun c => ?_, fun _ => ?_⟩
    · have e1 : cutD ds o1 o2 = ds := by
        unfold cutD
        rw [hl] at c
        rw [c.1, c.2]
        simp
      have g5 : Good X.K ct W σ γ3 s3 H3 (.ok (RT (cutD ds o1 o2)) s3) Q := g4
      rw [e1] at g5
      exact good_ok (r := RT ds) R3 (RepD.tup h1 w1) g5
    · have e2 : cutV vs1 o1 o2 = (vs1.drop (HT.sIx ds.length 0 o1)).take (HT.sIx ds.length ds.length o2 - HT.sIx ds.length 0 o1) := by unfold cutV; rw [hl]
      rw [e2]
      exact good_tup R3 (RepDs.take _ (RepDs.drop _ w1)) g4
  · cases e1 : seqL s3 x with
    | none => simp only [e1] at g4; exact False.elim g4
    | some xs =>
      simp only [e1] at g4
      obtain ⟨p1, vs1, rfl, h1, w1⟩ := seqL_rep R3 e1 q3
      have hl := Paired.length w1
      have e2 : cutV vs1 o1 o2 = (vs1.drop (HT.sIx xs.length 0 o1)).take (HT.sIx xs.length xs.length o2 - HT.sIx xs.length 0 o1) := by unfold cutV; rw [hl]
      refine .inr ⟨p1, vs1, rfl, h1, ?_⟩
      rw [e2]
      exact good_new R3 (Paired.takeS _ (Paired.dropS _ w1)) g4

/-! ## arguments, displays -/
variable {mA : M (List SV)}
def consA (m : M RV) (mA : M (List SV)) : M (List SV) := bnd m fun x => match x with
  | .sv x => bnd mA fun xs => pur (x :: xs)
  | .new _ => stuck
theorem ad_nil : AD X ct W [] (pur []) := ⟨_, pa_nil, fun σ H γ s Q R h => h [] γ H Step.refl R .nil⟩
theorem ad_cons (h : ED X ct W e m) (hr : AD X ct W es mA) (hs : starEach (e :: es) X.env = (false, eval e X.env) :: starEach es X.env := by rfl) : AD X ct W (e :: es) (consA m mA) := by
  obtain ⟨t, p, r⟩ := h.ex
  obtain ⟨t2, p2, r2⟩ := hr.ex
  refine ⟨_, pa_cons p p2 hs, fun σ H γ s Q R h => ?_⟩
  refine r σ H γ s _ R (use_e h (fun _ _ z => z) fun x s1 v γ1 H1 t1 R1 q1 g => ?_)
  cases x with
  | new xs => exact False.elim g
  | sv x =>
    refine r2 σ H1 γ1 s1 _ R1 (use_a (GoodA.step t1 g) (fun _ _ z => z) fun xs s2 vs γ2 H2 t2 R2 q2 g2 => ?_)
    exact g2 (v :: vs) γ2 H2 t2 R2 (.cons (RepS.mono t2 q1) q2)
def tupM (xs : List SV) : M RV := fun s => match datL xs with
  | some ds => if ds.length ≤ 1000 then .ok (RT ds) s else .bad
  | none => .bad
def lstM (xs : List SV) : M RV := fun s => if xs.length ≤ 1000 then .ok (.new xs) s else .bad
theorem ed_tup {x1} (h : AD X ct W es mA) : ED X ct W (.Tuple es x1 pos) (bnd mA tupM) := by
  obtain ⟨t, p, r⟩ := h.ex
  refine ⟨_, pe_tup p, fun σ H γ s Q R h => ?_⟩
  refine r σ H γ s _ R (use_a h (fun _ _ z => z) fun xs s1 vs γ1 H1 t1 R1 q1 g => ?_)
  unfold tupM at g
  cases e1 : datL xs with
  | none => simp only [e1] at g; exact False.elim g
  | some ds =>
    simp only [e1] at g
    have w := datL_rep e1 q1
    by_cases c : ds.length ≤ 1000
    · rw [if_pos c] at g
      exact ⟨lim_ok (by rw [w.length]; omega), good_tup R1 w (Good.step t1 g)⟩
    · rw [if_neg c] at g; exact False.elim g
theorem ed_lst (h : AD X ct W es mA) : ED X ct W (.List es pos) (bnd mA lstM) := by
  obtain ⟨t, p, r⟩ := h.ex
  refine ⟨_, pe_lst p, fun σ H γ s Q R h => ?_⟩
  refine r σ H γ s _ R (use_a h (fun _ _ z => z) fun xs s1 vs γ1 H1 t1 R1 q1 g => ?_)
  unfold lstM at g
  by_cases c : xs.length ≤ 1000
  · rw [if_pos c] at g
    exact ⟨lim_ok (by rw [Paired.length q1]; omega), good_new R1 q1 (Good.step t1 g)⟩
  · rw [if_neg c] at g; exact False.elim g
end
end Fd
set_option Elab.async false
set_option linter.all false
set_option maxRecDepth 100000
set_option maxHeartbeats 4000000
namespace Fd
open PySem PySem.Spec PyProof.Rows L2
/-! ## arguments of built-ins: any values -/
section
variable (K : PySem.W.Frag) (ct : Nat → Addr)
def GoodB (W : WX) (σ : L2.St) (γ : G) (s : S) (H : Hp) (o : Out (List RV)) (Q : List V → Hp → Prop) : Prop :=
  o.post (fun xs s' => ∀ vs γ' H', Step γ γ' s s' H H' → Rep K ct γ' H' σ s' → Paired (RepR K ct γ' s' H H') vs xs → Q vs H') (GoodX K ct W σ γ s H)
end
structure BD (X : Cx) (ct : Nat → Addr) (W : WX) (es : List Expr) (m : M (List RV)) : Prop where
  ex : ∃ t, PA X es t ∧ ∀ σ H γ s Q, Rep X.K ct γ H σ s → GoodB X.K ct W σ γ s H (m s) Q → t σ H Q
section
variable {X : Cx} {ct : Nat → Addr} {W : WX} {pos : Pos} {a b e : Expr} {ma mb m : M RV} {rest es : List Expr} {mB : M (List RV)} {mA : M (List SV)}
def consB (m : M RV) (mB : M (List RV)) : M (List RV) := bnd m fun x => bnd mB fun xs => pur (x :: xs)
theorem bd_nil : BD X ct W [] (pur []) := ⟨_, pa_nil, fun σ H γ s Q R h => h [] γ H Step.refl R .nil⟩
theorem bd_cons (h : ED X ct W e m) (hr : BD X ct W es mB) (hs : starEach (e :: es) X.env = (false, eval e X.env) :: starEach es X.env := by rfl) : BD X ct W (e :: es) (consB m mB) := by
  obtain ⟨t, p, r⟩ := h.ex
  obtain ⟨t2, p2, r2⟩ := hr.ex
  refine ⟨_, pa_cons p p2 hs, fun σ H γ s Q R h => ?_⟩
  refine r σ H γ s _ R (use_e h (fun _ _ z => z) fun x s1 v γ1 H1 t1 R1 q1 g => ?_)
  refine r2 σ H1 γ1 s1 _ R1 (Out.post.imp (post_bnd g) (fun xs s2 g2 vs γ2 H2 t2 R2 q2 => ?_) fun x s2 z => GoodX.step t1 z)
  exact g2 (v :: vs) γ2 H2 (t1.trans t2) R2 (.cons (q1.mono t2) (Paired.mapP q2 fun _ _ z => z.base t1.there))
def CallOk (X : Cx) (ct : Nat → Addr) (r : List V → Hp → VK → Prop) (f : List RV → M RV) : Prop := ∀ (W : WX) (σ : L2.St) (γ : G) (s : S) (H Ha : Hp) (vs : List V) (rs : List RV) (Q : VK), Rep X.K ct γ H σ s → Paired (RepR X.K ct γ s Ha H) vs rs → Good X.K ct W σ γ s H (f rs s) Q → r vs H Q
/-- a call of a built-in: hp is «fun _ h => pe_callB .. h» -/
theorem ed_blt {c : Expr} {r : List V → Hp → VK → Prop} {f : List RV → M RV} (hp : ∀ t, PA X es t → PE X c (tCB r t)) (hf : CallOk X ct r f) (h : BD X ct W es mB) : ED X ct W c (bnd mB f) := by
  obtain ⟨t, p, rr⟩ := h.ex
  refine ⟨_, hp t p, fun σ H γ s Q R h => ?_⟩
  refine rr σ H γ s _ R (Out.post.imp (post_bnd h) (fun xs s1 g vs γ1 H1 t1 R1 q1 => ?_) fun _ _ z => z)
  exact hf W σ γ1 s1 H1 _ vs xs Q R1 q1 (Good.step t1 g)
/-! len -/
def lenM : List RV → M RV
  | [.sv (.dat (.str z))] => fun s => if z.length ≤ 100000 then .ok (RI z.length) s else .bad
  | [.sv (.dat (.tup ds))] => pur (RI ds.length)
  | [x] => fun s => match seqL s x with
    | some xs => .ok (RI xs.length) s
    | none => .bad
  | _ => stuck
def rLen (K : PySem.W.Frag) : List V → Hp → VK → Prop := fun xs H Q => ∃ x n, xs = [x] ∧ LenV K x H n ∧ Q (.int n) H
theorem lenM_ok : CallOk X ct (rLen X.K) lenM := by
  intro W σ γ s H Ha vs rs Q R q h
  unfold lenM at h
  split at h
  · rename_i z
    cases q with
    | cons q1 q2 =>
      cases q2
      by_cases c : z.length ≤ 100000
      · rw [if_pos c] at h
        exact ⟨_, z.length, rfl, by rw [rep_str q1]; exact ⟨lim_ok c, rfl⟩, good_ok R (repI _) h⟩
      · rw [if_neg c] at h; exact False.elim h
  · rename_i ds
    cases q with
    | cons q1 q2 =>
      cases q2
      obtain ⟨p1, vs1, rfl, h1, w1⟩ := tup_rep q1
      exact ⟨_, ds.length, rfl, .inr ⟨vs1, h1, w1.length.symm⟩, good_ok R (repI _) h⟩
  · rename_i x _ _
    cases q with
    | cons q1 q2 =>
      cases q2
      cases e1 : seqL s x with
      | none => simp only [e1] at h; exact False.elim h
      | some xs =>
        simp only [e1] at h
        obtain ⟨p1, vs1, rfl, h1, w1⟩ := seqL_rep R e1 q1
        exact ⟨_, xs.length, rfl, .inl ⟨vs1, h1, (Paired.length w1).symm⟩, good_ok R (repI _) h⟩
  · exact False.elim h
/-! abs, int, gcd, max, min of ints -/
def absM : List RV → M RV
  | [.sv (.dat (.int i))] => pur (RI (if i < 0 then -i else i))
  | _ => stuck
theorem absM_ok : CallOk X ct (fun xs H Q => ∃ i, xs = [.int i] ∧ Q (.int (if i < 0 then -i else i)) H) absM := by
  intro W σ γ s H Ha vs rs Q R q h
  unfold absM at h
  split at h
  · cases q with
    | cons q1 q2 =>
      cases q2
      exact ⟨_, by rw [rep_int q1], good_ok R (repI _) h⟩
  · exact False.elim h
def intM : List RV → M RV
  | [.sv (.dat (.int i))] => pur (RI i)
  | [.sv (.dat (.bl b))] => pur (RI (if b then 1 else 0))
  | _ => stuck
theorem intM_ok : CallOk X ct (fun xs H Q => (∃ i, xs = [.int i] ∧ Q (.int i) H) ∨ ∃ k, xs = [.bl k] ∧ Q (.int (if k then 1 else 0)) H) intM := by
  intro W σ γ s H Ha vs rs Q R q h
  unfold intM at h
  split at h
  · cases q with
    | cons q1 q2 =>
      cases q2
      exact .inl ⟨_, by rw [rep_int q1], good_ok R (repI _) h⟩
  · cases q with
    | cons q1 q2 =>
      cases q2
      exact .inr ⟨_, by rw [rep_bl q1], good_ok R (repI _) h⟩
  · exact False.elim h
def int2M (g : Int → Int → Int) : List RV → M RV
  | [.sv (.dat (.int i)), .sv (.dat (.int j))] => pur (RI (g i j))
  | _ => stuck
theorem int2M_ok {g : Int → Int → Int} {r : List V → Hp → VK → Prop} (hr : ∀ i j H Q, Q (.int (g i j)) H → r [.int i, .int j] H Q) : CallOk X ct r (int2M g) := by
  intro W σ γ s H Ha vs rs Q R q h
  unfold int2M at h
  split at h
  · cases q with
    | cons q1 q2 =>
      cases q2 with
      | cons q2 q3 =>
        cases q3
        rw [rep_int q1, rep_int q2]
        exact hr _ _ _ _ (good_ok R (repI _) h)
  · exact False.elim h
def gcdM : List RV → M RV := int2M fun a b => ((Nat.gcd a.natAbs b.natAbs : Nat) : Int)
def max2M : List RV → M RV := int2M fun i j => if j > i then j else i
def min2M : List RV → M RV := int2M fun i j => if j < i then j else i
theorem gcdM_ok : CallOk X ct rGcd gcdM := int2M_ok fun i j H Q q => ⟨i, j, rfl, q⟩
theorem max2M_ok : CallOk X ct (fun xs H Q => ∃ i j, xs = [.int i, .int j] ∧ Q (.int (if j > i then j else i)) H) max2M := int2M_ok fun i j H Q q => ⟨i, j, rfl, q⟩
theorem min2M_ok : CallOk X ct (fun xs H Q => ∃ i j, xs = [.int i, .int j] ∧ Q (.int (if j < i then j else i)) H) min2M := int2M_ok fun i j H Q q => ⟨i, j, rfl, q⟩
/-! str of an int -/
def strM : List RV → M RV
  | [.sv (.dat (.int i))] => fun s => if i.natAbs.log2 < 1920 then .ok (RS (toString i)) s else .bad
  | _ => stuck
theorem strM_ok : CallOk X ct (fun xs H Q => ∃ i, xs = [.int i] ∧ i.natAbs.log2 < 1920 ∧ Q (.str (toString i)) H) strM := by
  intro W σ γ s H Ha vs rs Q R q h
  unfold strM at h
  split at h
  · rename_i i
    cases q with
    | cons q1 q2 =>
      cases q2
      by_cases c : i.natAbs.log2 < 1920
      · rw [if_pos c] at h
        exact ⟨_, by rw [rep_int q1], c, good_ok (r := RS _) R (RepD.str _) h⟩
      · rw [if_neg c] at h; exact False.elim h
  · exact False.elim h
/-! list(x), tuple(x) -/
def listM : List RV → M RV
  | [.sv (.dat (.tup ds))] => pur (.new (ds.map SV.dat))
  | [x] => fun s => match seqL s x with
    | some xs => .ok (.new xs) s
    | none => .bad
  | _ => stuck
theorem listM_ok : CallOk X ct (fun xs H Q => ∃ p ys, xs = [.ref p] ∧ (SqL X.K H p ys ∨ SqT X.K H p ys) ∧ ∀ l, H l = none → Q (.ref l) (upd H l (.lst ys))) listM := by
  intro W σ γ s H Ha vs rs Q R q h
  unfold listM at h
  split at h
  · rename_i ds
    cases q with
    | cons q1 q2 =>
      cases q2
      obtain ⟨p1, vs1, rfl, h1, w1⟩ := tup_rep q1
      exact ⟨p1, vs1, rfl, .inr h1, good_new R (rep_map w1) h⟩
  · rename_i x _
    cases q with
    | cons q1 q2 =>
      cases q2
      cases e1 : seqL s x with
      | none => simp only [e1] at h; exact False.elim h
      | some xs =>
        simp only [e1] at h
        obtain ⟨p1, vs1, rfl, h1, w1⟩ := seqL_rep R e1 q1
        exact ⟨p1, vs1, rfl, .inl h1, good_new R w1 h⟩
  · exact False.elim h
def tupleM : List RV → M RV
  | [.sv (.dat (.tup ds))] => pur (RT ds)
  | [x] => fun s => match seqL s x with
    | some xs => match datL xs with
      | some ds => .ok (RT ds) s
      | none => .bad
    | none => .bad
  | _ => stuck
theorem tupleM_ok : CallOk X ct (fun xs H Q => ∃ p ys, xs = [.ref p] ∧ ((SqL X.K H p ys ∧ ∀ l, H l = none → Q (.ref l) (upd H l (.tup ys))) ∨ (SqT X.K H p ys ∧ Q (.ref p) H))) tupleM := by
  intro W σ γ s H Ha vs rs Q R q h
  unfold tupleM at h
  split at h
  · rename_i ds
    cases q with
    | cons q1 q2 =>
      cases q2
      obtain ⟨p1, vs1, rfl, h1, w1⟩ := tup_rep q1
      exact ⟨p1, vs1, rfl, .inr ⟨h1, good_ok (r := RT ds) R (RepD.tup h1 w1) h⟩⟩
  · rename_i x _
    cases q with
    | cons q1 q2 =>
      cases q2
      cases e1 : seqL s x with
      | none => simp only [e1] at h; exact False.elim h
      | some xs =>
        simp only [e1] at h
        cases e2 : datL xs with
        | none => simp only [e2] at h; exact False.elim h
        | some ds =>
          simp only [e2] at h
          obtain ⟨p1, vs1, rfl, h1, w1⟩ := seqL_rep R e1 q1
          exact ⟨p1, vs1, rfl, .inl ⟨h1, good_tup R (datL_rep e2 w1) h⟩⟩
  · exact False.elim h

/-! ## isinstance of built-in types -/
inductive Ty where
  | int | bool | str | tuple | list | none
  deriving DecidableEq
def Ty.nm : Ty → String
  | .int => "int" | .bool => "bool" | .str => "str" | .tuple => "tuple" | .list => "list" | .none => "NoneType"
def subTy : Ty → Ty → Bool
  | .int, .int => true | .bool, .int => true | .bool, .bool => true | .str, .str => true | .tuple, .tuple => true | .list, .list => true | _, _ => false
theorem kit_sub : ∀ a b : Ty, b ≠ .none → kitB a.nm b.nm = some (subTy a b) := by
  intro a b h
  cases a <;> cases b <;> first | exact absurd rfl h | decide +kernel
def tyR (s : S) : RV → Option Ty
  | .sv (.dat .non) => some .none
  | .sv (.dat (.bl _)) => some .bool
  | .sv (.dat (.int _)) => some .int
  | .sv (.dat (.str _)) => some .str
  | .sv (.dat (.tup _)) => some .tuple
  | x => match seqL s x with
    | some _ => some .list
    | none => none
theorem tyR_rep {K : PySem.W.Frag} {γ : G} {s : S} {H0 H : Hp} {σ : L2.St} (R : Rep K ct γ H σ s) {r : RV} {v : V} {t : Ty} (e : tyR s r = some t) (q : RepR K ct γ s H0 H v r) : TyX K H v (.type t.nm) := by
  have fin : (match seqL s r with | some _ => some Ty.list | none => none) = some t → TyX K H v (.type t.nm) := fun e2 => by
    cases h : seqL s r with
    | none => rw [h] at e2; cases e2
    | some xs =>
      rw [h] at e2; cases e2
      obtain ⟨p1, vs1, rfl, h1, w1⟩ := seqL_rd R h q
      rcases h1 with h1 | ⟨o, h1⟩
      · exact .base (.lst h1)
      · exact .base (.frz h1)
  cases r with
  | new xs => exact fin e
  | sv x =>
    cases x with
    | hand => exact fin e
    | ref k => exact fin e
    | dat d =>
      cases d with
      | non => cases e; rw [rep_non q]; exact .base .non
      | bl c => cases e; rw [rep_bl q]; exact .base (.bl _)
      | int i => cases e; rw [rep_int q]; exact .base (.int _)
      | str y => cases e; rw [rep_str q]; exact .base (.str _)
      | tup ds =>
        cases e
        obtain ⟨p1, vs1, rfl, h1, w1⟩ := tup_rep q
        rcases h1 with (h1 | ⟨o, h1⟩) | ⟨o, its, n, hk, hc, _⟩
        · exact .base (.tup h1)
        · exact .fTuple h1
        · exact .kTuple hk hc
      | lst ds => exact fin e
      | obj c ds => exact fin e

def isiM (t : Ty) (r : RV) : M RV := fun s => match tyR s r with
  | some u => .ok (RB (subTy u t)) s
  | none => .bad
theorem ed_isi {p p2 : Pos} {x : Str} (t : Ty) (ht : t ≠ .none) (hg : Gl X "isinstance") (hm : X.mg "isinstance" = none) (h : ED X ct W e m) (hx : PE X (.Name x p2) (tC (.ty t.nm)))
    (he : starEach [e, .Name x p2] X.env = (false, eval e X.env) :: starEach [.Name x p2] X.env := by rfl) (hpl : (backTo pos (starEach [.Name x p2] X.env)).any (·.1) = false := by rfl)
    (he2 : starEach [.Name x p2] X.env = (false, eval (.Name x p2) X.env) :: starEach [] X.env := by rfl) : ED X ct W (.Call (.Name "isinstance" p) [e, .Name x p2] [] pos) (bnd m (isiM t)) := by
  obtain ⟨te, pe, r⟩ := h.ex
  refine ⟨_, pe_callB call_isi hg hm boot_isinstance (pa_cons pe (pa_cons hx pa_nil he2) he) (he := he) (hpl := hpl), fun σ H γ s Q R h => ?_⟩
  refine r σ H γ s _ R (use_e h (fun _ _ z => z) fun x s1 v γ1 H1 t1 R1 q1 g => ?_)
  unfold isiM at g
  cases e1 : tyR s1 x with
  | none => simp only [e1] at g; exact False.elim g
  | some u =>
    simp only [e1] at g
    exact ⟨v, .ty t.nm, _, .type t.nm, subTy u t, rfl, .ty _, tyR_rep R1 e1 q1, kit_ty (kit_sub u t ht), g _ γ1 H1 t1 R1 (repB _)⟩
/-- isinstance(x, (T, U)) -/
def isiM2 (t t' : Ty) (r : RV) : M RV := fun s => match tyR s r with
  | some u => .ok (RB (subTy u t || subTy u t')) s
  | none => .bad
theorem kitAny2 {K : PySem.W.Frag} {a b c : Ty} (hb : b ≠ .none) (hc : c ≠ .none) : PySem.W.kitAny K (.type a.nm) [.type b.nm, .type c.nm] = some (subTy a b || subTy a c) := by
  have h1 : PySem.W.kitOne K (.type a.nm) (.type b.nm) = some (subTy a b) := kit_ty (kit_sub a b hb)
  have h2 : PySem.W.kitOne K (.type a.nm) (.type c.nm) = some (subTy a c) := kit_ty (kit_sub a c hc)
  unfold PySem.W.kitAny PySem.W.kitAny PySem.W.kitAny
  rw [h1, h2]
  cases subTy a b <;> cases subTy a c <;> rfl
end
end Fd
set_option Elab.async false
set_option linter.all false
set_option maxRecDepth 100000
set_option maxHeartbeats 4000000
namespace Fd
open PySem PySem.Spec PyProof.Rows L2
/-! ## promises -/
inductive Rs where
  | dat (d : D) | new (ds : List D)
inductive Res where
  | ret (r : Rs) | exc (x : Exn) | bad
section
variable (K : PySem.W.Frag) (ct : Nat → Addr)
def RepRes (H H' : Hp) (v : V) : Rs → Prop
  | .dat d => RepD K ct H' v d
  | .new ds => ∃ a vs, v = .ref a ∧ H a = none ∧ H' a = some (.lst vs) ∧ RepDs K ct H' vs ds
def GoodP (H : Hp) (o : Res) (Q : VK) (E : XK) : Prop := match o with
  | .ret r => ∀ v H', Same H H' → RepRes K ct H H' v r → Q v H'
  | .exc x => ∀ cl d H', Same H H' → RepX K ct H' x cl d → E cl d H'
  | .bad => False
def spP (n : Nat) (F : List D → Res) : Sp := fun vs H Q E => vs.length = n ∧ ∃ ds, RepDs K ct H vs ds ∧ GoodP K ct H (F ds) Q E
def HandR (ah g : Addr) (H : Hp) (h : Hand) : Prop := H ah = some (.lst [.ref g, .int h.mixed, .int h.cnt]) ∧ H g = some (.lst (h.great.map V.int))
def RepA (ah : Addr) (H : Hp) (v : V) : SV → Prop
  | .dat d => RepD K ct H v d
  | .hand => v = .ref ah
  | .ref _ => False
def GoodH (ah g : Addr) (H : Hp) (o : Res × Hand) (Q : VK) : Prop := match o with
  | (.ret r, h') => ∀ v H' g', (∀ a o, H a = some o → a ≠ ah → a ≠ g → H' a = some o) → (∀ a, H a ≠ none → H' a ≠ none) → HandR ah g' H' h' → (g' = g ∨ H g' = none) → RepRes K ct H H' v r → (∀ ds, r = .new ds → v ≠ .ref g') → Q v H'
  | _ => False
def spH (n : Nat) (F : List SV → Hand → Res × Hand) : Sp := fun vs H Q _ => vs.length = n ∧ ∃ ah g h xs, HandR ah g H h ∧ Paired (RepA K ct ah H) vs xs ∧ GoodH K ct ah g H (F xs h) Q
end
/-! ## calls of own defs -/
def toRes (r : Res) : M RV := fun s => match r with
  | .ret (.dat d) => .ok (RD d) s
  | .ret (.new ds) => .ok (.new (ds.map SV.dat)) s
  | .exc x => .exc x s
  | .bad => .bad
def callM (n : Nat) (F : List D → Res) (dd : List D) (xs : List SV) : M RV := match datL xs with
  | some ds => if (ds ++ dd).length = n then toRes (F (ds ++ dd)) else stuck
  | none => stuck
def noRef : SV → Bool
  | .ref _ => false
  | _ => true
def callH (n : Nat) (F : List SV → Hand → Res × Hand) (dd : List D) (xs : List SV) : M RV := fun s => match s.hd with
  | some h => if (xs ++ dd.map SV.dat).length = n then if xs.all noRef = true then match F (xs ++ dd.map SV.dat) h with
    | (.ret (.dat d), h') => .ok (RD d) { s with hd := some h' }
    | (.ret (.new ds), h') => .ok (.new (ds.map SV.dat)) { s with hd := some h' }
    | _ => .bad
    else .bad else .bad
  | none => .bad
section
variable {K : PySem.W.Frag} {ct : Nat → Addr} {W : WX} {γ γ1 : G} {s s1 : S} {H H1 : Hp} {σ : L2.St}
theorem step_same (k : Same H H1) : Step γ γ s s H H1 := ⟨fun a o e _ => k a o e, fun _ z => .inl z, fun a o e _ => k a o e, fun a z q => z (by cases e : H a with | none => rfl | some o => rw [k a o e] at q; cases q), fun _ _ => rfl, Nat.le_refl _, rfl, fun _ h1 h2 => absurd h2 (Nat.not_lt.mpr h1)⟩
theorem good_res {r : Res} {Q : VK} (R : Rep K ct γ H σ s) (g : Good K ct W σ γ s H (toRes r s) Q) : GoodP K ct H r Q (WE W σ) := by
  cases r with
  | bad => exact g
  | exc x => exact fun cl d H' k q => g cl d γ H' (step_same k) (R.kept k) q
  | ret r =>
    cases r with
    | dat d => exact fun v H' k q => g v γ H' (step_same k) (R.kept k) q
    | new ds =>
      intro v H' k q
      obtain ⟨a, vs, rfl, e0, e, p⟩ := q
      exact g _ γ H' (step_same k) (R.kept k) ⟨a, vs, rfl, e0, e, R.notOwn_free e0, rep_map p⟩
theorem hand_step (R : Rep K ct γ H σ s) {h h' : Hand} (eh : s.hd = some h) {g' : Addr} (k : ∀ a o, H a = some o → a ≠ γ.ah → a ≠ γ.g → H1 a = some o) (th : ∀ a, H a ≠ none → H1 a ≠ none) (hr : HandR γ.ah g' H1 h') (hg : g' = γ.g ∨ H g' = none) :
    Step γ { γ with g := g' } s { s with hd := some h' } H H1 ∧ Rep K ct { γ with g := g' } H1 σ { s with hd := some h' } := by
  have nn : s.hd ≠ none := by rw [eh]; exact fun z => by cases z
  have st : Step γ { γ with g := g' } s { s with hd := some h' } H H1 := by
    refine ⟨fun a o e n => k a o e (fun z => n (.inr ⟨nn, .inl z⟩)) (fun z => n (.inr ⟨nn, .inr z⟩)), fun a z => ?_, fun a o e i => ?_, th, fun _ _ => rfl, Nat.le_refl _, rfl, fun _ h1 h2 => absurd h2 (Nat.not_lt.mpr h1)⟩
    · rcases z with ⟨j, lj, rfl⟩ | ⟨_, z⟩
      · exact .inl (.inl ⟨j, lj, rfl⟩)
      · rcases z with z | z
        · exact .inl (.inr ⟨nn, .inl z⟩)
        · have z' : a = g' := z
          rcases hg with q | q
          · exact .inl (.inr ⟨nn, .inr (z'.trans q)⟩)
          · exact .inr (by rw [z']; exact q)
    · have n := R.imm_notOwn e i
      exact k a o e (fun z => n (.inr ⟨nn, .inl z⟩)) (fun z => n (.inr ⟨nn, .inr z⟩))
  refine ⟨st, R.len, fun i x ex => ?_, fun j ys ey => ?_, R.inj, fun h2 e2 => ?_, fun _ j lj => ?_⟩
  · obtain ⟨v, q, r⟩ := R.env i x ex
    exact ⟨v, q, r.mono st⟩
  · obtain ⟨vs, q, r⟩ := R.mem j ys ey
    have hk := R.hdk nn j ⟨ys, ey⟩
    exact ⟨vs, k _ _ q hk.1 hk.2, RepSs.mono st r⟩
  · have e2' : some h' = some h2 := e2
    cases e2'
    exact hr
  · have hk := R.hdk nn j lj
    refine ⟨hk.1, ?_⟩
    rcases hg with q | q
    · show γ.kp j ≠ g'
      rw [q]; exact hk.2
    · obtain ⟨ys, ey⟩ := lj
      obtain ⟨vs, q2, _⟩ := R.mem j ys ey
      show γ.kp j ≠ g'
      intro z
      rw [z, q] at q2; cases q2
theorem repA_of {n : Nat} : ∀ {xs : List SV} {vs : List V}, xs.all noRef = true → Paired (RepS K ct γ n H) vs xs → Paired (RepA K ct γ.ah H) vs xs := by
  intro xs
  induction xs with
  | nil => intro vs _ h; cases h; exact .nil
  | cons x xs ih =>
    intro vs a h
    rw [List.all_cons, Bool.and_eq_true] at a
    cases h with
    | cons r t =>
      refine .cons ?_ (ih a.2 t)
      cases x with
      | dat d => exact r
      | hand => exact r
      | ref k => exact absurd a.1 (by simp [noRef])
theorem repA_append {ah : Addr} {vs us : List V} {xs ys : List SV} (r : Paired (RepA K ct ah H) vs xs) (q : Paired (RepA K ct ah H) us ys) : Paired (RepA K ct ah H) (vs ++ us) (xs ++ ys) := by
  induction r with
  | nil => exact q
  | cons h t ih => exact .cons h ih
theorem repA_map {ah : Addr} : ∀ {ds : List D} {vs : List V}, RepDs K ct H vs ds → Paired (RepA K ct ah H) vs (ds.map SV.dat) := by
  intro ds
  induction ds with
  | nil => intro vs h; cases h; exact .nil
  | cons d ds ih => intro vs h; cases h with | cons r t => exact .cons r (ih t)
end
section
variable {X : Cx} {ct : Nat → Addr} {W : WX} {pos p : Pos} {x : Str} {e : Expr} {es : List Expr} {m : M RV} {mA : M (List SV)} {k : Nat} {f : Addr} {fd : FuncData} {ps : List Str} {dvs : List V} {ds : List Value} {dd : List D}
theorem ed_call {F : List D → Res} (FK : FnOk X.prog X.w X.K X.mg X.base (L2.CX X.prog X.w) k f fd ps (spP X.K ct ps.length F)) (hr : Room k X.A) (hg : Gl X x) (hm : X.mg x = some (.ref f)) (hk : PySem.W.keepIn X.K (.ref f) = true) (hb : Binds X.K fd ps ds) (hd : Vals dvs ds) (hdd : ∀ H, RepDs X.K ct H dvs dd)
    (tk : Takes X W) (ha : AD X ct W (e :: es) mA) (hdb : (x == ("__debug__" : Str)) = false := by decide) (he : starEach (e :: es) X.env = (false, eval e X.env) :: starEach es X.env := by rfl) (hpl : (backTo pos (starEach es X.env)).any (·.1) = false := by rfl) :
    ED X ct W (.Call (.Name x p) (e :: es) [] pos) (bnd mA (callM ps.length F dd)) := by
  obtain ⟨t, pt, r⟩ := ha.ex
  refine ⟨_, pe_callSD FK hr hg hm hk hb hd (fun σ => passAt tk σ) pt hdb he hpl, fun σ H γ s Q R h => ?_⟩
  refine r σ H γ s _ R (use_a h (fun _ _ z => z) fun xs s1 vs γ1 H1 t1 R1 q1 g => ?_)
  unfold callM at g
  cases e1 : datL xs with
  | none => simp only [e1] at g; exact False.elim g
  | some es =>
    simp only [e1] at g
    have w := (datL_rep e1 q1).append (hdd H1)
    by_cases c : (es ++ dd).length = ps.length
    · rw [if_pos c] at g
      exact ⟨by rw [w.length]; exact c, _, w, good_res R1 (Good.step t1 g)⟩
    · rw [if_neg c] at g; exact False.elim g
theorem ed_callH {F : List SV → Hand → Res × Hand} (FK : FnOk X.prog X.w X.K X.mg X.base (L2.CX X.prog X.w) k f fd ps (spH X.K ct ps.length F)) (hr : Room k X.A) (hg : Gl X x) (hm : X.mg x = some (.ref f)) (hk : PySem.W.keepIn X.K (.ref f) = true) (hb : Binds X.K fd ps ds) (hd : Vals dvs ds) (hdd : ∀ H, RepDs X.K ct H dvs dd)
    (tk : Takes X W) (ha : AD X ct W (e :: es) mA) (hdb : (x == ("__debug__" : Str)) = false := by decide) (he : starEach (e :: es) X.env = (false, eval e X.env) :: starEach es X.env := by rfl) (hpl : (backTo pos (starEach es X.env)).any (·.1) = false := by rfl) :
    ED X ct W (.Call (.Name x p) (e :: es) [] pos) (bnd mA (callH ps.length F dd)) := by
  obtain ⟨t, pt, r⟩ := ha.ex
  refine ⟨_, pe_callSD FK hr hg hm hk hb hd (fun σ => passAt tk σ) pt hdb he hpl, fun σ H γ s Q R h => ?_⟩
  refine r σ H γ s _ R (use_a h (fun _ _ z => z) fun xs s1 vs γ1 H1 t1 R1 q1 g => ?_)
  unfold callH at g
  cases eh : s1.hd with
  | none => simp only [eh] at g; exact False.elim g
  | some hh =>
    simp only [eh] at g
    by_cases c : (xs ++ dd.map SV.dat).length = ps.length
    · rw [if_pos c] at g
      by_cases c2 : xs.all noRef = true
      · rw [if_pos c2] at g
        have g1 : Good X.K ct W σ γ1 s1 H1 _ Q := Good.step t1 g
        have wl : (vs ++ dvs).length = ps.length := by
          rw [List.length_append] at c ⊢
          rw [Paired.length q1, (hdd H1).length]
          simpa using c
        refine ⟨wl, γ1.ah, γ1.g, hh, _, R1.hd hh eh, repA_append (repA_of c2 q1) (repA_map (hdd H1)), ?_⟩
        cases e3 : F (xs ++ dd.map SV.dat) hh with
        | mk o h' =>
          rw [e3] at g1
          cases o with
          | bad => exact False.elim g1
          | exc x => exact False.elim g1
          | ret rr =>
            intro v H' g' k th hr' hg' q nv
            obtain ⟨st, R2⟩ := hand_step R1 eh k th hr' hg'
            cases rr with
            | dat d => exact g1 v _ H' st R2 q
            | new ds =>
              obtain ⟨a, vs, rfl, e0, ea, p⟩ := q
              refine g1 _ _ H' st R2 ⟨a, vs, rfl, e0, ea, fun z => ?_, rep_map p⟩
              rcases z with ⟨j, ⟨ys, ey⟩, rfl⟩ | ⟨_, z⟩
              · obtain ⟨us, q2, _⟩ := R1.mem j ys ey
                rw [q2] at e0; cases e0
              · rcases z with z | z
                · have z' : a = γ1.ah := z
                  rw [z', (R1.hd hh eh).1] at e0; cases e0
                · have z' : a = g' := z
                  exact nv _ rfl (by rw [z'])
      · rw [if_neg c2] at g; exact False.elim g
    · rw [if_neg c] at g; exact False.elim g

/-! ## statements -/
variable {st : Stmt} {rest sts sts2 : List Stmt} {mf mg : M Fl} {a b : Expr}
def seqF (mf mg : M Fl) : M Fl := bnd mf fun f => match f with
  | .nx => mg
  | f => pur f
theorem goodS_nx {K : PySem.W.Frag} {γ : G} {s : S} {H : Hp} {σ : L2.St} {N : Ends} (R : Rep K ct γ H σ s) (g : GoodS K ct W γ s H (.ok .nx s) N) : N.nx σ H := g σ γ H Step.refl R
theorem sds_nil : SDs X ct W [] (pur .nx) := ⟨_, pss_nil, fun N σ H γ s R h => goodS_nx R h⟩
theorem sds_one (h : SD X ct W st mf) : SDs X ct W [st] mf := by
  obtain ⟨t, p, r⟩ := h.ex
  exact ⟨t, pss_one p, r⟩
theorem use_s {K : PySem.W.Frag} {γ : G} {s : S} {H : Hp} {N : Ends} {u : TS} {mf mg : M Fl} (h : GoodS K ct W γ s H (seqF mf mg s) N)
    (k : ∀ s1 σ1 γ1 H1, Step γ γ1 s s1 H H1 → Rep K ct γ1 H1 σ1 s1 → GoodS K ct W γ1 s1 H1 (mg s1) N → u N σ1 H1) : GoodS K ct W γ s H (mf s) { N with nx := u N } :=
  Out.post.imp (post_bnd h) (fun f s1 q => by
    cases f with
    | nx => exact fun σ1 γ1 H1 t1 R1 => k s1 σ1 γ1 H1 t1 R1 (GoodS.step t1 q)
    | bk => exact q
    | ct => exact q
    | rt r => exact q) fun _ _ z => z
theorem sds_cons (h : SD X ct W st mf) (hr : SDs X ct W rest mg) : SDs X ct W (st :: rest) (seqF mf mg) := by
  obtain ⟨t, p, r⟩ := h.ex
  obtain ⟨t2, p2, r2⟩ := hr.ex
  exact ⟨_, pss_cons p p2, fun N σ H γ s R h => r _ σ H γ s R (use_s h fun s1 σ1 γ1 H1 t1 R1 g => r2 N σ1 H1 γ1 s1 R1 g)⟩
theorem sd_pass : SD X ct W (.Pass pos) (pur .nx) := ⟨_, ps_pass, fun N σ H γ s R h => goodS_nx R h⟩
theorem sd_break : SD X ct W (.Break pos) (pur .bk) := ⟨_, ps_break, fun N σ H γ s R h => h σ γ H Step.refl R⟩
theorem sd_continue : SD X ct W (.Continue pos) (pur .ct) := ⟨_, ps_continue, fun N σ H γ s R h => h σ γ H Step.refl R⟩
def retF (m : M RV) : M Fl := bnd m fun r => pur (.rt r)
theorem sd_ret (h : ED X ct W e m) : SD X ct W (.Return (some e) pos) (retF m) := by
  obtain ⟨t, p, r⟩ := h.ex
  refine ⟨_, ps_ret p, fun N σ H γ s R h => ?_⟩
  exact r σ H γ s _ R (use_e h (fun _ _ z => z.at) fun x s1 v γ1 H1 t1 R1 q1 g => g v σ γ1 H1 t1 R1 q1)
theorem sd_retN : SD X ct W (.Return none pos) (pur (.rt RN)) := ⟨_, ps_retN, fun N σ H γ s R h => h .non σ γ H Step.refl R RepD.non⟩
def dropF (m : M RV) : M Fl := bnd m fun _ => pur .nx
theorem sd_expr (h : ED X ct W e m) (hs : swapsWith e none pos.line X.env = pure false := by rfl) : SD X ct W (.Expr e pos) (dropF m) := by
  obtain ⟨t, p, r⟩ := h.ex
  refine ⟨_, ps_expr p hs, fun N σ H γ s R h => ?_⟩
  exact r σ H γ s _ R (use_e h (fun _ _ z => z.at) fun x s1 v γ1 H1 t1 R1 q1 g => g σ γ1 H1 t1 R1)
def ifF (tc : M Bool) (mf mg : M Fl) : M Fl := bnd tc fun b => if b = true then mf else mg
theorem sd_if {c : Expr} {tc : M Bool} (hc : TD X ct W c tc) (h1 : SDs X ct W sts mf) (h2 : SDs X ct W sts2 mg) : SD X ct W (.If c sts sts2 pos) (ifF tc mf mg) := by
  obtain ⟨t, p, r⟩ := hc.ex
  obtain ⟨t1, p1, r1⟩ := h1.ex
  obtain ⟨t2, p2, r2⟩ := h2.ex
  refine ⟨_, ps_if p p1 p2, fun N σ H γ s R h => ?_⟩
  refine r σ H γ s _ R (use_t h (fun _ _ z => z.at) fun b s1 γ1 H1 t1 R1 g => ?_)
  cases b with
  | true => exact r1 N σ H1 γ1 s1 R1 (GoodS.step t1 g)
  | false => exact r2 N σ H1 γ1 s1 R1 (GoodS.step t1 g)
/-! targets -/
/-- a target: the slots that it may change, what it does with a value -/
structure GD (X : Cx) (ct : Nat → Addr) (e : Expr) (is : List Nat) (f : SV → M Unit) : Prop where
  ex : ∃ t, PG X e t ∧ ∀ σ H γ s v x (Q : L2.St → Hp → Prop), Rep X.K ct γ H σ s → RepS X.K ct γ s.mem.length H v x →
    (f x s).post (fun _ s' => ∀ σ' γ' H', Step γ γ' s s' H H' → Rep X.K ct γ' H' σ' s' → (∀ j, j ∉ is → σ'[j]? = σ[j]?) → σ'.length = σ.length → Q σ' H') (fun _ _ => False) → t v σ H Q
structure GDs (X : Cx) (ct : Nat → Addr) (es : List Expr) (is : List Nat) (f : List SV → M Unit) : Prop where
  ex : ∃ t, PGs X es t ∧ ∀ σ H γ s vs xs (Q : L2.St → Hp → Prop), Rep X.K ct γ H σ s → Paired (RepS X.K ct γ s.mem.length H) vs xs →
    (f xs s).post (fun _ s' => ∀ σ' γ' H', Step γ γ' s s' H H' → Rep X.K ct γ' H' σ' s' → (∀ j, j ∉ is → σ'[j]? = σ[j]?) → σ'.length = σ.length → Q σ' H') (fun _ _ => False) → t vs σ H Q
def setV (i : Nat) (x : SV) : M Unit := fun s => .ok () { s with env := s.env.set i (some x) }
theorem rep_set {K : PySem.W.Frag} {γ : G} {s : S} {H : Hp} {σ : L2.St} (R : Rep K ct γ H σ s) {i : Nat} {v : V} {x : SV} (r : RepS K ct γ s.mem.length H v x) : Rep K ct γ H (σ.set i (some v)) { s with env := s.env.set i (some x) } := by
  refine ⟨by simpa using R.len, fun j y e => ?_, R.mem, R.inj, R.hd, R.hdk⟩
  have e' : (s.env.set i (some x))[j]? = some (some y) := e
  by_cases h : i = j
  · subst h
    have hl : i < s.env.length := by
      have := (List.getElem?_eq_some_iff.mp e').1
      simpa using this
    rw [List.getElem?_set_self hl] at e'
    cases e'
    exact ⟨v, List.getElem?_set_self (by rw [R.len]; exact hl), r⟩
  · rw [List.getElem?_set_ne h] at e'
    obtain ⟨u, q, r'⟩ := R.env j y e'
    exact ⟨u, by rw [List.getElem?_set_ne h]; exact q, r'⟩
theorem step_env {γ : G} {s : S} {H : Hp} {env : List (Option SV)} : Step γ γ s { s with env := env } H H := ⟨fun _ _ e _ => e, fun _ h => .inl h, KeepI.refl, fun _ z => z, fun _ _ => rfl, Nat.le_refl _, rfl, fun _ h1 h2 => absurd h2 (Nat.not_lt.mpr h1)⟩
theorem gd_name {i : Nat} {x : Str} (hp : PG X (.Name x pos) (gName i)) : GD X ct (.Name x pos) [i] (setV i) :=
  ⟨_, hp, fun σ H γ s v x Q R r h => h _ γ H step_env (rep_set R r) (fun j hj => List.getElem?_set_ne (by simpa [eq_comm] using hj)) (by simp)⟩
theorem gds_nil : GDs X ct [] [] (fun xs => match xs with | [] => pur () | _ => stuck) := by
  refine ⟨_, pgs_nil, fun σ H γ s vs xs Q R r h => ?_⟩
  cases xs with
  | nil => cases r; exact ⟨rfl, h σ γ H Step.refl R (fun _ _ => rfl) rfl⟩
  | cons x xs => exact False.elim h
def consG (f : SV → M Unit) (g : List SV → M Unit) (xs : List SV) : M Unit := match xs with
  | [] => stuck
  | x :: xs => bnd (f x) fun _ => g xs
theorem gds_cons {is js : List Nat} {f : SV → M Unit} {g : List SV → M Unit} (h : GD X ct e is f) (hr : GDs X ct es js g) (hs : (assignEach (e :: es) X.env).map (·.2) = assign e X.env :: (assignEach es X.env).map (·.2) := by rfl) : GDs X ct (e :: es) (is ++ js) (consG f g) := by
  obtain ⟨t, p, r⟩ := h.ex
  obtain ⟨t2, p2, r2⟩ := hr.ex
  refine ⟨_, pgs_cons p p2 hs, fun σ H γ s vs xs Q R q h => ?_⟩
  cases xs with
  | nil => exact False.elim h
  | cons x xs =>
    cases q with
    | cons q1 q2 =>
      refine ⟨_, _, rfl, r σ H γ s _ x _ R q1 (Out.post.imp (post_bnd h) (fun _ s1 g σ1 γ1 H1 t1 R1 a1 l1 => ?_) fun _ _ z => z)⟩
      exact r2 σ1 H1 γ1 s1 _ xs Q R1 (RepSs.mono t1 q2) (Out.post.imp g (fun _ s2 k σ2 γ2 H2 t2 R2 a2 l2 => k σ2 γ2 H2 (t1.trans t2) R2 (fun j hj => by
        rw [List.mem_append, not_or] at hj
        rw [a2 j hj.2, a1 j hj.1]) (l2.trans l1)) fun _ _ z => z)
def tupG (g : List SV → M Unit) (n : Nat) (x : SV) : M Unit := match x with
  | .dat (.tup ds) => if ds.length = n then g (ds.map SV.dat) else stuck
  | _ => stuck
theorem gd_tup {is : List Nat} {k n : Nat} {g : List SV → M Unit} (hc : X.calm = true) (h : GDs X ct es is g) (hn : (assignEach es X.env).length = n := by rfl) (hst : (assignEach es X.env).findIdx? (·.1) = none := by rfl) : GD X ct (.Tuple es k pos) is (tupG g n) := by
  obtain ⟨t, p, r⟩ := h.ex
  refine ⟨_, pg_tup hc p hn hst, fun σ H γ s v x Q R q h => ?_⟩
  unfold tupG at h
  split at h
  · rename_i ds
    obtain ⟨a, vs, e1, hq, w⟩ := tup_rep (s := s) (H0 := H) (γ := γ) (show RepR X.K ct γ s H H v (RT ds) from q)
    by_cases c : ds.length = n
    · rw [if_pos c] at h
      exact ⟨a, vs, e1, hq, by rw [w.length]; exact c, r σ H γ s vs _ Q R (rep_map w) h⟩
    · rw [if_neg c] at h; exact False.elim h
  · exact False.elim h
def nxU (u : M Unit) : M Fl := fun s => match u s with
  | .ok _ s' => .ok .nx s'
  | _ => .bad
def asgF (m : M RV) (f : SV → M Unit) : M Fl := bnd m fun r => match r with
  | .sv x => nxU (f x)
  | .new _ => stuck
theorem sd_asg {tg : Expr} {is : List Nat} {f : SV → M Unit} (h : ED X ct W e m) (hg : GD X ct tg is f) (hs : swapsWithSole [tg] e pos.line X.env = pure false := by rfl) (hw : swappedStores [tg] e X.env = pure none := by rfl)
    (h1 : (assignEach [tg] X.env).map (·.2) = [assign tg X.env] := by rfl) : SD X ct W (.Assign [tg] e pos) (asgF m f) := by
  obtain ⟨t, p, r⟩ := h.ex
  obtain ⟨t2, p2, r2⟩ := hg.ex
  refine ⟨_, ps_asg p p2 hs hw h1, fun N σ H γ s R h => ?_⟩
  refine r σ H γ s _ R (use_e h (fun _ _ z => z.at) fun x s1 v γ1 H1 t1 R1 q1 g => ?_)
  cases x with
  | new xs => exact False.elim g
  | sv x =>
    refine r2 σ H1 γ1 s1 v x _ R1 q1 ?_
    have g' : (nxU (f x) s1).post (GoodF X.K ct γ s H N) (GoodXS X.K ct W γ s H) := g
    unfold nxU at g'
    cases e2 : f x s1 with
    | bad => rw [e2] at g'; exact g'
    | exc y s2 => rw [e2] at g'; exact False.elim g'
    | ok u s2 =>
      rw [e2] at g'
      exact fun σ2 γ2 H2 t2 R2 _ _ => g' σ2 γ2 H2 (t1.trans t2) R2
end
end Fd
set_option Elab.async false
set_option linter.all false
set_option maxRecDepth 100000
set_option maxHeartbeats 4000000
namespace Fd
open PySem PySem.Spec PyProof.Rows L2
/-! ## what is walked -/
structure Src where
  items : List SV
  keep : Option (Nat × List SV)
def Src.Ok (src : Src) (s : S) : Prop := match src.keep with
  | none => True
  | some (k, xs) => s.mem[k]? = some (some xs)
structure WalkD (K : PySem.W.Frag) (ct : Nat → Addr) (J : It) (src : Src) (γ : G) (s : S) (H : Hp) : Prop where
  ex : ∃ (Gd : Hp → Prop) (Y : Nat → Hp → V → Hp → Prop), L2.Walk J src.items.length Gd Y ∧
    (∀ γ1 s1 H1 σ1, Step γ γ1 s s1 H H1 → Rep K ct γ1 H1 σ1 s1 → src.Ok s1 → Gd H1) ∧
    (∀ i γ1 s1 H1 σ1 x H2 y, Step γ γ1 s s1 H H1 → Rep K ct γ1 H1 σ1 s1 → src.Ok s1 → src.items[i]? = some y → Y i H1 x H2 → Same H1 H2 ∧ RepS K ct γ1 s1.mem.length H2 x y)
structure ID (X : Cx) (ct : Nat → Addr) (W : WX) (tg iter : Expr) (mi : M Src) : Prop where
  ex : ∃ wi, PI X tg iter wi ∧ ∀ σ H γ s (R : It → Hp → Prop), Rep X.K ct γ H σ s →
    (mi s).post (fun src s' => ∀ γ' H' J, Step γ γ' s s' H H' → Rep X.K ct γ' H' σ s' → WalkD X.K ct J src γ' s' H' → R J H') (GoodX X.K ct W σ γ s H) → wi σ H R
def iSeq (K : PySem.W.Frag) (tl : TE) : TI := fun σ H R => tl σ H fun x H1 => ∃ a, x = .ref a ∧ (((∃ xs, SqL K H1 a xs) ∧ R (Itl K a) H1) ∨ ((∃ xs, SqT K H1 a xs) ∧ R (Itt K a) H1))
theorem pi_seq {X : Cx} {tg l : Expr} {tl : TE} (hl : PE X l tl) : PI X tg l (iSeq X.K tl) := by
  refine ⟨fun pins s σ H R I h => ?_⟩
  refine thn (hl.run pins s σ H _ I h) fun v s1 ⟨x, H1, I1, r1, q1⟩ => ?_
  obtain ⟨a, e, ⟨⟨xs, hq⟩, q⟩ | ⟨⟨xs, hq⟩, q⟩⟩ := q1
  · subst e
    cases r1
    obtain ⟨its, rv, p, hz⟩ := I1.list hq
    refine wpAny_pyIter_list p.isList ?_
    refine ⟨s1.heap.objs.size, [s1.heap.objs.size], _, _, H1, rfl, I1.kept (t' := s1.toks) fun b o e => Heap.get?_push_of_some _ e, turn_list a _, ⟨_, Heap.get?_push_size _ rfl, rfl, rfl⟩, fun b hb => ?_, q⟩
    have e : b = s1.heap.objs.size := by simpa using hb
    subst e
    exact I1.fpOk (Nat.le_refl _) (I1.hok.fresh (Nat.le_refl _))
  · subst e
    cases r1
    obtain ⟨its, rv, p, hz⟩ := I1.tuple hq
    refine wpAny_pyIter_tuple (show s1.heap.IsTuple a its.toArray from p) ?_
    refine ⟨s1.heap.objs.size, [s1.heap.objs.size], _, _, H1, rfl, I1.kept (t' := s1.toks) fun b o e => Heap.get?_push_of_some _ e, turn_tuple a _, ⟨_, Heap.get?_push_size _ rfl, rfl, rfl⟩, fun b hb => ?_, q⟩
    have e : b = s1.heap.objs.size := by simpa using hb
    subst e
    exact I1.fpOk (Nat.le_refl _) (I1.hok.fresh (Nat.le_refl _))
section
variable {X : Cx} {ct : Nat → Addr} {W : WX} {pos : Pos} {a b e tg : Expr} {ma mb m : M RV} {es : List Expr}
/-- a list or a tuple -/
def seqSrc : RV → M Src
  | .sv (.dat (.tup ds)) => pur ⟨ds.map SV.dat, none⟩
  | .sv (.dat (.lst ds)) => pur ⟨ds.map SV.dat, none⟩
  | .new xs => pur ⟨xs, none⟩
  | .sv (.ref k) => fun s => match s.mem[k]? with
    | some (some xs) => .ok ⟨xs, some (k, xs)⟩ s
    | _ => .bad
  | _ => stuck
theorem walkD_list {K : PySem.W.Frag} {γ : G} {s : S} {H : Hp} {a : Addr} {xs : List SV} {kp : Option (Nat × List SV)} (hG : ∀ γ1 s1 H1 σ1, Step γ γ1 s s1 H H1 → Rep K ct γ1 H1 σ1 s1 → (Src.mk xs kp).Ok s1 → ∃ vs, SqL K H1 a vs ∧ Paired (RepS K ct γ1 s1.mem.length H1) vs xs) : WalkD K ct (Itl K a) ⟨xs, kp⟩ γ s H := by
  refine ⟨fun H => ∃ us, SqL K H a us ∧ us.length = xs.length, fun i H x H' => H' = H ∧ ∀ us, SqL K H a us → us[i]? = some x, ⟨?_, ?_, ?_⟩, ?_, ?_⟩
  · rintro i H1 hi ⟨us, hq, hl⟩
    have hi' : i < us.length := by rw [hl]; exact hi
    exact ⟨us, us[i], hq, by simp [hi']⟩
  · rintro H1 ⟨us, hq, hl⟩
    exact ⟨us, hq, Nat.le_of_eq hl⟩
  · intro i H1 x H2 hi _ y
    exact y
  · intro γ1 s1 H1 σ1 st R1 ok
    obtain ⟨vs, hq, p⟩ := hG γ1 s1 H1 σ1 st R1 ok
    exact ⟨vs, hq, Paired.length p⟩
  · rintro i γ1 s1 H1 σ1 x H2 y st R1 ok e ⟨rfl, ex⟩
    obtain ⟨vs, hq, p⟩ := hG γ1 s1 _ σ1 st R1 ok
    obtain ⟨v, ev, rv⟩ := paired_get p e
    rw [ex vs hq] at ev; cases ev
    exact ⟨Same.refl _, rv⟩
theorem walkD_tup {K : PySem.W.Frag} {γ : G} {s : S} {H : Hp} {a : Addr} {vs : List V} {ds : List D} (h : SqT K H a vs) (p : RepDs K ct H vs ds) : WalkD K ct (Itt K a) ⟨ds.map SV.dat, none⟩ γ s H := by
  have p' := rep_map (γ := γ) (n := s.mem.length) p
  refine ⟨_, _, by rw [show (Src.mk (ds.map SV.dat) none).items.length = vs.length from (Paired.length p').symm]; exact walk_tup (xs := vs), fun γ1 s1 H1 σ1 st R1 _ => sqT_mono st.imm h, ?_⟩
  rintro i γ1 s1 H1 σ1 x H2 y st R1 ok e ⟨rfl, ex⟩
  obtain ⟨v, ev, rv⟩ := paired_get p' e
  rw [ev] at ex; cases ex
  exact ⟨Same.refl _, rv.mono st⟩
theorem id_seq (h : ED X ct W e m) : ID X ct W tg e (bnd m seqSrc) := by
  obtain ⟨t, p, r⟩ := h.ex
  refine ⟨_, pi_seq p, fun σ H γ s R0 R h => ?_⟩
  refine r σ H γ s _ R (use_e h (fun _ _ z => z) fun x s1 v γ1 H1 t1 R1 q1 g => ?_)
  unfold seqSrc at g
  split at g
  · rename_i ds
    obtain ⟨p1, vs1, rfl, h1, w1⟩ := tup_rep q1
    exact ⟨p1, rfl, .inr ⟨⟨vs1, h1⟩, g γ1 H1 _ t1 R1 (walkD_tup h1 w1)⟩⟩
  · rename_i ds
    have q' : RepD X.K ct H1 v (.lst ds) := q1
    cases q' with
    | lst hq w1 => exact ⟨_, rfl, .inl ⟨⟨_, hq.sq⟩, g γ1 H1 _ t1 R1 (walkD_list fun γ2 s2 H2 σ2 st R2 _ => ⟨_, (hq.mono st.imm).sq, RepSs.mono st (rep_map w1)⟩)⟩⟩
  · rename_i xs
    obtain ⟨a, vs, rfl, e0, ea, na, rp⟩ := q1
    exact ⟨a, rfl, .inl ⟨⟨vs, SqL.of ea⟩, g γ1 H1 _ t1 R1 (walkD_list fun γ2 s2 H2 σ2 st R2 _ => ⟨vs, SqL.of (st.keep a _ ea na), RepSs.mono st rp⟩)⟩⟩
  · rename_i k
    cases e1 : s1.mem[k]? with
    | none => simp only [e1] at g; exact False.elim g
    | some o =>
      cases o with
      | none => simp only [e1] at g; exact False.elim g
      | some xs =>
        simp only [e1] at g
        have q' : k < s1.mem.length ∧ v = .ref (γ1.kp k) := q1
        obtain ⟨hk, rfl⟩ := q'
        obtain ⟨vs, ek, rp⟩ := R1.mem k xs e1
        refine ⟨_, rfl, .inl ⟨⟨vs, SqL.of ek⟩, g γ1 H1 _ t1 R1 (walkD_list fun γ2 s2 H2 σ2 st R2 ok => ?_)⟩⟩
        have ok' : s2.mem[k]? = some (some xs) := ok
        obtain ⟨us, eu, ru⟩ := R2.mem k xs ok'
        rw [st.kp k hk] at eu
        exact ⟨us, SqL.of eu, ru⟩
  · exact False.elim g
/-- range -/
def rangeL (lo : Int) (n : Nat) : List SV := (List.range n).map fun i => .dat (.int (lo + (i : Nat)))
def rng1 : List RV → M Src
  | [.sv (.dat (.int j))] => fun s => if -(2 ^ 62) ≤ j ∧ j < 2 ^ 62 then .ok ⟨rangeL 0 j.toNat, none⟩ s else .bad
  | _ => stuck
def rng2 : List RV → M Src
  | [.sv (.dat (.int i)), .sv (.dat (.int j))] => fun s => if -(2 ^ 62) ≤ i ∧ i < 2 ^ 62 ∧ -(2 ^ 62) ≤ j ∧ j < 2 ^ 62 then .ok ⟨rangeL i (j - i).toNat, none⟩ s else .bad
  | _ => stuck
theorem walkD_range {K : PySem.W.Frag} {γ : G} {s : S} {H : Hp} {lo : Int} {n : Nat} : WalkD K ct (Itr lo n) ⟨rangeL lo n, none⟩ γ s H := by
  refine ⟨_, _, by rw [show (Src.mk (rangeL lo n) none).items.length = n by simp [rangeL]]; exact walk_range, fun _ _ _ _ _ _ _ => trivial, ?_⟩
  rintro i γ1 s1 H1 σ1 x H2 y st R1 ok e ⟨rfl, rfl⟩
  have e' : ((List.range n).map fun i => (SV.dat (.int (lo + (i : Nat)))))[i]? = some y := e
  rw [List.getElem?_map] at e'
  by_cases hi : i < n
  · rw [List.getElem?_range hi] at e'
    cases e'
    exact ⟨Same.refl _, RepD.int _⟩
  · rw [List.getElem?_eq_none (by simpa using hi)] at e'
    cases e'
variable {mB : M (List RV)} {p : Pos}
theorem id_range1 (hg : Gl X "range") (hm : X.mg "range" = none) (ha : BD X ct W [a] mB) (hs : starEach [a] X.env = [(false, eval a X.env)] := by rfl) : ID X ct W tg (.Call (.Name "range" p) [a] [] pos) (bnd mB rng1) := by
  obtain ⟨t, pt, r⟩ := ha.ex
  refine ⟨_, pi_range1 hg hm pt hs, fun σ H γ s R0 R h => ?_⟩
  refine r σ H γ s _ R (Out.post.imp (post_bnd h) (fun xs s1 g vs γ1 H1 t1 R1 q1 => ?_) fun _ _ z => z)
  unfold rng1 at g
  split at g
  · rename_i j
    cases q1 with
    | cons q1 q2 =>
      cases q2
      by_cases c : -(2 ^ 62) ≤ j ∧ j < 2 ^ 62
      · rw [if_pos c] at g
        exact ⟨j, by rw [rep_int q1], c.1, c.2, g γ1 H1 _ t1 R1 walkD_range⟩
      · rw [if_neg c] at g; exact False.elim g
  · exact False.elim g
theorem id_range2 (hg : Gl X "range") (hm : X.mg "range" = none) (ha : BD X ct W [a, b] mB) (hs : starEach [a, b] X.env = [(false, eval a X.env), (false, eval b X.env)] := by rfl) (hs2 : starEach [b] X.env = [(false, eval b X.env)] := by rfl) : ID X ct W tg (.Call (.Name "range" p) [a, b] [] pos) (bnd mB rng2) := by
  obtain ⟨t, pt, r⟩ := ha.ex
  refine ⟨_, pi_range2 hg hm pt hs hs2, fun σ H γ s R0 R h => ?_⟩
  refine r σ H γ s _ R (Out.post.imp (post_bnd h) (fun xs s1 g vs γ1 H1 t1 R1 q1 => ?_) fun _ _ z => z)
  unfold rng2 at g
  split at g
  · rename_i i j
    cases q1 with
    | cons q1 q2 =>
      cases q2 with
      | cons q2 q3 =>
        cases q3
        by_cases c : -(2 ^ 62) ≤ i ∧ i < 2 ^ 62 ∧ -(2 ^ 62) ≤ j ∧ j < 2 ^ 62
        · rw [if_pos c] at g
          exact ⟨i, j, by rw [rep_int q1, rep_int q2], c, g γ1 H1 _ t1 R1 walkD_range⟩
        · rw [if_neg c] at g; exact False.elim g
  · exact False.elim g
/-! ## for -/
open Classical in
noncomputable def forL (ok : S → Prop) (f : SV → M Unit) (body : M Fl) : List SV → M Fl
  | [] => fun s => if ok s then .ok .nx s else .bad
  | x :: xs => fun s => if ok s then match f x s with
    | .ok _ s1 => match body s1 with
      | .ok .nx s2 => forL ok f body xs s2
      | .ok .ct s2 => forL ok f body xs s2
      | .ok .bk s2 => .ok .nx s2
      | .ok (.rt r) s2 => .ok (.rt r) s2
      | .exc x s2 => .exc x s2
      | .bad => .bad
    | _ => .bad
    else .bad
noncomputable def forF (mi : M Src) (f : SV → M Unit) (body : M Fl) : M Fl := bnd mi fun src => forL src.Ok f body src.items
theorem sd_for {it : Expr} {mi : M Src} {f : SV → M Unit} {body : List Stmt} {mb : M Fl} (hp : PassesOwn (model X.prog X.w) X.A X.env X.xe) (hc : X.calm = true) (hi : ID X ct W tg it mi) {is : List Nat} (hg : GD X ct tg is f) (hb : SDs X ct W body mb)
    (hs : ∀ x, foldedSetIterable it X.env x = pure x := by intro _; rfl) : SD X ct W (.For tg it body [] pos) (forF mi f mb) := by
  obtain ⟨wi, pi, ri⟩ := hi.ex
  obtain ⟨tg', pg, rg⟩ := hg.ex
  obtain ⟨tb, pb, rb⟩ := hb.ex
  refine ⟨_, ps_for hp hc pi pg pb hs, fun N σ H γ s R h => ?_⟩
  refine ri σ H γ s _ R (Out.post.imp (post_bnd h) (fun src s1 g γ1 H1 J t1 R1 wd => ?_) fun _ _ z => z.at)
  obtain ⟨Gd, Y, wk, hG, hY⟩ := wd.ex
  refine for_it wk (fun i σ2 H2 => ∃ γ2 s2, Step γ1 γ2 s1 s2 H1 H2 ∧ Rep X.K ct γ2 H2 σ2 s2 ∧ (forL src.Ok f mb (src.items.drop i) s2).post (GoodF X.K ct γ s H N) (GoodXS X.K ct W γ s H)) ⟨γ1, s1, Step.refl, R1, by rw [List.drop_zero]; exact g⟩ ?_ ?_ ?_
  · rintro i σ2 H2 hi ⟨γ2, s2, t2, R2, g2⟩
    refine hG γ2 s2 H2 σ2 t2 R2 ?_
    cases e : src.items.drop i with
    | nil =>
      rw [e] at g2
      by_cases c : src.Ok s2
      · exact c
      · unfold forL at g2; rw [if_neg c] at g2; exact False.elim g2
    | cons y ys =>
      rw [e] at g2
      by_cases c : src.Ok s2
      · exact c
      · unfold forL at g2; rw [if_neg c] at g2; exact False.elim g2
  · rintro i x σ2 H2 H3 hi ⟨γ2, s2, t2, R2, g2⟩ y
    rw [List.drop_eq_getElem_cons hi] at g2
    unfold forL at g2
    by_cases c : src.Ok s2
    · rw [if_pos c] at g2
      obtain ⟨sm, rx⟩ := hY i γ2 s2 H2 σ2 x H3 src.items[i] t2 R2 c (by simp [hi]) y
      have R3 := R2.kept sm
      have t3 : Step γ2 γ2 s2 s2 H2 H3 := step_same sm
      refine rg σ2 H3 γ2 s2 x _ _ R3 rx ?_
      cases e1 : f src.items[i] s2 with
      | bad => rw [e1] at g2; exact False.elim g2
      | exc z s3 => rw [e1] at g2; exact False.elim g2
      | ok u s3 =>
        rw [e1] at g2
        intro σ4 γ4 H4 t4 R4 _ _
        refine rb _ σ4 H4 γ4 s3 R4 ?_
        have tt : Step γ1 γ4 s1 s3 H1 H4 := (t2.trans t3).trans t4
        have tt0 : Step γ γ4 s s3 H H4 := t1.trans tt
        unfold GoodS
        dsimp only at g2
        cases e2 : mb s3 with
        | bad => rw [e2] at g2; exact g2
        | exc z s5 => rw [e2] at g2; exact GoodXS.step tt0 g2
        | ok fl s5 =>
          rw [e2] at g2
          cases fl with
          | nx => exact fun σ5 γ5 H5 t5 R5 => ⟨γ5, s5, tt.trans t5, R5, g2⟩
          | ct => exact fun σ5 γ5 H5 t5 R5 => ⟨γ5, s5, tt.trans t5, R5, g2⟩
          | bk => exact fun σ5 γ5 H5 t5 R5 => g2 σ5 γ5 H5 (tt0.trans t5) R5
          | rt r => exact fun v σ5 γ5 H5 t5 R5 q5 => g2 v σ5 γ5 H5 (tt0.trans t5) R5 (q5.base tt0.there)
    · rw [if_neg c] at g2; exact False.elim g2
  · rintro σ2 H2 ⟨γ2, s2, t2, R2, g2⟩
    rw [List.drop_length] at g2
    unfold forL at g2
    by_cases c : src.Ok s2
    · rw [if_pos c] at g2
      exact g2 σ2 γ2 H2 (t1.trans t2) R2
    · rw [if_neg c] at g2; exact False.elim g2
/-! ## a, b = e1, e2 -/
def parF (i j : Nat) (mA : M (List SV)) : M Fl := bnd mA fun xs s => match xs with
  | [x, y] => .ok .nx { s with env := (s.env.set i (some x)).set j (some y) }
  | _ => .bad
theorem sd_par {i j : Nat} {x y : Str} {px py pt : Pos} {kt k2 pt2} {mA : M (List SV)} (hc : X.calm = true) (hN : X.N.Nodup) (hi : X.N[i]? = some x) (hj : X.N[j]? = some y) (hij : i ≠ j)
    (hx : X.env.scope.names.lookup x = some .local) (hy : X.env.scope.names.lookup y = some .local) (ha : AD X ct W [a, b] mA)
    (hw : swappedStores [.Tuple [.Name x px, .Name y py] kt pt] (.Tuple [a, b] k2 pt2) X.env = pure (some [x, y]))
    (hs : swapsWithSole [.Tuple [.Name x px, .Name y py] kt pt] (.Tuple [a, b] k2 pt2) pos.line X.env = pure false := by rfl) :
    SD X ct W (.Assign [.Tuple [.Name x px, .Name y py] kt pt] (.Tuple [a, b] k2 pt2) pos) (parF i j mA) := by
  obtain ⟨t, pt', r⟩ := ha.ex
  refine ⟨_, ps_par hc hN hi hj hij hx hy pt' hw hs, fun N σ H γ s R h => ?_⟩
  refine r σ H γ s _ R (use_a h (fun _ _ z => z.at) fun xs s1 vs γ1 H1 t1 R1 q1 g => ?_)
  cases q1 with
  | nil => exact False.elim g
  | cons q1 q2 =>
    cases q2 with
    | nil => exact False.elim g
    | cons q2 q3 =>
      cases q3 with
      | cons _ _ => exact False.elim g
      | nil => exact ⟨_, _, rfl, g _ γ1 H1 (t1.trans step_env) (rep_set (rep_set R1 q1) q2)⟩
/-! ## while -/
def whileL (tc : M Bool) (body : M Fl) : Nat → M Fl
  | 0 => stuck
  | n + 1 => fun s => match tc s with
    | .ok true s1 => match body s1 with
      | .ok .nx s2 => whileL tc body n s2
      | .ok .ct s2 => whileL tc body n s2
      | .ok .bk s2 => .ok .nx s2
      | .ok (.rt r) s2 => .ok (.rt r) s2
      | .exc x s2 => .exc x s2
      | .bad => .bad
    | .ok false s1 => .ok .nx s1
    | .exc x s1 => .exc x s1
    | .bad => .bad
end
end Fd
set_option Elab.async false
set_option linter.all false
set_option maxRecDepth 100000
set_option maxHeartbeats 4000000
namespace Fd
open PySem PySem.Spec PyProof.Rows L2
section
variable {X : Cx} {ct : Nat → Addr} {W : WX} {pos : Pos} {a b e tg : Expr} {ma mb m : M RV} {es : List Expr}
/-! ## while -/
theorem sd_while {c : Expr} {body : List Stmt} {tc : M Bool} {mb : M Fl} (n : Nat) (hp : PassesOwn (model X.prog X.w) X.A X.env X.xe) (hc : TD X ct W c tc) (hb : SDs X ct W body mb) : SD X ct W (.While c body [] pos) (whileL tc mb n) := by
  obtain ⟨t, pt, r⟩ := hc.ex
  obtain ⟨tb, pb, rb⟩ := hb.ex
  refine ⟨_, ps_while hp pt pb, fun N σ H γ s R h => ?_⟩
  refine ⟨fun k σ1 H1 => ∃ γ1 s1, Step γ γ1 s s1 H H1 ∧ Rep X.K ct γ1 H1 σ1 s1 ∧ GoodS X.K ct W γ s H (whileL tc mb k s1) N, ⟨n, γ, s, Step.refl, R, h⟩, ?_⟩
  rintro k σ1 H1 ⟨γ1, s1, t1, R1, g⟩
  cases k with
  | zero => exact False.elim g
  | succ k =>
    unfold whileL at g
    refine r σ1 H1 γ1 s1 _ R1 ?_
    unfold GoodT
    cases e1 : tc s1 with
    | bad => simp only [e1] at g; exact g
    | exc z s2 => simp only [e1] at g; exact (GoodXS.step t1 g).at
    | ok bb s2 =>
      simp only [e1] at g
      intro γ2 H2 t2 R2
      have tt := t1.trans t2
      cases bb with
      | false => exact g σ1 γ2 H2 tt R2
      | true =>
        rw [if_pos rfl]
        refine ⟨fun σ' H' => ∃ γ3 s3, Step γ γ3 s s3 H H' ∧ Rep X.K ct γ3 H' σ' s3 ∧ GoodS X.K ct W γ s H (whileL tc mb k s3) N, fun σ' H' q => ⟨k, Nat.lt_succ_self k, q⟩, ?_⟩
        refine rb _ σ1 H2 γ2 s2 R2 ?_
        unfold GoodS
        dsimp only at g
        cases e2 : mb s2 with
        | bad => rw [e2] at g; exact g
        | exc z s5 => rw [e2] at g; exact GoodXS.step tt g
        | ok fl s5 =>
          rw [e2] at g
          cases fl with
          | nx => exact fun σ5 γ5 H5 t5 R5 => ⟨γ5, s5, tt.trans t5, R5, g⟩
          | ct => exact fun σ5 γ5 H5 t5 R5 => ⟨γ5, s5, tt.trans t5, R5, g⟩
          | bk => exact fun σ5 γ5 H5 t5 R5 => g σ5 γ5 H5 (tt.trans t5) R5
          | rt r => exact fun v σ5 γ5 H5 t5 R5 q5 => g v σ5 γ5 H5 (tt.trans t5) R5 (q5.base tt.there)
/-! ## canonical readings -/
end
def tmE (K : PySem.W.Frag) (ct : Nat → Addr) (W : WX) (m : M RV) : TE := fun σ H Q => ∃ γ s, Rep K ct γ H σ s ∧ Good K ct W σ γ s H (m s) Q
def tmT (K : PySem.W.Frag) (ct : Nat → Addr) (W : WX) (m : M Bool) : TT := fun σ H Q => ∃ γ s, Rep K ct γ H σ s ∧ GoodT K ct W σ γ s H (m s) Q
def tmG (K : PySem.W.Frag) (ct : Nat → Addr) (is : List Nat) (f : SV → M Unit) : TG := fun v σ H Q => ∃ γ s x, Rep K ct γ H σ s ∧ RepS K ct γ s.mem.length H v x ∧
  (f x s).post (fun _ s' => ∀ σ' γ' H', Step γ γ' s s' H H' → Rep K ct γ' H' σ' s' → (∀ j, j ∉ is → σ'[j]? = σ[j]?) → σ'.length = σ.length → Q σ' H') (fun _ _ => False)
section
variable {X : Cx} {ct : Nat → Addr} {W : WX} {pos : Pos} {a b e tg : Expr} {ma mb m : M RV} {es : List Expr}
theorem ED.pe (h : ED X ct W e m) : PE X e (tmE X.K ct W m) := by
  obtain ⟨t, p, r⟩ := h.ex
  exact ⟨fun pins s σ H Q I ⟨γ, s', R, g⟩ => p.run pins s σ H Q I (r σ H γ s' Q R g)⟩
theorem TD.pt {m : M Bool} (h : TD X ct W e m) : PT X e (tmT X.K ct W m) := by
  obtain ⟨t, p, r⟩ := h.ex
  exact ⟨fun pins s σ H Q I ⟨γ, s', R, g⟩ => p.run pins s σ H Q I (r σ H γ s' Q R g)⟩
theorem GD.pg {is : List Nat} {f : SV → M Unit} (h : GD X ct e is f) : PG X e (tmG X.K ct is f) := by
  obtain ⟨t, p, r⟩ := h.ex
  exact ⟨fun pins s σ H v u Q I rv ⟨γ, s', x, R, q, g⟩ => p.run pins s σ H v u Q I rv (r σ H γ s' v x Q R q g)⟩
/-! ## [elt for x in it if ..] -/
abbrev WF : WX := fun _ _ _ _ => False
/-- the ifs -/
structure IfsD (X : Cx) (ct : Nat → Addr) (es : List Expr) (m : M Bool) : Prop where
  pts : PTs X es (tmT X.K ct WF m)
theorem ifs_nil : IfsD X ct [] (pur true) := by
  constructor
  have h := pts_nil (X := X)
  exact ⟨fun pins s σ H Q I ⟨γ, s', R, g⟩ => h.run pins s σ H Q I (g γ H Step.refl R)⟩
theorem ifs_one {m : M Bool} (h : TD X ct WF e m) : IfsD X ct [e] m := ⟨pts_one h.pt⟩
def wipeE (env : List (Option SV)) : List Nat → List (Option SV)
  | [] => env
  | v :: vs => (wipeE env vs).set v none
def wipeS (vs : List Nat) (s : S) : S := { s with env := wipeE s.env vs }
theorem wipeE_length (env : List (Option SV)) : ∀ vs, (wipeE env vs).length = env.length
  | [] => rfl
  | v :: vs => by unfold wipeE; rw [List.length_set, wipeE_length env vs]
theorem wipeE_some {env : List (Option SV)} {i : Nat} {x : SV} : ∀ {vs : List Nat}, (wipeE env vs)[i]? = some (some x) → env[i]? = some (some x) ∧ i ∉ vs
  | [], h => ⟨h, by simp⟩
  | v :: vs, h => by
    unfold wipeE at h
    by_cases hi : v = i
    · subst hi
      by_cases hv : v < (wipeE env vs).length
      · rw [List.getElem?_set_self hv] at h; cases h
      · rw [List.getElem?_eq_none (by simpa using hv)] at h; cases h
    · rw [List.getElem?_set_ne hi] at h
      obtain ⟨h1, h2⟩ := wipeE_some h
      exact ⟨h1, by simp only [List.mem_cons, not_or]; exact ⟨fun e => hi e.symm, h2⟩⟩
theorem wipe_out {σ : L2.St} {i : Nat} : ∀ {vs : List Nat}, i ∉ vs → (wipe σ vs)[i]? = σ[i]?
  | [], _ => rfl
  | v :: vs, h => by
    simp only [List.mem_cons, not_or] at h
    unfold wipe
    rw [List.getElem?_set_ne (fun z => h.1 z.symm)]
    exact wipe_out h.2
theorem wipe_in {σ : L2.St} {i : Nat} : ∀ {vs : List Nat}, i ∈ vs → i < σ.length → (wipe σ vs)[i]? = some none
  | [], h, _ => by simp at h
  | v :: vs, h, hl => by
    unfold wipe
    by_cases e : v = i
    · subst e
      exact List.getElem?_set_self (by rw [wipe_length]; exact hl)
    · rw [List.getElem?_set_ne e]
      rcases List.mem_cons.mp h with z | z
      · exact absurd z.symm e
      · exact wipe_in z hl
theorem wipe_eq {σ σ' : L2.St} {vs : List Nat} (hl : σ'.length = σ.length) (h : ∀ j, j ∉ vs → σ'[j]? = σ[j]?) : wipe σ' vs = wipe σ vs := by
  apply List.ext_getElem?
  intro i
  by_cases hi : i ∈ vs
  · by_cases hb : i < σ.length
    · rw [wipe_in hi hb, wipe_in hi (by rw [hl]; exact hb)]
    · rw [List.getElem?_eq_none (by rw [wipe_length]; omega), List.getElem?_eq_none (by rw [wipe_length]; omega)]
  · rw [wipe_out hi, wipe_out hi, h i hi]
theorem rep_wipe {K : PySem.W.Frag} {γ : G} {s : S} {H : Hp} {σ : L2.St} {vs : List Nat} (R : Rep K ct γ H σ s) : Rep K ct γ H (wipe σ vs) (wipeS vs s) := by
  refine ⟨by rw [wipe_length]; show σ.length = (wipeE s.env vs).length; rw [wipeE_length]; exact R.len, fun i x e => ?_, R.mem, R.inj, R.hd, R.hdk⟩
  obtain ⟨h1, h2⟩ := wipeE_some (show (wipeE s.env vs)[i]? = some (some x) from e)
  obtain ⟨v, q, r⟩ := R.env i x h1
  exact ⟨v, by rw [wipe_out h2]; exact q, r⟩
theorem rep_unwipe {K : PySem.W.Frag} {γ : G} {s : S} {H : Hp} {σ : L2.St} {vs : List Nat} (R : Rep K ct γ H (wipe σ vs) s) : Rep K ct γ H σ s := by
  refine ⟨by rw [← R.len, wipe_length], fun i x e => ?_, R.mem, R.inj, R.hd, R.hdk⟩
  obtain ⟨v, q, r⟩ := R.env i x e
  exact ⟨v, (wipe_some q).1, r⟩
theorem step_wipe {γ : G} {s : S} {H : Hp} {vs : List Nat} : Step γ γ s (wipeS vs s) H H := step_env
open Classical in
noncomputable def lcL (ok : S → Prop) (vs : List Nat) (f : SV → M Unit) (tt : M Bool) (me : M RV) : List SV → List SV → M RV
  | [], acc => fun s => if ok s then .ok (.new acc) s else .bad
  | x :: xs, acc => fun s => if ok s then match f x s with
    | .ok _ s1 => match tt s1 with
      | .ok true s2 => match me s2 with
        | .ok (.sv y) s3 => if acc.length < 100000 then lcL ok vs f tt me xs (acc ++ [y]) (wipeS vs s3) else .bad
        | _ => .bad
      | .ok false s2 => lcL ok vs f tt me xs acc (wipeS vs s2)
      | _ => .bad
    | _ => .bad
    else .bad
noncomputable def lcM (mi : M Src) (vs : List Nat) (f : SV → M Unit) (tt : M Bool) (me : M RV) : M RV := bnd mi fun src s => lcL src.Ok vs f tt me src.items [] (wipeS vs s)
theorem lc_sem {K : PySem.W.Frag} {wi : TI} {mi : M Src} {is vs : List Nat} {f : SV → M Unit} {mt : M Bool} {me : M RV}
    (ri : ∀ σ H γ s (R : It → Hp → Prop), Rep K ct γ H σ s → (mi s).post (fun src s' => ∀ γ' H' J, Step γ γ' s s' H H' → Rep K ct γ' H' σ s' → WalkD K ct J src γ' s' H' → R J H') (GoodX K ct W σ γ s H) → wi σ H R)
    (hv : ∀ j ∈ is, j ∈ vs) {σ : L2.St} {H : Hp} {γ : G} {s : S} {Q : VK} (R : Rep K ct γ H σ s) (h : Good K ct W σ γ s H (lcM mi vs f mt me s) Q) :
    tLc wi (tmG K ct is f) (tmT K ct WF mt) (tmE K ct WF me) vs σ H Q := by
  refine ri σ H γ s _ R (Out.post.imp (post_bnd h) (fun src s1 g γ1 H1 J t1 R1 wd => ?_) fun _ _ z => z)
  intro Dl hD
  obtain ⟨Gd, Y, wk, hG, hY⟩ := wd.ex
  have nfree : H Dl = none := free_of t1.there hD
  refine lc_it wk (fun i H2 => ∃ γ2 s2 acc avs, Step γ1 γ2 s1 s2 H1 H2 ∧ Rep K ct γ2 H2 (wipe σ vs) s2 ∧ H2 Dl = some (.lst avs) ∧ ¬ Own γ2 s2 Dl ∧ Paired (RepS K ct γ2 s2.mem.length H2) avs acc ∧ Good K ct W σ γ s H (lcL src.Ok vs f mt me (src.items.drop i) acc s2) Q) ?_ ?_ ?_ ?_
  · refine ⟨γ1, wipeS vs s1, [], [], step_wipe.trans (Step.laid hD), rep_wipe (R1.laid hD), upd_same, R1.notOwn_free hD, .nil, ?_⟩
    rw [List.drop_zero]
    exact g
  · rintro i H2 hi ⟨γ2, s2, acc, avs, t2, R2, _, _, _, g2⟩
    refine hG γ2 s2 H2 _ t2 R2 ?_
    cases e : src.items.drop i with
    | nil =>
      rw [e] at g2
      by_cases c : src.Ok s2
      · exact c
      · unfold lcL at g2; rw [if_neg c] at g2; exact False.elim g2
    | cons y ys =>
      rw [e] at g2
      by_cases c : src.Ok s2
      · exact c
      · unfold lcL at g2; rw [if_neg c] at g2; exact False.elim g2
  · rintro i x H2 H3 hi ⟨γ2, s2, acc, avs, t2, R2, eD, nD, pa, g2⟩ y
    rw [List.drop_eq_getElem_cons hi] at g2
    unfold lcL at g2
    by_cases c : src.Ok s2
    · rw [if_pos c] at g2
      obtain ⟨sm, rx⟩ := hY i γ2 s2 H2 _ x H3 src.items[i] t2 R2 c (by simp [hi]) y
      have R3 := R2.kept sm
      have t3 : Step γ2 γ2 s2 s2 H2 H3 := step_same sm
      refine ⟨γ2, s2, _, R3, rx, ?_⟩
      cases e1 : f src.items[i] s2 with
      | bad => rw [e1] at g2; exact False.elim g2
      | exc z s3 => rw [e1] at g2; exact False.elim g2
      | ok u s3 =>
        rw [e1] at g2
        try dsimp only at g2
        intro σ4 γ4 H4 t4 R4 a4 l4
        have wq : wipe σ4 vs = wipe σ vs := by
          have e1 : wipe σ4 vs = wipe (wipe σ vs) vs := wipe_eq l4 fun j hj => a4 j fun z => hj (hv j z)
          rw [e1]
          exact wipe_eq (by rw [wipe_length]) fun j hj => wipe_out hj
        refine ⟨wq, ?_⟩
        refine ⟨γ4, s3, R4, ?_⟩
        have tt : Step γ1 γ4 s1 s3 H1 H4 := (t2.trans t3).trans t4
        have stay : ∀ {γa γb sa sb Ha Hb}, Step γa γb sa sb Ha Hb → (∃ av, Ha Dl = some (.lst av) ∧ ¬ Own γa sa Dl) → ∀ av, Ha Dl = some (.lst av) → Hb Dl = some (.lst av) ∧ ¬ Own γb sb Dl := fun {γa γb sa sb Ha Hb} st ⟨_, _, n⟩ av e => by
          refine ⟨st.keep _ _ e n, fun z => ?_⟩
          rcases st.own _ z with q | q
          · exact n q
          · rw [e] at q; cases q
        obtain ⟨e4, n4⟩ := stay (t3.trans t4) ⟨avs, eD, nD⟩ avs eD
        have pa4 := RepSs.mono (t3.trans t4) pa
        unfold GoodT
        cases e2 : mt s3 with
        | bad => rw [e2] at g2; exact False.elim g2
        | exc z s5 => rw [e2] at g2; exact False.elim g2
        | ok bb s5 =>
          rw [e2] at g2
          try dsimp only at g2
          intro γ5 H5 t5 R5
          obtain ⟨e5, n5⟩ := stay t5 ⟨avs, e4, n4⟩ avs e4
          cases bb with
          | false =>
            rw [if_neg (by decide)]
            refine ⟨γ5, wipeS vs s5, acc, avs, (tt.trans t5).trans step_wipe, ?_, e5, n5, RepSs.mono t5 pa4, g2⟩
            rw [← wq]
            exact rep_wipe R5
          | true =>
            rw [if_pos rfl]
            dsimp only at g2
            refine ⟨γ5, s5, R5, ?_⟩
            unfold Good
            cases e3 : me s5 with
            | bad => rw [e3] at g2; exact False.elim g2
            | exc z s6 => rw [e3] at g2; exact False.elim g2
            | ok r s6 =>
              rw [e3] at g2
              try dsimp only at g2
              cases r with
              | new _ => exact False.elim g2
              | sv yv =>
                try dsimp only at g2
                by_cases cl : acc.length < 100000
                · rw [if_pos cl] at g2
                  intro v γ6 H6 t6 R6 q6
                  obtain ⟨e6, n6⟩ := stay t6 ⟨avs, e5, n5⟩ avs e5
                  have pa6 := RepSs.mono t6 (RepSs.mono t5 pa4)
                  refine ⟨avs, e6, by rw [Paired.length pa6]; exact Nat.lt_of_lt_of_le cl (by decide), ?_⟩
                  have ki : KeepI H6 (upd H6 Dl (.lst (avs ++ [v]))) := fun z u ez iz => by
                    rw [upd_ne]
                    · exact ez
                    · rintro rfl; rw [e6] at ez; cases ez; exact iz
                  have ts : Step γ1 γ6 s1 s6 H1 (upd H6 Dl (.lst (avs ++ [v]))) := by
                    have t16 := (tt.trans t5).trans t6
                    refine ⟨fun z u ez nz => ?_, t16.own, fun z u ez iz => ?_, fun z hz => there_upd z (t16.there z hz), t16.kp, t16.len, t16.ah, t16.fresh⟩
                    · rw [upd_ne (ne_of_none ez hD)]; exact t16.keep z u ez nz
                    · rw [upd_ne (ne_of_none ez hD)]; exact t16.imm z u ez iz
                  have m1 : ∀ {v x}, RepS K ct γ6 s6.mem.length H6 v x → RepS K ct γ6 s6.mem.length (upd H6 Dl (.lst (avs ++ [v]))) v x := fun {v x} r => by
                    cases x with
                    | dat d => exact RepD.mono (fun z u ez iz => by
                        rw [upd_ne]
                        · exact ez
                        · rintro rfl; rw [e6] at ez; cases ez; exact iz) r
                    | ref k => exact r
                    | hand => exact r
                  have m2 : ∀ (nl : List V) {v x}, RepS K ct γ6 s6.mem.length H6 v x → RepS K ct γ6 s6.mem.length (upd H6 Dl (.lst nl)) v x := fun nl {v x} r => by
                    cases x with
                    | dat d => exact RepD.mono (fun z u ez iz => by
                        rw [upd_ne]
                        · exact ez
                        · rintro rfl; rw [e6] at ez; cases ez; exact iz) r
                    | ref k => exact r
                    | hand => exact r
                  have R7 : Rep K ct γ6 (upd H6 Dl (.lst (avs ++ [v]))) σ4 s6 := by
                    refine ⟨R6.len, fun i x ex => ?_, fun k xs ex => ?_, R6.inj, fun h ex => ?_, R6.hdk⟩
                    · obtain ⟨v, q, r⟩ := R6.env i x ex
                      exact ⟨v, q, m2 _ r⟩
                    · obtain ⟨us, q, r⟩ := R6.mem k xs ex
                      refine ⟨us, ?_, Paired.mapP r fun _ _ z => m2 _ z⟩
                      rw [upd_ne]
                      · exact q
                      · rintro rfl; exact n6 (.inl ⟨k, ⟨xs, ex⟩, rfl⟩)
                    · refine (R6.hd h ex).mono fun b u q hb => ?_
                      rw [upd_ne]
                      · exact q
                      · rintro rfl; exact n6 (.inr ⟨by rw [ex]; exact (fun z => by cases z), hb⟩)
                  refine ⟨γ6, wipeS vs s6, acc ++ [yv], avs ++ [v], ts.trans step_wipe, ?_, upd_same, n6, ?_, g2⟩
                  · rw [← wq]
                    exact rep_wipe R7
                  · exact RepDs.appendS (Paired.mapP pa6 fun _ _ z => m2 _ z) (.cons (m2 _ q6) .nil)
                · rw [if_neg cl] at g2; exact False.elim g2
    · rw [if_neg c] at g2; exact False.elim g2
  · rintro H2 ⟨γ2, s2, acc, avs, t2, R2, eD, nD, pa, g2⟩
    rw [List.drop_length] at g2
    unfold lcL at g2
    by_cases c : src.Ok s2
    · rw [if_pos c] at g2
      exact g2 _ γ2 H2 (t1.trans t2) (rep_unwipe R2) ⟨Dl, avs, rfl, nfree, eD, nD, pa⟩
    · rw [if_neg c] at g2; exact False.elim g2
theorem ed_lc {elt it : Expr} {ifs : List Expr} {scope : Scope} {own : List (Str × Nat)} {mi : M Src} {is : List Nat} {f : SV → M Unit} {mt : M Bool} {me : M RV} (hc : X.calm = true) (hN : X.N.Nodup) (hi : ID X ct W tg it mi) (ok : BlkOk X.N X.env.scope scope own) (hv : ∀ j ∈ is, j ∈ own.map (·.2))
    (hg : ∀ (s : Shared) (H : Hp) (C : Addr) (cl : List (Str × Addr)) (fp : List Addr), GD (X.blk s H scope (compEnvC scope cl C X.env) fp) ct tg is f) (ht : ∀ (s : Shared) (H : Hp) (C : Addr) (cl : List (Str × Addr)) (fp : List Addr), IfsD (X.blk s H scope (compEnvC scope cl C X.env) fp) ct ifs mt)
    (he : ∀ (s : Shared) (H : Hp) (C : Addr) (cl : List (Str × Addr)) (fp : List Addr), ED (X.blk s H scope (compEnvC scope cl C X.env) fp) ct WF elt me) (hs : ∀ x, foldedSetIterable it X.env x = pure x := by intro _; rfl) :
    ED X ct W (.ListComp elt [⟨tg, it, ifs, 0⟩] scope pos) (lcM mi (own.map (·.2)) f mt me) := by
  obtain ⟨wi, pi, ri⟩ := hi.ex
  refine ⟨_, pe_lc hc hN pi ok (fun s H C cl fp => (hg s H C cl fp).pg) (fun s H C cl fp => (ht s H C cl fp).pts) (fun s H C cl fp => (he s H C cl fp).pe) hs, fun σ H γ s Q R h => lc_sem ri hv R h⟩
end
end Fd
set_option Elab.async false
set_option linter.all false
set_option maxRecDepth 100000
set_option maxHeartbeats 4000000
namespace Fd
open PySem PySem.Spec PyProof.Rows L2
/-! ## defs -/
def datsR (xs : List SV) : Option Rs := match datL xs with
  | some ds => some (.new ds)
  | none => none
def resV (s : S) : RV → Option Rs
  | .sv (.dat d) => some (.dat d)
  | .sv (.ref k) => match s.mem[k]? with
    | some (some xs) => datsR xs
    | _ => none
  | .sv .hand => none
  | .new xs => datsR xs
def resP : Out Fl → Res
  | .ok .nx _ => .ret (.dat .non)
  | .ok (.rt r) s => match resV s r with
    | some x => .ret x
    | none => .bad
  | .ok _ _ => .bad
  | .exc x _ => .exc x
  | .bad => .bad
def startP (n : Nat) (ds : List D) : S := ⟨ds.map (fun d => some (.dat d)) ++ List.replicate (n - ds.length) none, [], none⟩
def runP (n : Nat) (m : M Fl) (ds : List D) : Res := resP (m (startP n ds))
def startH (n : Nat) (xs : List SV) (h : Hand) : S := ⟨xs.map some ++ List.replicate (n - xs.length) none, [], some h⟩
def runH (n : Nat) (m : M Fl) (xs : List SV) (h : Hand) : Res × Hand := match m (startH n xs h) with
  | .ok f s => match s.hd with
    | some h' => (resP (.ok f s), h')
    | none => (.bad, h)
  | _ => (.bad, h)
section
variable {K : PySem.W.Frag} {ct : Nat → Addr}
theorem start_rep {N : List Str} {H : Hp} {vs : List V} {xs : List SV} {γ : G} {hd : Option Hand} (h : Paired (RepS K ct γ 0 H) vs xs) (hh : ∀ h, hd = some h → HandAt γ H h) : Rep K ct γ H (L2.start N vs) ⟨xs.map some ++ List.replicate (N.length - xs.length) none, [], hd⟩ := by
  have hl := Paired.length h
  refine ⟨by simp [L2.start, hl], fun i x e => ?_, fun k ys e => by simp at e, fun j k lj => by obtain ⟨ys, e⟩ := lj; simp at e, hh, fun _ k lk => by obtain ⟨ys, e⟩ := lk; simp at e⟩
  have e' : (xs.map some ++ List.replicate (N.length - xs.length) none)[i]? = some (some x) := e
  by_cases hi : i < xs.length
  · rw [List.getElem?_append_left (by simpa using hi), List.getElem?_map] at e'
    cases h2 : xs[i]? with
    | none => rw [h2] at e'; cases e'
    | some y =>
      rw [h2] at e'
      cases e'
      obtain ⟨v, q, r⟩ := paired_get h h2
      refine ⟨v, ?_, r⟩
      unfold L2.start
      rw [List.getElem?_append_left (by rw [List.length_map, hl]; exact hi), List.getElem?_map, q]
      rfl
  · rw [List.getElem?_append_right (by simpa using hi), List.getElem?_replicate] at e'
    split at e' <;> cases e'
theorem datsR_rep {γ : G} {n : Nat} {H0 H : Hp} {a : Addr} {vs : List V} {xs : List SV} {r : Rs} (e : datsR xs = some r) (e0 : H0 a = none) (ea : H a = some (.lst vs)) (p : Paired (RepS K ct γ n H) vs xs) : RepRes K ct H0 H (.ref a) r := by
  unfold datsR at e
  cases h : datL xs with
  | none => rw [h] at e; cases e
  | some ds => rw [h] at e; cases e; exact ⟨a, vs, rfl, e0, ea, datL_rep h p⟩
theorem resV_rep {γ γ0 : G} {s s0 : S} {H0 H : Hp} {σ : L2.St} {v : V} {r : RV} {x : Rs} (e : resV s r = some x) (t : Step γ0 γ s0 s H0 H) (h0 : s0.mem = []) (R : Rep K ct γ H σ s) (q : RepR K ct γ s H0 H v r) : RepRes K ct H0 H v x := by
  cases r with
  | new xs =>
    obtain ⟨a, vs, rfl, e0, ea, _, p⟩ := q
    exact datsR_rep e e0 ea p
  | sv y =>
    cases y with
    | hand => cases e
    | dat d => cases e; exact q
    | ref k =>
      unfold resV at e
      cases h : s.mem[k]? with
      | none => simp only [h] at e; cases e
      | some o =>
        cases o with
        | none => simp only [h] at e; cases e
        | some xs =>
          simp only [h] at e
          have q' : k < s.mem.length ∧ v = .ref (γ.kp k) := q
          obtain ⟨hk, rfl⟩ := q'
          obtain ⟨vs, ek, p⟩ := R.mem k xs h
          exact datsR_rep e (t.fresh k (by rw [h0]; exact Nat.zero_le _) hk) ek p
end
section
variable {P : Program} {w : World} {K : PySem.W.Frag} {mg : Str → Option Value} {base : Heap} {x qual : Str} {params : Arguments} {body : List Stmt} {scope : Scope} {dvs : List V} {kws : List (Str × V)} {f : Addr} {fd : FuncData} {N ps : List Str} {k : Nat} {ct : Nat → Addr} {m : M Fl}
/-- THE RULE for a def without the hand -/
theorem fnP (F : FunD K x qual params body scope dvs kws f fd) (S : FnScope N ps scope)
    (hb : ∀ (cdv : Value) (A : Around) (outer : List Env) (s : Shared) (H : Hp) (E : XK), Room k (A.deeper (envOfC qual scope s.heap.objs.size f cdv)) →
      SDs (cxOf (L2.CX P w) P w K mg base N qual scope f cdv A outer s H E) ct (fun cls d _ H => E cls d H) body m) : FnOk P w K mg base (L2.CX P w) (k + 1) f fd ps (spP K ct ps.length (runP N.length m)) := by
  refine F.ok S (fun vs H Q E h => h.1) fun cdv A outer s H vs Q E hr h => ?_
  obtain ⟨hl, ds, rp, g⟩ := h
  obtain ⟨t, p, r⟩ := (hb cdv A outer s H E hr).ex
  refine ⟨t, p, ?_⟩
  let γ0 : G := ⟨fun _ => 0, 0, 0⟩
  have R0 : Rep K ct γ0 H (L2.start N vs) (startP N.length ds) := by
    have := start_rep (N := N) (K := K) (ct := ct) (γ := γ0) (hd := none) (rep_map (γ := γ0) (n := 0) rp) (fun h e => by cases e)
    simpa [startP, List.map_map, Function.comp_def] using this
  refine r _ _ _ γ0 _ R0 ?_
  have noOwn : ∀ a, ¬ Own γ0 (startP N.length ds) a := fun a z => by
    rcases z with ⟨j, ⟨ys, e⟩, _⟩ | ⟨z, _⟩
    · simp [startP] at e
    · exact z rfl
  have same : ∀ {γ' s' H'}, Step γ0 γ' (startP N.length ds) s' H H' → Same H H' := fun st a o e => st.keep a o e (noOwn a)
  unfold runP at g
  unfold GoodS
  cases e1 : m (startP N.length ds) with
  | bad => rw [e1] at g; exact g
  | exc y s1 =>
    rw [e1] at g
    exact fun cl d σ' γ' H' st R' q => g cl d H' (same st) q
  | ok fl s1 =>
    rw [e1] at g
    cases fl with
    | nx => exact fun σ' γ' H' st R' => g .non H' (same st) RepD.non
    | bk => exact False.elim g
    | ct => exact False.elim g
    | rt rr =>
      intro v σ' γ' H' st R' q
      unfold resP at g
      cases e2 : resV s1 rr with
      | none => simp only [e2] at g; exact False.elim g
      | some z => simp only [e2] at g; exact g v H' (same st) (resV_rep e2 st rfl R' q)
/-- .. with the hand -/
theorem fnH (F : FunD K x qual params body scope dvs kws f fd) (S : FnScope N ps scope)
    (hb : ∀ (cdv : Value) (A : Around) (outer : List Env) (s : Shared) (H : Hp) (E : XK), Room k (A.deeper (envOfC qual scope s.heap.objs.size f cdv)) →
      SDs (cxOf (L2.CX P w) P w K mg base N qual scope f cdv A outer s H E) ct (fun cls d _ H => E cls d H) body m) : FnOk P w K mg base (L2.CX P w) (k + 1) f fd ps (spH K ct ps.length (runH N.length m)) := by
  refine F.ok S (fun vs H Q E h => h.1) fun cdv A outer s H vs Q E hr h => ?_
  obtain ⟨hl, ah, g0, h0, xs, hh, rp, gd⟩ := h
  obtain ⟨t, p, r⟩ := (hb cdv A outer s H E hr).ex
  refine ⟨t, p, ?_⟩
  let γ0 : G := ⟨fun _ => 0, ah, g0⟩
  have rp' : Paired (RepS K ct γ0 0 H) vs xs := Paired.mapP rp fun v y q => by
    cases y with
    | dat d => exact q
    | hand => exact q
    | ref k => exact False.elim q
  have R0 : Rep K ct γ0 H (L2.start N vs) (startH N.length xs h0) := start_rep rp' fun h e => by cases e; exact hh
  refine r _ _ _ γ0 _ R0 ?_
  have own0 : ∀ a, Own γ0 (startH N.length xs h0) a → a = ah ∨ a = g0 := fun a z => by
    rcases z with ⟨j, ⟨ys, e⟩, _⟩ | ⟨_, z⟩
    · simp [startH] at e
    · exact z
  unfold runH at gd
  unfold GoodS
  have fin : ∀ {γ' : G} {s1 : Fd.S} {H' : Hp} {σ' : L2.St} {v : V} {rr : Rs} {h' : Hand}, s1.hd = some h' → GoodH K ct ah g0 H (.ret rr, h') Q → Step γ0 γ' (startH N.length xs h0) s1 H H' → Rep K ct γ' H' σ' s1 → RepRes K ct H H' v rr → (∀ ds, rr = .new ds → ∃ a, v = .ref a ∧ (a ≠ γ'.g)) → Q v H' := by
    intro γ' s1 H' σ' v rr h' eh g st R' q nv
    have hA := R'.hd h' eh
    have nn : s1.hd ≠ none := by rw [eh]; exact fun z => by cases z
    refine g v H' γ'.g (fun a o e n1 n2 => st.keep a o e fun z => (own0 a z).elim n1 n2) st.there (by have := st.ah; exact ⟨by have h1 := hA.1; rw [st.ah] at h1; exact h1, hA.2⟩) ?_ q ?_
    · rcases st.own γ'.g (.inr ⟨nn, .inr rfl⟩) with z | z
      · rcases own0 _ z with z | z
        · exfalso
          have h1 := hA.1
          rw [st.ah] at h1
          have h2 := hA.2
          rw [z] at h2
          have h1' : H' ah = some (.lst [.ref γ'.g, .int h'.mixed, .int h'.cnt]) := h1
          rw [h1'] at h2
          have := HO.lst.inj (Option.some.inj h2)
          cases hg : h'.great with
          | nil => rw [hg] at this; cases this
          | cons i l => rw [hg] at this; cases this
        · exact .inl z
      · exact .inr z
    · intro ds e z
      obtain ⟨a, e1, e2⟩ := nv ds e
      rw [e1] at z
      exact e2 (V.ref.inj z)
  cases e1 : m (startH N.length xs h0) with
  | bad => rw [e1] at gd; exact False.elim gd
  | exc y s1 => rw [e1] at gd; exact False.elim gd
  | ok fl s1 =>
    rw [e1] at gd
    dsimp only at gd
    cases eh : s1.hd with
    | none => rw [eh] at gd; exact False.elim gd
    | some h' =>
      rw [eh] at gd
      dsimp only at gd
      cases fl with
      | nx => exact fun σ' γ' H' st R' => fin eh gd st R' RepD.non fun ds e => by cases e
      | bk => exact False.elim gd
      | ct => exact False.elim gd
      | rt rr =>
        intro v σ' γ' H' st R' q
        unfold resP at gd
        cases e2 : resV s1 rr with
        | none => simp only [e2] at gd; exact False.elim gd
        | some z =>
          simp only [e2] at gd
          refine fin eh gd st R' (resV_rep e2 st rfl R' q) fun ds e => ?_
          subst e
          have nn : s1.hd ≠ none := by rw [eh]; exact fun z => by cases z
          cases rr with
          | new ys =>
            obtain ⟨a, vs, rfl, e0, ea, na, _⟩ := q
            exact ⟨a, rfl, fun z => na (.inr ⟨nn, .inr z⟩)⟩
          | sv y =>
            cases y with
            | hand => cases e2
            | dat d => cases e2
            | ref k =>
              have q' : k < s1.mem.length ∧ v = .ref (γ'.kp k) := q
              refine ⟨_, q'.2, ?_⟩
              unfold resV at e2
              cases h : s1.mem[k]? with
              | none => simp only [h] at e2; cases e2
              | some o =>
                cases o with
                | none => simp only [h] at e2; cases e2
                | some ys => exact (R'.hdk nn k ⟨ys, h⟩).2
end
end Fd
set_option Elab.async false
set_option linter.all false
set_option maxRecDepth 100000
set_option maxHeartbeats 4000000
namespace Fd
open PySem PySem.Spec PyProof.Rows L2
/-! ## x = [..] on one line, kept as data -/
/-- behind a statement a list may be locked -/
def tFzS (t : TS) : TS := fun N σ H => t { N with nx := fun σ' H' => ∃ a vs, H' a = some (.lst vs) ∧ ∀ o, N.nx σ' (upd H' a (.frz o (.lst vs))) } σ H
theorem ps_fz {X : Cx} {st : Stmt} {t : TS} (h : PS X st t) : PS X st (tFzS t) := ⟨fun pins s σ H N I hw =>
  thn (h.run pins s σ H _ I hw) fun f s1 q => by
    cases f with
    | next =>
      obtain ⟨σ', H', I', a, vs, e, q⟩ := q
      obtain ⟨o, I2⟩ := I'.lock e trivial
      exact ⟨σ', _, I2, q o⟩
    | ret v => exact q
    | brk => exact q
    | cont => exact q⟩
section
variable {X : Cx} {ct : Nat → Addr} {W : WX} {pos : Pos} {a b e tg : Expr} {ma mb m : M RV} {es : List Expr}
noncomputable def setLcZ (i : Nat) (mi : M Src) (vs : List Nat) (f : SV → M Unit) (tt : M Bool) (me : M RV) : M Fl := bnd (lcM mi vs f tt me) fun r s => match r with
  | .new xs => match datL xs with
    | some ds => .ok .nx { s with env := s.env.set i (some (.dat (.lst ds))) }
    | none => .bad
  | _ => .bad
theorem sd_setLcZ {i : Nat} {y : Str} {py spos : Pos} {elt it : Expr} {ifs : List Expr} {scope : Scope} {own : List (Str × Nat)} {mi : M Src} {is : List Nat} {f : SV → M Unit} {mt : M Bool} {me : M RV} (hc : X.calm = true) (hN : X.N.Nodup) (hy : X.N[i]? = some y) (hyl : X.env.scope.names.lookup y = some .local)
    (hsw : swapsWith (.ListComp elt [⟨tg, it, ifs, 0⟩] scope pos) (some (.Name y py)) spos.line X.env = pure true) (hi : ID X ct W tg it mi) (ok : BlkOk X.N X.env.scope scope own) (hv : ∀ j ∈ is, j ∈ own.map (·.2))
    (hg : ∀ (s : Shared) (H : Hp) (C : Addr) (cl : List (Str × Addr)) (fp : List Addr), GD (X.blk s H scope (compEnvC scope cl C X.env) fp) ct tg is f) (ht : ∀ (s : Shared) (H : Hp) (C : Addr) (cl : List (Str × Addr)) (fp : List Addr), IfsD (X.blk s H scope (compEnvC scope cl C X.env) fp) ct ifs mt)
    (he : ∀ (s : Shared) (H : Hp) (C : Addr) (cl : List (Str × Addr)) (fp : List Addr), ED (X.blk s H scope (compEnvC scope cl C X.env) fp) ct WF elt me) (hs : ∀ x, foldedSetIterable it X.env x = pure x := by intro _; rfl) :
    SD X ct W (.Assign [.Name y py] (.ListComp elt [⟨tg, it, ifs, 0⟩] scope pos) spos) (setLcZ i mi (own.map (·.2)) f mt me) := by
  obtain ⟨wi, pi, ri⟩ := hi.ex
  refine ⟨_, ps_fz (ps_setLc (g := tmG X.K ct is f) (tt := tmT X.K ct WF mt) (te := tmE X.K ct WF me) hc hN hy hyl hsw pi ok (fun s H C cl fp => (hg s H C cl fp).pg) (fun s H C cl fp => (ht s H C cl fp).pts) (fun s H C cl fp => (he s H C cl fp).pe) hs), fun N σ H γ s R h => ?_⟩
  show tLc wi (tmG X.K ct is f) (tmT X.K ct WF mt) (tmE X.K ct WF me) (own.map (·.2)) σ H (fun x H1 => gName i x σ H1 (fun σ' H' => ∃ a vs, H' a = some (.lst vs) ∧ ∀ o, N.nx σ' (upd H' a (.frz o (.lst vs)))))
  refine lc_sem ri hv R (use_e h (fun _ _ z => z.at) fun r s1 v γ1 H1 t1 R1 q1 g => ?_)
  cases r with
  | sv x => exact False.elim g
  | new xs =>
    dsimp only at g
    cases e2 : datL xs with
    | none => simp only [e2] at g; exact False.elim g
    | some ds =>
      simp only [e2] at g
      obtain ⟨a, vs, rfl, e0, ea, na, rp⟩ := q1
      refine ⟨a, vs, ea, fun o => ?_⟩
      have ki : KeepI H1 (upd H1 a (.frz o (.lst vs))) := fun x u ex i => by
        rw [upd_ne]
        · exact ex
        · rintro rfl; rw [ea] at ex; cases ex; exact i
      exact g _ γ1 _ ((step_lockN ea s γ H t1 e0).trans step_env) (rep_set (rep_lockN R1 ea na) (x := .dat (.lst ds)) (RepD.lst ⟨o, upd_same⟩ (RepDs.mono ki (datL_rep e2 rp))))
/-! ## raise of an own error whose __init__ says super().__init__ -/
/-- the promise of such an __init__ (one field or more) -/
def spX (K : PySem.W.Frag) (C : Addr) (fs : List Str) : Sp := fun vs H Q _ => ∃ a ws, vs = .ref a :: ws ∧ ws.length = fs.length ∧ OexC K C ∧ H a = some (exo a C none) ∧
  ∀ dx H', H dx = none → dx ≠ a → (∀ b, b ≠ a → b ≠ dx → H' b = H b) → H' a = some (exo a C (some dx)) → H' dx = some (exd dx (fs.zip ws).reverse) → Q .non H'
def raiseF (c : Nat) (fs : List Str) (mA : M (List SV)) : M Fl := bnd mA fun xs s => match datL xs with
  | some ds => if ds.length = fs.length then .exc ⟨c, (fs.zip ds).reverse⟩ s else .bad
  | none => .bad
theorem zip_map_fst {α β : Type} : ∀ (fs : List α) (ws : List β), ws.length = fs.length → (fs.zip ws).map (·.1) = fs
  | [], ws, h => by simp at h ⊢
  | f :: fs, [], h => by simp at h
  | f :: fs, w :: ws, h => by simp at h ⊢; exact zip_map_fst fs ws h
theorem zip_map_snd {α β : Type} : ∀ (fs : List α) (ws : List β), ws.length = fs.length → (fs.zip ws).map (·.2) = ws
  | [], ws, h => by simp at h; simp [h]
  | f :: fs, [], h => by simp at h
  | f :: fs, w :: ws, h => by simp at h ⊢; exact zip_map_snd fs ws h
theorem RepDs.reverse {K : PySem.W.Frag} {H : Hp} : ∀ {ds : List D} {vs : List V}, RepDs K ct H vs ds → RepDs K ct H vs.reverse ds.reverse := by
  intro ds
  induction ds with
  | nil => intro vs h; cases h; exact .nil
  | cons d ds ih => intro vs h; cases h with | cons r t => rw [List.reverse_cons, List.reverse_cons]; exact (ih t).append (.cons r .nil)
theorem sd_raise {x : Str} {p : Pos} {C fI : Addr} {k : Nat} {fd : FuncData} {ps fs : List Str} {mA : M (List SV)} {c : Nat} (hc : X.calm = true) (tk : Takes X W) (T : OexC X.K C) (hct : ct c = C) (iC : PySem.W.findIn X.K (.ref C) "__init__" = some (some (.ref fI))) (tI : PySem.W.typeIn X.K (.ref fI) = some (.type "function"))
    (F1 : FnOk X.prog X.w X.K X.mg X.base (L2.CX X.prog X.w) k fI fd ps (spX X.K C fs)) (hfs : fs.length ≤ 1000) (hr : Room (k + 1) X.A) (hb : Binds X.K fd ps []) (hg : Gl X x) (hm : X.mg x = some (.ref C)) (ha : AD X ct W (e :: es) mA)
    (hdb : (x == ("__debug__" : Str)) = false := by decide) (he : starEach (e :: es) X.env = (false, eval e X.env) :: starEach es X.env := by rfl) (hpl : ∀ pos : Pos, (backTo pos (starEach es X.env)).any (·.1) = false := by intro _; rfl) {pos2 : Pos} :
    SD X ct W (.Raise (some (.Call (.Name x p) (e :: es) [] pos)) none pos2) (raiseF c fs mA) := by
  obtain ⟨t, pt, r⟩ := ha.ex
  refine ⟨_, ps_raise hc tk (pmk_oex T iC tI F1 hr hb .nil passL hg hm pt hdb he (hpl _)), fun N σ H γ s R h => ?_⟩
  refine r σ H γ s _ R (use_a h (fun _ _ z => z.at) fun xs s1 vs γ1 H1 t1 R1 q1 g => ?_)
  cases e2 : datL xs with
  | none => simp only [e2] at g; exact False.elim g
  | some ds =>
    simp only [e2] at g
    by_cases c2 : ds.length = fs.length
    · rw [if_pos c2] at g
      have w := datL_rep e2 q1
      have hl : vs.length = fs.length := by rw [w.length]; exact c2
      refine ⟨by omega, fun a na => ?_⟩
      refine ⟨a, vs, by rw [List.append_nil], hl, T, upd_same, fun dx H' n1 n2 hk h1 h2 => ⟨rfl, dx, _, h1, h2, ?_, ?_⟩⟩
      · rw [upd_ne n2] at n1; exact n1
      · have n1' : H1 dx = none := by rw [upd_ne n2] at n1; exact n1
        have same : ∀ b, b ≠ dx → upd (del H' a) dx (.xd (fs.zip vs).reverse) b = H1 b := fun b hb => by
          rw [upd_ne hb]
          by_cases ba : b = a
          · rw [ba, del_same, na]
          · rw [del_ne ba, hk b ba hb, upd_ne ba]
        have sm : Same H1 (upd (del H' a) dx (.xd (fs.zip vs).reverse)) := fun b u eb => by
          rw [same b (ne_of_none eb n1')]; exact eb
        refine g _ _ σ γ1 _ (t1.trans (step_same sm)) (R1.kept sm) ⟨by rw [hct], .inr ⟨dx, _, rfl, upd_same, ?_, ?_⟩⟩
        · rw [List.map_reverse, List.map_reverse, zip_map_fst _ _ hl, zip_map_fst _ _ c2]
        · rw [List.map_reverse, List.map_reverse, zip_map_snd _ _ hl, zip_map_snd _ _ c2]
          exact RepDs.reverse (RepDs.mono (fun b u eb _ => sm b u eb) w)
    · rw [if_neg c2] at g; exact False.elim g
/-! ## try .. except X as n: .. -/
/-- a clause's suite: what it does with an exception; i: the name's slot -/
structure HD (X : Cx) (ct : Nat → Addr) (c : Nat) (i : Nat) (sts : List Stmt) (hf : Exn → M Fl) : Prop where
  ex : ∀ (a : Addr) (oe : Obj) (cls : Value) (d : Option Addr) (pn : List (Addr × Obj)), Zc cls d oe → (∃ vs, oe.data = .fields vs) →
    ∃ t, PSs (X.suite a ((a, oe) :: pn)) sts t ∧ ∀ N σ H γ s x, Rep X.K ct γ H σ s → σ[i]? = some (some (.ref a)) → RepX X.K ct H x cls d → x.c = c → GoodS X.K ct WF γ s H (hf x s) N → t N σ H
def fieldH (f : Str) (x : Exn) : M Fl := match x.fs.lookup f with
  | some d => pur (.rt (RD d))
  | none => stuck
theorem lookup_rep {K : PySem.W.Frag} {H : Hp} {f : Str} {d : D} : ∀ {fs : List (Str × V)} {ds : List (Str × D)}, fs.map (·.1) = ds.map (·.1) → RepDs K ct H (fs.map (·.2)) (ds.map (·.2)) → ds.lookup f = some d → ∃ v, fs.lookup f = some v ∧ RepD K ct H v d := by
  intro fs
  induction fs with
  | nil => intro ds h1 _ h3; cases ds with
    | nil => cases h3
    | cons _ _ => simp at h1
  | cons p fs ih =>
    intro ds h1 h2 h3
    cases ds with
    | nil => cases h3
    | cons q ds =>
      obtain ⟨n1, v1⟩ := p
      obtain ⟨n2, d1⟩ := q
      simp only [List.map_cons, List.cons.injEq] at h1
      obtain ⟨rfl, h1⟩ := h1
      cases h2 with
      | cons r t =>
        rw [List.lookup_cons] at h3 ⊢
        split at h3
        · cases h3; exact ⟨v1, rfl, r⟩
        · exact ih h1 t h3
/-- return n.f -/
theorem hd_field {c i : Nat} {n f : Str} {np p2 p3 : Pos} {C : Addr} (hct : ct c = C) (T : XfC X.K C) (hno : PySem.W.findIn X.K (.ref C) f = some none) (hp : ∀ a oe pn, PE (X.suite a ((a, oe) :: pn)) (.Name n np) (tVar i)) (hb : attributeBase (.Name n np) f X.env (eval (.Name n np) X.env) = eval (.Name n np) X.env := by rfl) :
    HD X ct c i [.Return (some (.Attribute (.Name n np) f p2)) p3] (fieldH f) := by
  refine ⟨fun a oe cls d pn hz hf => ⟨_, pss_one (ps_ret (pe_xf T hno hz hf (hp a oe pn) hb)), fun N σ H γ s x R hσ hx hxc g => ?_⟩⟩
  unfold fieldH at g
  cases e : x.fs.lookup f with
  | none => simp only [e] at g; exact False.elim g
  | some dd =>
    simp only [e] at g
    obtain ⟨e1, e2⟩ := hx
    rcases e2 with ⟨e3, _⟩ | ⟨dx, fs, e3, e4, e5, e6⟩
    · rw [e3] at e; cases e
    · obtain ⟨v, lv, rv⟩ := lookup_rep e5 e6 e
      exact ⟨_, hσ, rfl, by rw [e1, hxc, hct], dx, fs, v, e3, e4, lv, g v σ γ H Step.refl R rv⟩
/-- any statements without calls -/
theorem hd_any {c i : Nat} {sts : List Stmt} {m : M Fl} (h : ∀ a oe pn, SDs (X.suite a ((a, oe) :: pn)) ct WF sts m) : HD X ct c i sts (fun _ => m) :=
  ⟨fun a oe cls d pn _ _ => by
    obtain ⟨t, p, r⟩ := (h a oe pn).ex
    exact ⟨t, p, fun N σ H γ s x R _ _ _ g => r N σ H γ s R g⟩⟩
def clrS (i : Nat) (s : S) : S := { s with env := s.env.set i none }
/-- which classes a clause takes: es c1 c says whether an error of the class c1 is one of the clause's class -/
def tryF (mb : M Fl) (es : Nat → Option Bool) (i : Nat) (hf : Exn → M Fl) : M Fl := fun s => match mb s with
  | .exc x s1 => match es x.c with
    | some true => if i < s1.env.length then match hf x (clrS i s1) with
      | .ok f s2 => .ok f (clrS i s2)
      | _ => .bad
      else .bad
    | some false => .exc x s1
    | none => .bad
  | o => o
theorem rep_clr {K : PySem.W.Frag} {γ : G} {s : S} {H : Hp} {σ : L2.St} {i : Nat} {o : Option V} (R : Rep K ct γ H σ s) : Rep K ct γ H (σ.set i o) (clrS i s) := by
  refine ⟨by show (σ.set i o).length = (s.env.set i none).length; simpa using R.len, fun j y e => ?_, R.mem, R.inj, R.hd, R.hdk⟩
  have e' : (s.env.set i none)[j]? = some (some y) := e
  by_cases h : i = j
  · subst h
    by_cases hl : i < s.env.length
    · rw [List.getElem?_set_self hl] at e'; cases e'
    · rw [List.getElem?_eq_none (by simpa using hl)] at e'; cases e'
  · rw [List.getElem?_set_ne h] at e'
    obtain ⟨u, q, r'⟩ := R.env j y e'
    exact ⟨u, by rw [List.getElem?_set_ne h]; exact q, r'⟩
theorem sd_try_as {x n : Str} {c : Nat} {C : Value} {i : Nat} {body suite : List Stmt} {b₀ : Stmt} {np pos' : Pos} {mb : M Fl} {exs : Nat → Option Bool} {hf : Exn → M Fl} (hs : X.stack = X.env :: X.outer) (hfr : X.env.frame = some X.env.locals) (hN : X.N.Nodup) (hi : X.N[i]? = some n) (hln : X.env.kindOf n = some .local) (hc : Names X x C) (tk : Takes X W)
    (hex : ∀ c1 b, exs c1 = some b → PySem.W.exmOne X.K (.ref (ct c1)) C = some b) (hone : ∀ c1, exs c1 = some true → c1 = c)
    (hb : ∀ (W' : WX) (pn : List (Addr × Obj)) (xe : Value → Shared → Prop), Takes (X.tr pn xe) W' → PassesOwn (model X.prog X.w) X.A X.env xe → SDs (X.tr pn xe) ct W' body mb)
    (hh : HD X ct c i (b₀ :: suite) hf) : SD X ct W (.Try body [.ExceptHandler (some (.Name x np)) (some n) (b₀ :: suite) pos'] [] [] pos) (tryF mb exs i hf) := by
  -- the body's canonical reading
  let tb : WX → TS := fun W' N σ H => ∃ γ s, Rep X.K ct γ H σ s ∧ GoodS X.K ct W' γ s H (mb s) N
  let th : Addr → Value → Option Addr → TS := fun a cls d N σ H => ∃ γ s x, Rep X.K ct γ H σ s ∧ σ[i]? = some (some (.ref a)) ∧ RepX X.K ct H x cls d ∧ x.c = c ∧ GoodS X.K ct WF γ s H (hf x s) N
  have pb : ∀ (W' : WX) (pn : List (Addr × Obj)) (xe : Value → Shared → Prop), Takes (X.tr pn xe) W' → PassesOwn (model X.prog X.w) X.A X.env xe → PSs (X.tr pn xe) body (tb W') := fun W' pn xe t1 t2 => by
    obtain ⟨t, p, r⟩ := (hb W' pn xe t1 t2).ex
    exact ⟨fun pins s σ H N I ⟨γ, s', R, g⟩ => p.run pins s σ H N I (r N σ H γ s' R g)⟩
  have ph : ∀ (a : Addr) (oe : Obj) (cls : Value) (d : Option Addr) (pn : List (Addr × Obj)), Zc cls d oe → (∃ vs, oe.data = .fields vs) → PSs (X.suite a ((a, oe) :: pn)) (b₀ :: suite) (th a cls d) := fun a oe cls d pn hz hfd => by
    obtain ⟨t, p, r⟩ := hh.ex a oe cls d pn hz hfd
    exact ⟨fun pins s σ H N I ⟨γ, s', x, R, h1, h2, h3, g⟩ => p.run pins s σ H N I (r N σ H γ s' x R h1 h2 h3 g)⟩
  refine ⟨_, ps_try_as hs hfr hN hi hln hc tk pb ph, fun N σ H γ s R h => ?_⟩
  refine ⟨γ, s, R, ?_⟩
  unfold GoodS tryF at h
  unfold GoodS
  cases e1 : mb s with
  | bad => simp only [e1] at h; exact h
  | ok f s1 => simp only [e1] at h; exact h
  | exc y s1 =>
    simp only [e1] at h
    intro cl d σ' γ' H' st R' hx
    cases e2 : exs y.c with
    | none => simp only [e2] at h; exact False.elim h
    | some bb =>
      simp only [e2] at h
      have hm := hex _ _ e2
      refine ⟨bb, by rw [hx.1]; exact hm, fun e3 a na => ?_, fun e3 => ?_⟩
      · subst e3
        dsimp only at h
        have hl0 : i < s1.env.length := by
          by_cases c0 : i < s1.env.length
          · exact c0
          · rw [if_neg c0] at h; exact False.elim h
        rw [if_pos hl0] at h
        have hl : i < σ'.length := by
          rw [R'.len]
          exact hl0
        refine ⟨γ', clrS i s1, y, rep_clr R', List.getElem?_set_self hl, hx, hone _ e2, ?_⟩
        cases e4 : hf y (clrS i s1) with
        | bad => simp only [e4] at h; exact h
        | exc z s2 => simp only [e4] at h; exact False.elim h
        | ok f s2 =>
          simp only [e4] at h
          have t0 : Step γ γ' s (clrS i s1) H H' := st.trans step_env
          cases f with
          | nx => exact fun σ2 γ2 H2 t2 R2 => h _ γ2 H2 ((t0.trans t2).trans step_env) (rep_clr (o := none) R2)
          | bk => exact fun σ2 γ2 H2 t2 R2 => h _ γ2 H2 ((t0.trans t2).trans step_env) (rep_clr (o := none) R2)
          | ct => exact fun σ2 γ2 H2 t2 R2 => h _ γ2 H2 ((t0.trans t2).trans step_env) (rep_clr (o := none) R2)
          | rt r => exact fun v σ2 γ2 H2 t2 R2 q2 => h v _ γ2 H2 ((t0.trans t2).trans step_env) (rep_clr (o := none) R2) (by
              cases r with
              | sv x => exact q2
              | new xs => obtain ⟨a, vs, e5, e6, e7, e8, e9⟩ := q2; exact ⟨a, vs, e5, free_of t0.there e6, e7, e8, e9⟩)
      · subst e3
        exact h cl d σ' γ' H' st R' hx
end
end Fd
set_option Elab.async false
set_option linter.all false
set_option maxRecDepth 100000
set_option maxHeartbeats 4000000
namespace Fd
open PySem PySem.Spec PyProof.Rows L2
/-! ## a def of the text as it stands, by its name -/
/-- the name x holds a def that keeps the promise R; dd: the defaults that a call leaves to it -/
structure OkP (P : Program) (w : World) (K : PySem.W.Frag) (mg : Str → Option Value) (base : Heap) (ct : Nat → Addr) (x : Str) (n : Nat) (k : Nat) (F : List D → Res) (dd : List D) : Prop where
  ex : ∃ (f : Addr) (fd : FuncData) (ps : List Str) (ds : List Value) (dvs : List V), ps.length = n ∧ mg x = some (.ref f) ∧ PySem.W.keepIn K (.ref f) = true ∧ FnOk P w K mg base (L2.CX P w) k f fd ps (spP K ct n F) ∧ Binds K fd ps ds ∧ Vals dvs ds ∧ ∀ H, RepDs K ct H dvs dd
structure OkH (P : Program) (w : World) (K : PySem.W.Frag) (mg : Str → Option Value) (base : Heap) (ct : Nat → Addr) (x : Str) (n : Nat) (k : Nat) (F : List SV → Hand → Res × Hand) : Prop where
  ex : ∃ (f : Addr) (fd : FuncData) (ps : List Str), ps.length = n ∧ mg x = some (.ref f) ∧ PySem.W.keepIn K (.ref f) = true ∧ FnOk P w K mg base (L2.CX P w) k f fd ps (spH K ct n F) ∧ Binds K fd ps []
/-- .. called with keywords: the data of all parameters from the positional ones and the keywords' -/
structure OkK (P : Program) (w : World) (K : PySem.W.Frag) (mg : Str → Option Value) (base : Heap) (ct : Nat → Addr) (x : Str) (n : Nat) (k : Nat) (F : List D → Res) (np : Nat) (ks : List Str) (g : List D → List D → List D) : Prop where
  ex : ∃ (f : Addr) (fd : FuncData) (ps : List Str) (gv : List Value → List Value → List Value) (gV : List V → List V → List V), ps.length = n ∧ mg x = some (.ref f) ∧ PySem.W.keepIn K (.ref f) = true ∧ FnOk P w K mg base (L2.CX P w) k f fd ps (spP K ct n F) ∧ KBn K fd ps np ks gv gV ∧
    ∀ H vs zs ds es, RepDs K ct H vs ds → RepDs K ct H zs es → vs.length = np → zs.length = ks.length → RepDs K ct H (gV vs zs) (g ds es)
section
variable {X : Cx} {ct : Nat → Addr} {W : WX} {pos p : Pos} {x : Str} {e : Expr} {es : List Expr} {m : M RV} {mA mK : M (List SV)} {k n : Nat} {dd : List D} {F : List D → Res} {FH : List SV → Hand → Res × Hand}
theorem ed_callP (O : OkP X.prog X.w X.K X.mg X.base ct x n k F dd) (hr : Room k X.A) (tk : Takes X W) (ha : AD X ct W (e :: es) mA) (hg : Gl X x := by rfl) (hdb : (x == ("__debug__" : Str)) = false := by decide) (he : starEach (e :: es) X.env = (false, eval e X.env) :: starEach es X.env := by rfl) (hpl : (backTo pos (starEach es X.env)).any (·.1) = false := by rfl) :
    ED X ct W (.Call (.Name x p) (e :: es) [] pos) (bnd mA (callM n F dd)) := by
  obtain ⟨f, fd, ps, ds, dvs, rfl, hm, hk, FK, hb, hd, hdd⟩ := O.ex
  exact ed_call FK hr hg hm hk hb hd hdd tk ha hdb he hpl
theorem ed_callHP (O : OkH X.prog X.w X.K X.mg X.base ct x n k FH) (hr : Room k X.A) (tk : Takes X W) (ha : AD X ct W (e :: es) mA) (hg : Gl X x := by rfl) (hdb : (x == ("__debug__" : Str)) = false := by decide) (he : starEach (e :: es) X.env = (false, eval e X.env) :: starEach es X.env := by rfl) (hpl : (backTo pos (starEach es X.env)).any (·.1) = false := by rfl) :
    ED X ct W (.Call (.Name x p) (e :: es) [] pos) (bnd mA (callH n FH [])) := by
  obtain ⟨f, fd, ps, rfl, hm, hk, FK, hb⟩ := O.ex
  exact ed_callH FK hr hg hm hk hb .nil (fun _ => .nil) tk ha hdb he hpl
/-- keywords -/
structure KD (X : Cx) (ct : Nat → Addr) (W : WX) (kws : List Keyword) (m : M (List SV)) : Prop where
  ex : ∃ t, PK X kws t ∧ ∀ σ H γ s Q, Rep X.K ct γ H σ s → GoodA X.K ct W σ γ s H (m s) Q → t σ H Q
theorem kd_nil : KD X ct W [] (pur []) := ⟨_, pk_nil, fun σ H γ s Q R h => h [] γ H Step.refl R .nil⟩
theorem kd_cons {nm : Option Str} {kpos : Pos} {kws : List Keyword} (h : ED X ct W e m) (hr : KD X ct W kws mA) : KD X ct W (⟨nm, e, kpos⟩ :: kws) (consA m mA) := by
  obtain ⟨t, p, r⟩ := h.ex
  obtain ⟨t2, p2, r2⟩ := hr.ex
  refine ⟨_, pk_cons p p2, fun σ H γ s Q R h => ?_⟩
  refine r σ H γ s _ R (use_e h (fun _ _ z => z) fun x s1 v γ1 H1 t1 R1 q1 g => ?_)
  cases x with
  | new xs => exact False.elim g
  | sv x =>
    refine r2 σ H1 γ1 s1 _ R1 (use_a (GoodA.step t1 g) (fun _ _ z => z) fun xs s2 vs γ2 H2 t2 R2 q2 g2 => ?_)
    exact g2 (v :: vs) γ2 H2 t2 R2 (.cons (RepS.mono t2 q1) q2)
/-- nothing is raised -/
def noX (r : Res) : Res := match r with
  | .exc _ => .bad
  | r => r
def callK (n np nk : Nat) (F : List D → Res) (g : List D → List D → List D) (mA mK : M (List SV)) : M RV := bnd mA fun xs => bnd mK fun zs => match datL xs, datL zs with
  | some ds, some es => if ds.length = np ∧ es.length = nk ∧ (g ds es).length = n then toRes (noX (F (g ds es))) else stuck
  | _, _ => stuck
theorem ed_callK {np : Nat} {ks : List Str} {g : List D → List D → List D} {kws : List Keyword} (O : OkK X.prog X.w X.K X.mg X.base ct x n k F np ks g) (hr : Room k X.A) (ha : AD X ct W (e :: es) mA) (hkw : KD X ct W kws mK) (hg : Gl X x := by rfl) (hall : (backToKw pos (keywordEach kws X.env)).all (·.1.isSome) = true := by rfl) (hks : (backToKw pos (keywordEach kws X.env)).filterMap (·.1) = ks := by rfl)
    (hdb : (x == ("__debug__" : Str)) = false := by decide) (he : starEach (e :: es) X.env = (false, eval e X.env) :: starEach es X.env := by rfl)
    (hpl : ((backTo pos (starEach (e :: es) X.env)).any (·.1) || (backToKw pos (keywordEach kws X.env)).any (·.1.isNone)) = false := by rfl) :
    ED X ct W (.Call (.Name x p) (e :: es) kws pos) (callK n np ks.length F g mA mK) := by
  obtain ⟨f, fd, ps, gv, gV, rfl, hm, hk, FK, hb, hrep⟩ := O.ex
  obtain ⟨t, pt, r⟩ := ha.ex
  obtain ⟨t2, pt2, r2⟩ := hkw.ex
  refine ⟨_, pe_callN FK hr hg hm hk hb passL pt pt2 hall hks hdb he hpl, fun σ H γ s Q R h => ?_⟩
  refine r σ H γ s _ R (use_a h (fun _ _ z => z) fun xs s1 vs γ1 H1 t1 R1 q1 g1 => ?_)
  refine r2 σ H1 γ1 s1 _ R1 (use_a (Good.step t1 g1) (fun _ _ z => z) fun zs s2 us γ2 H2 t2 R2 q2 g2 => ?_)
  cases e1 : datL xs with
  | none => simp only [e1] at g2; exact False.elim g2
  | some ds =>
    cases e2 : datL zs with
    | none => simp only [e1, e2] at g2; exact False.elim g2
    | some es2 =>
      simp only [e1, e2] at g2
      have w1 := RepDs.mono t2.imm (datL_rep e1 q1)
      have w2 := datL_rep e2 q2
      by_cases c : ds.length = np ∧ es2.length = ks.length ∧ (g ds es2).length = ps.length
      · rw [if_pos c] at g2
        have l1 : vs.length = np := by rw [w1.length]; exact c.1
        have l2 : us.length = ks.length := by rw [w2.length]; exact c.2.1
        have wr := hrep H2 vs us ds es2 w1 w2 l1 l2
        refine ⟨l1, l2, by rw [wr.length]; exact c.2.2, _, wr, ?_⟩
        have gg := good_res R2 (Good.step t2 g2)
        cases e3 : F (g ds es2) with
        | bad => rw [e3] at gg; exact gg
        | exc z => rw [e3] at gg; exact False.elim gg
        | ret z => rw [e3] at gg; exact gg
      · rw [if_neg c] at g2; exact False.elim g2
end
section
variable {P : Program} {w : World} {K : PySem.W.Frag} {mg : Str → Option Value} {base : Heap} {x qual : Str} {params : Arguments} {body : List Stmt} {scope : Scope} {dvs : List V} {kws : List (Str × V)} {f : Addr} {fd : FuncData} {ps : List Str}
theorem kbinds1 (F : FunD K x qual params body scope dvs kws f fd) (n : Nat) (ks : List Str) (g : {α : Type} → List α → List α → List α → List α) (hd : dvs ≠ [])
    (hrel : ∀ {vs ds zs : List V} {us its ws : List Value}, Vals vs us → Vals ds its → Vals zs ws → Vals (g vs ds zs) (g us its ws))
    (h : ∀ (T : Addr) (kV doc pm : Value) (an : Option Addr) (cdv ct : Value) (us its ws : List Value), us.length = n → its.length = dvs.length → ws.length = ks.length →
      ∃ k, bindArgs (PySem.W.fnOf x qual params body scope (.ref T) kV doc pm an cdv ct) ⟨us, ks.zip ws⟩ = seqItems? (.ref T) >>= k ∧ k (some its.toArray) = pure (ps.zip (g us its ws))) :
    ∃ its : List Value, KBn K fd ps n ks (fun us ws => g us its ws) (fun vs zs => g vs dvs zs) := by
  obtain ⟨oc, od, dV, kV, doc, pm, an, cdv, ct, osl, rfl, lk, hcd, hD, hK⟩ := F.ex
  rcases hD with ⟨e, _⟩ | ⟨_, T, o, its, m, rfl, lT, oT, rT⟩
  · exact absurd e hd
  · refine ⟨its, ⟨fun s us ws X l1 l2 => ?_, fun r1 r2 => hrel r1 rT r2⟩⟩
    obtain ⟨k, e1, e2⟩ := h T kV doc pm an cdv ct us its ws l1 rT.length.symm l2
    refine BindsTo.of_looks fun M => ?_
    rw [e1]
    exact looks_items X lT oT (.of_pure e2)
/-- a def of the text with its facts -/
structure FnT (K : PySem.W.Frag) (mg : Str → Option Value) (x : Str) (st : Stmt) (dvs : List V) : Prop where
  ex : ∃ (f : Addr) (fd : FuncData), mg x = some (.ref f) ∧ FunD K x x (defArgs st) (defBody st) (defScope st) dvs [] f fd
/-- the rule by names: no defaults -/
theorem okP {st : Stmt} {N ps : List Str} {k : Nat} {ct : Nat → Addr} {m : M Fl} (T : FnT K mg x st []) (S : FnScope N ps (defScope st))
    (hbd : ∀ (kV doc pm : Value) (an : Option Addr) (cdv ct : Value) (us : List Value), us.length = ps.length → bindArgs (PySem.W.fnOf x x (defArgs st) (defBody st) (defScope st) .none kV doc pm an cdv ct) ⟨us, []⟩ = pure (ps.zip us))
    (hb : ∀ (f : Addr) (cdv : Value) (A : Around) (outer : List Env) (s : Shared) (H : Hp) (E : XK), Room k (A.deeper (envOfC x (defScope st) s.heap.objs.size f cdv)) →
      SDs (cxOf (L2.CX P w) P w K mg base N x (defScope st) f cdv A outer s H E) ct (fun cls d _ H => E cls d H) (defBody st) m) : OkP P w K mg base ct x ps.length (k + 1) (runP N.length m) [] := by
  obtain ⟨f, fd, hm, F⟩ := T.ex
  exact ⟨f, fd, ps, [], [], rfl, hm, F.kp, fnP F S (hb f), F.bindsN hbd, .nil, fun _ => .nil⟩
theorem okH {st : Stmt} {N ps : List Str} {k : Nat} {ct : Nat → Addr} {m : M Fl} (T : FnT K mg x st []) (S : FnScope N ps (defScope st))
    (hbd : ∀ (kV doc pm : Value) (an : Option Addr) (cdv ct : Value) (us : List Value), us.length = ps.length → bindArgs (PySem.W.fnOf x x (defArgs st) (defBody st) (defScope st) .none kV doc pm an cdv ct) ⟨us, []⟩ = pure (ps.zip us))
    (hb : ∀ (f : Addr) (cdv : Value) (A : Around) (outer : List Env) (s : Shared) (H : Hp) (E : XK), Room k (A.deeper (envOfC x (defScope st) s.heap.objs.size f cdv)) →
      SDs (cxOf (L2.CX P w) P w K mg base N x (defScope st) f cdv A outer s H E) ct (fun cls d _ H => E cls d H) (defBody st) m) : OkH P w K mg base ct x ps.length (k + 1) (runH N.length m) := by
  obtain ⟨f, fd, hm, F⟩ := T.ex
  exact ⟨f, fd, ps, rfl, hm, F.kp, fnH F S (hb f), F.bindsN hbd⟩
/-- with defaults: a call that leaves out those behind the first j of them -/
theorem okDf {st : Stmt} {N ps : List Str} {k : Nat} {ct : Nat → Addr} {m : M Fl} {dd : List D} (T : FnT K mg x st dvs) (S : FnScope N ps (defScope st)) (n j : Nat) (hd : dvs ≠ []) (hn : n + (dvs.length - j) = ps.length) (hdd : ∀ H, RepDs K ct H dvs dd)
    (hbd : ∀ (T : Addr) (kV doc pm : Value) (an : Option Addr) (cdv ct : Value) (us its : List Value), us.length = n → its.length = dvs.length →
      ∃ k, bindArgs (PySem.W.fnOf x x (defArgs st) (defBody st) (defScope st) (.ref T) kV doc pm an cdv ct) ⟨us, []⟩ = seqItems? (.ref T) >>= k ∧ k (some its.toArray) = pure (ps.zip (us ++ its.drop j)))
    (hb : ∀ (f : Addr) (cdv : Value) (A : Around) (outer : List Env) (s : Shared) (H : Hp) (E : XK), Room k (A.deeper (envOfC x (defScope st) s.heap.objs.size f cdv)) →
      SDs (cxOf (L2.CX P w) P w K mg base N x (defScope st) f cdv A outer s H E) ct (fun cls d _ H => E cls d H) (defBody st) m) : OkP P w K mg base ct x ps.length (k + 1) (runP N.length m) (dd.drop j) := by
  obtain ⟨f, fd, hm, F⟩ := T.ex
  obtain ⟨ds, rv, bb⟩ := F.binds1 n j hd hn hbd
  exact ⟨f, fd, ps, ds, _, rfl, hm, F.kp, fnP F S (hb f), bb, rv, fun H => RepDs.drop j (hdd H)⟩
theorem okKw {st : Stmt} {N ps : List Str} {k : Nat} {ct : Nat → Addr} {m : M Fl} {dd : List D} (T : FnT K mg x st dvs) (S : FnScope N ps (defScope st)) (n : Nat) (ks : List Str) (g : {α : Type} → List α → List α → List α → List α) (hd : dvs ≠ []) (hdd : ∀ H, RepDs K ct H dvs dd)
    (hrel : ∀ {vs ds zs : List V} {us its ws : List Value}, Vals vs us → Vals ds its → Vals zs ws → Vals (g vs ds zs) (g us its ws))
    (hrep : ∀ H (vs ds zs : List V) (us its ws : List D), RepDs K ct H vs us → RepDs K ct H ds its → RepDs K ct H zs ws → RepDs K ct H (g vs ds zs) (g us its ws))
    (hbd : ∀ (T : Addr) (kV doc pm : Value) (an : Option Addr) (cdv ct : Value) (us its ws : List Value), us.length = n → its.length = dvs.length → ws.length = ks.length →
      ∃ k, bindArgs (PySem.W.fnOf x x (defArgs st) (defBody st) (defScope st) (.ref T) kV doc pm an cdv ct) ⟨us, ks.zip ws⟩ = seqItems? (.ref T) >>= k ∧ k (some its.toArray) = pure (ps.zip (g us its ws)))
    (hb : ∀ (f : Addr) (cdv : Value) (A : Around) (outer : List Env) (s : Shared) (H : Hp) (E : XK), Room k (A.deeper (envOfC x (defScope st) s.heap.objs.size f cdv)) →
      SDs (cxOf (L2.CX P w) P w K mg base N x (defScope st) f cdv A outer s H E) ct (fun cls d _ H => E cls d H) (defBody st) m) : OkK P w K mg base ct x ps.length (k + 1) (runP N.length m) n ks (fun ds es => g ds dd es) := by
  obtain ⟨f, fd, hm, F⟩ := T.ex
  obtain ⟨its, kb⟩ := kbinds1 F n ks g hd hrel hbd
  exact ⟨f, fd, ps, _, _, rfl, hm, F.kp, fnP F S (hb f), kb, fun H vs zs ds es r1 r2 _ _ => hrep H _ _ _ _ _ _ r1 (hdd H) r2⟩
end
/-! ## short words -/
section
variable {X : Cx} {ct : Nat → Addr} {W : WX} {pos : Pos}
theorem nv (i : Nat) {x : Str} (hN : X.N[i]? = some x := by rfl) (hv : Vis X.env.scope x := by first | exact Or.inl rfl | exact Or.inr (Or.inl rfl) | exact Or.inr (Or.inr rfl)) (hd : (x == ("__debug__" : Str)) = false := by decide)
    (hcd : (x == ("__classdict__" : Str)) = false := by decide) : ED X ct W (.Name x pos) (getV i) := ed_name i (pe_var hN hv hd hcd)
theorem gn (i : Nat) {x : Str} (nd : X.N.Nodup) (hi : X.N[i]? = some x := by rfl) (hx : Loc X.env.scope x := by first | exact Or.inl rfl | exact Or.inr rfl) (hf : X.fn x = true ∨ X.env.scope.names.lookup x = some .local := by first | exact Or.inl rfl | exact Or.inr rfl) : GD X ct (.Name x pos) [i] (setV i) := gd_name (pg_name nd hi hx hf)
end
theorem hu64 {A : Around} {k : Nat} (hr : Room k A) : A.units + 64 < cLine := hr.units
theorem hu65 {A : Around} {k : Nat} (hr : Room k A) : A.units + 65 < cLine := by have := hr.un; omega
end Fd
set_option Elab.async false
set_option linter.all false
set_option maxRecDepth 100000
set_option maxHeartbeats 4000000
namespace Fd
open PySem PySem.Spec PyProof.Rows L2
/-! ## an own error class: __init__ says super().__init__(..) and stores its parameters in their order -/
inductive PaK (X : Cx) (n : Nat) : List Expr → Prop
  | nil : PaK X n []
  | cons {e : Expr} {es : List Expr} (te : TE) (hp : PE X e te) (hq : ∀ (vs : List V) H Q, vs.length = n → (∀ v, Q v H) → te (vs.map some) H Q) (hs : starEach (e :: es) X.env = (false, eval e X.env) :: starEach es X.env) : PaK X n es → PaK X n (e :: es)
theorem pak_str {X : Cx} {n : Nat} {x : Str} {j : Nat} {pos : Pos} {es : List Expr} (h : PaK X n es) (hs : starEach (.Constant (.str x) j pos :: es) X.env = (false, eval (.Constant (.str x) j pos) X.env) :: starEach es X.env := by rfl) : PaK X n (.Constant (.str x) j pos :: es) :=
  .cons _ pe_str (fun _ _ _ _ q => q _) hs h
theorem pak_var {X : Cx} {n : Nat} (i : Nat) {x : Str} {pos : Pos} {es : List Expr} (h : PaK X n es) (hp : PE X (.Name x pos) (tVar i)) (hi : i < n) (hs : starEach (.Name x pos :: es) X.env = (false, eval (.Name x pos) X.env) :: starEach es X.env := by rfl) : PaK X n (.Name x pos :: es) :=
  .cons _ hp (fun vs H Q hl q => ⟨vs[i], by simp [hl, hi], q _⟩) hs h
theorem pak_run {X : Cx} {n : Nat} {es : List Expr} (h : PaK X n es) : ∃ t, PA X es t ∧ ∀ (vs : List V) H Q, vs.length = n → (∀ ws, ws.length = es.length → Q ws H) → t (vs.map some) H Q := by
  induction h with
  | nil => exact ⟨_, pa_nil, fun vs H Q _ q => q [] rfl⟩
  | cons te hp hq hs hr ih =>
    obtain ⟨t, pt, r⟩ := ih
    exact ⟨_, pa_cons hp pt hs, fun vs H Q hl q => hq vs H _ hl fun v => r vs H _ hl fun ws hw => q (v :: ws) (by simp [hw])⟩
/-- stores: the slots i, i + 1, .. into the fields -/
inductive Sto (X : Cx) : Nat → List Str → List Stmt → Prop
  | nil {i : Nat} : Sto X i [] []
  | cons {i : Nat} {f : Str} {fs : List Str} {o e : Expr} {p' pos : Pos} {sts : List Stmt} (ho : PE X o (tVar 0)) (he : PE X e (tVar i)) (hs : swapsWith e (some (.Attribute o f p')) pos.line X.env = pure false) : Sto X (i + 1) fs sts → Sto X i (f :: fs) (.Assign [.Attribute o f p'] e pos :: sts)
theorem sto_old {X : Cx} {i : Nat} {fs : List Str} {sts : List Stmt} (h : Sto X i fs sts) : ∃ t, PSs X sts t ∧ ∀ (N : Ends) (σ : L2.St) (H : Hp) (a dx C : Addr) (gs : List (Str × V)) (ws : List V), (∀ k w, ws[k]? = some w → σ[i + k]? = some (some w)) → ws.length = fs.length →
    σ[0]? = some (some (.ref a)) → OexC X.K C → (∀ f ∈ fs, PySem.W.findIn X.K (.ref C) f = some none) → H a = some (exo a C (some dx)) → H dx = some (exd dx gs) → a ≠ dx → gs.length + fs.length ≤ 900 →
    (∀ H', (∀ b, b ≠ dx → H' b = H b) → H' dx = some (exd dx ((fs.zip ws).reverse ++ gs)) → N.nx σ H') → t N σ H := by
  induction h with
  | nil =>
    exact ⟨_, pss_nil, fun N σ H a dx C gs ws _ hl _ _ _ _ hd _ _ k => k H (fun _ _ => rfl) (by simpa using hd)⟩
  | @cons i f fs o e p' pos sts ho he hs hr ih =>
    obtain ⟨t, pt, r⟩ := ih
    refine ⟨_, pss_cons (ps_ost ho he hs) pt, fun N σ H a dx C gs ws hw hl h0 T hno ha hd ne hz k => ?_⟩
    cases ws with
    | nil => simp at hl
    | cons w ws =>
      refine ⟨w, by simpa using hw 0 w rfl, _, h0, a, C, rfl, T, hno f (by simp), .inr ⟨dx, gs, ha, hd, by simp at hz; omega, ?_⟩⟩
      refine r N σ _ a dx C ((f, w) :: gs) ws (fun k x e => ?_) (by simpa using hl) h0 T (fun g hg => hno g (by simp [hg])) (by rw [upd_ne ne]; exact ha) upd_same ne (by simp at hz ⊢; omega) fun H' k1 k2 => ?_
      · have := hw (k + 1) x (by simpa using e)
        rw [← this]; congr 1; omega
      · refine k H' (fun b hb => by rw [k1 b hb, upd_ne hb]) ?_
        rw [k2]; simp
theorem sto_new {X : Cx} {i : Nat} {fs : List Str} {sts : List Stmt} (h : Sto X i fs sts) (hf : fs ≠ []) : ∃ t, PSs X sts t ∧ ∀ (N : Ends) (σ : L2.St) (H : Hp) (a C : Addr) (ws : List V), (∀ k w, ws[k]? = some w → σ[i + k]? = some (some w)) → ws.length = fs.length →
    σ[0]? = some (some (.ref a)) → OexC X.K C → (∀ f ∈ fs, PySem.W.findIn X.K (.ref C) f = some none) → H a = some (exo a C none) → fs.length ≤ 900 →
    (∀ dx H', H dx = none → dx ≠ a → (∀ b, b ≠ a → b ≠ dx → H' b = H b) → H' a = some (exo a C (some dx)) → H' dx = some (exd dx (fs.zip ws).reverse) → N.nx σ H') → t N σ H := by
  cases h with
  | nil => exact absurd rfl hf
  | @cons _ f fs o e p' pos sts ho he hs hr =>
    obtain ⟨t, pt, r⟩ := sto_old hr
    refine ⟨_, pss_cons (ps_ost ho he hs) pt, fun N σ H a C ws hw hl h0 T hno ha hz k => ?_⟩
    cases ws with
    | nil => simp at hl
    | cons w ws =>
      refine ⟨w, by simpa using hw 0 w rfl, _, h0, a, C, rfl, T, hno f (by simp), .inl ⟨ha, fun dx n ne => ?_⟩⟩
      refine r N σ _ a dx C [(f, w)] ws (fun k x e => ?_) (by simpa using hl) h0 T (fun g hg => hno g (by simp [hg])) upd_same (by rw [upd_ne ne, upd_same]) (Ne.symm ne) (by simp at hz ⊢; omega) fun H' k1 k2 => ?_
      · have := hw (k + 1) x (by simpa using e)
        rw [← this]; congr 1; omega
      · refine k dx H' n ne (fun b h1 h2 => by rw [k1 b h2, upd_ne h1, upd_ne h2]) (by rw [k1 a (Ne.symm ne), upd_same]) ?_
        rw [k2]; simp
section
open PySem.W
variable {P : Program} {w : World} {K : PySem.W.Frag} {mg : Str → Option Value} {base : Heap} {ps : List Str} {name qual : Str} {params : Arguments} {rest : List Stmt} {scope : Scope} {dV kV doc pm ct oc ccl cl : Value} {an od cdd cld : Option Addr} {cc cda f C : Addr} {osl ccs csl : Array (Option Value)}
  {p0 p1 p2 p3 p4 : Pos} {e : Expr} {es : List Expr} {cvs : Array Value} {file : Str} {tf : Tok} {cdD : ClassData} {ar : Arg}
open FdX in
theorem fn_err {fs : List Str} (lk : K.lookup f = some ⟨oc, od, .func (fnS name qual params (bodyS p0 p1 p2 p3 p4 e es rest) scope dV kV doc pm an (.ref cda) ct cc), osl⟩) (hcd : codeIn K (.ref cda) qual = true) (S : ScopeS ps scope)
    (har : (params.posonlyargs ++ params.args).head? = some ar) (hps : ps[0]? = some ar.arg) (T : OexC K C)
    (hcode : K.lookup cda = some ⟨ccl, cdd, .fields cvs, ccs⟩) (hvs : cvs[2]? = some (.str file tf)) (hfile : ((P.main.file : Str) == file) = true)
    (hcell : K.lookup cc = some ⟨cl, cld, .cell (some (.ref C)), csl⟩) (hD : clsIn K C = some cdD) (hsub : mroIn K C (.ref C) = some true) (hsuper : mg "super" = none)
    (htop : (P.main.scope.names.lookup ("super" : Str)).isSome = false) (hboot : bootBuiltins "super" = some (.type "super")) (hop : nsIn K cStatics "thirdparty.any" = some none)
    (hsu : ks_superIn K C C "__init__" = some (some (.builtin "ValueError.__init__"))) (hB : subIn K (.ref C) (.type "ValueError") = some true)
    (hpl : ps.length = fs.length + 1) (hf : fs ≠ []) (hn : fs.length ≤ 900) (hes : (e :: es).length ≤ 1000) (hno : ∀ f ∈ fs, findIn K (.ref C) f = some none)
    (ha : ∀ (A : Around) (outer : List Env) (s : Shared) (H : Hp) (E : XK), PaK (cxS (L2.CX P w) P w K mg base ps (fnS name qual params (bodyS p0 p1 p2 p3 p4 e es rest) scope dV kV doc pm an (.ref cda) ct cc) f A outer s H E) ps.length (e :: es))
    (hb : ∀ (A : Around) (outer : List Env) (s : Shared) (H : Hp) (E : XK), Sto (cxS (L2.CX P w) P w K mg base ps (fnS name qual params (bodyS p0 p1 p2 p3 p4 e es rest) scope dV kV doc pm an (.ref cda) ct cc) f A outer s H E) 1 fs rest)
    (hm1 : eval (.Call (.Attribute (.Call (.Name "super" p0) [] [] p1) "__init__" p2) (e :: es) [] p3) = fun env => (do
      let ov ← attributeBase (.Call (.Name "super" p0) [] [] p1) "__init__" env (eval (.Call (.Name "super" p0) [] [] p1) env)
      standAt p2.atName
      let (f, first) ← holding [ov] (getMethod ov "__init__" (pure false))
      callWith p3 f first (backTo p3 (starEach (e :: es) env)) []) := by rfl)
    (he : ∀ env, starEach (e :: es) env = (false, eval e env) :: starEach es env := by intro _; rfl) (hp3 : ∀ env, (backTo p3 (starEach es env)).any (·.1) = false := by intro _; rfl) :
    FnOk P w K mg base (L2.CX P w) 1 f (fnS name qual params (bodyS p0 p1 p2 p3 p4 e es rest) scope dV kV doc pm an (.ref cda) ct cc) ps (spX K C fs) := by
  refine FdX.fn_sup (k := 0) lk hcd S har hps T hcode hvs hfile hcell hD hsub hsuper htop hboot hop hsu hB (fun vs H Q E h => ?_) (fun A outer s H vs Q E hr h => ?_) hm1 he hp3
  · obtain ⟨a, ws, rfl, h1, _⟩ := h
    simp [h1, hpl]
  · obtain ⟨a, ws, rfl, h1, T', h2, k⟩ := h
    obtain ⟨ta, pa, ra⟩ := pak_run (ha A outer s H E)
    obtain ⟨t, pt, rt⟩ := sto_new (hb A outer s H E) hf
    refine ⟨a, ws, ta, t, rfl, h2, pa, ra _ H _ (by simp [h1, hpl]) fun zs hz => ⟨rfl, by omega⟩, pt, rt _ _ H a C ws (fun k x e => ?_) h1 rfl T' hno h2 hn fun dx H' n ne k1 k2 k3 => k dx H' n ne k1 k2 k3⟩
    rw [Nat.add_comm]
    simpa using e
end
/-! ## errors by name -/
structure ErrX (P : Program) (w : World) (K : PySem.W.Frag) (mg : Str → Option Value) (base : Heap) (ct : Nat → Addr) (x : Str) (c : Nat) (fs : List Str) : Prop where
  ex : ∃ (fI : Addr) (fd : FuncData) (ps : List Str), OexC K (ct c) ∧ PySem.W.findIn K (.ref (ct c)) "__init__" = some (some (.ref fI)) ∧ PySem.W.typeIn K (.ref fI) = some (.type "function") ∧ FnOk P w K mg base (L2.CX P w) 1 fI fd ps (spX K (ct c) fs) ∧ Binds K fd ps [] ∧ mg x = some (.ref (ct c))
structure ErrH (K : PySem.W.Frag) (mg : Str → Option Value) (ct : Nat → Addr) (x : Str) (c : Nat) (exs : Nat → Option Bool) : Prop where
  xf : XfC K (ct c)
  mg : mg x = some (.ref (ct c))
  exm : ∀ c1 b, exs c1 = some b → PySem.W.exmOne K (.ref (ct c1)) (.ref (ct c)) = some b
section
variable {X : Cx} {ct : Nat → Addr} {W : WX} {pos p : Pos} {e : Expr} {es : List Expr} {mA : M (List SV)}
theorem sd_raiseE {x : Str} {c : Nat} {fs : List Str} (O : ErrX X.prog X.w X.K X.mg X.base ct x c fs) (hfs : fs.length ≤ 1000) (hc : X.calm = true) (tk : Takes X W) (hr : Room 2 X.A) (ha : AD X ct W (e :: es) mA) (hg : Gl X x := by rfl)
    (hdb : (x == ("__debug__" : Str)) = false := by decide) (he : starEach (e :: es) X.env = (false, eval e X.env) :: starEach es X.env := by rfl) (hpl : ∀ pos : Pos, (backTo pos (starEach es X.env)).any (·.1) = false := by intro _; rfl) {pos2 : Pos} :
    SD X ct W (.Raise (some (.Call (.Name x p) (e :: es) [] pos)) none pos2) (raiseF c fs mA) := by
  obtain ⟨fI, fd, ps, T, iC, tI, F1, hb, hm⟩ := O.ex
  exact sd_raise hc tk T rfl iC tI F1 hfs hr hb hg hm ha hdb he hpl
theorem sd_tryE {x n : Str} {c : Nat} {i : Nat} {body suite : List Stmt} {b₀ : Stmt} {np pos' : Pos} {mb : M Fl} {exs : Nat → Option Bool} {hf : Exn → M Fl} (O : ErrH X.K X.mg ct x c exs) (hs : X.stack = X.env :: X.outer) (hfr : X.env.frame = some X.env.locals) (hN : X.N.Nodup) (hi : X.N[i]? = some n) (hln : X.env.kindOf n = some .local) (tk : Takes X W)
    (hone : ∀ c1, exs c1 = some true → c1 = c)
    (hb : ∀ (W' : WX) (pn : List (Addr × Obj)) (xe : Value → Shared → Prop), Takes (X.tr pn xe) W' → PassesOwn (model X.prog X.w) X.A X.env xe → SDs (X.tr pn xe) ct W' body mb)
    (hh : HD X ct c i (b₀ :: suite) hf) (hg : Gl X x := by rfl) (hdb : (x == ("__debug__" : Str)) = false := by decide) : SD X ct W (.Try body [.ExceptHandler (some (.Name x np)) (some n) (b₀ :: suite) pos'] [] [] pos) (tryF mb exs i hf) :=
  sd_try_as hs hfr hN hi hln ⟨hg, hdb, .inl O.mg⟩ tk O.exm hone hb hh
end
end Fd
set_option Elab.async false
set_option linter.all false
set_option maxRecDepth 100000
set_option maxHeartbeats 4000000
namespace Fd
open PySem PySem.Spec PyProof.Rows L2
/-! ## facts of the top by names -/
/-- a name of the module that holds data -/
structure CsT (K : PySem.W.Frag) (mg : Str → Option Value) (ct : Nat → Addr) (x : Str) (d : D) : Prop where
  ex : ∃ v u, mg x = some u ∧ RelV v u ∧ ∀ H, RepD K ct H v d
theorem ed_glob {X : Cx} {ct : Nat → Addr} {W : WX} {x : Str} {pos : Pos} {d : D} (T : CsT X.K X.mg ct x d) (hg : Gl X x := by rfl) (hd : (x == ("__debug__" : Str)) = false := by decide) : ED X ct W (.Name x pos) (pur (RD d)) := by
  obtain ⟨v, u, h1, h2, h3⟩ := T.ex
  exact ed_c (pe_glob hg h1 h2 hd) h3
/-- a tuple that the top has written -/
inductive KD2 (K : PySem.W.Frag) (ct : Nat → Addr) : V → D → Prop
  | non : KD2 K ct .non .non
  | bl (b : Bool) : KD2 K ct (.bl b) (.bl b)
  | int (i : Int) : KD2 K ct (.int i) (.int i)
  | str (x : Str) : KD2 K ct (.str x) (.str x)
theorem sqT_K {K : PySem.W.Frag} {H : Hp} {a : Addr} {o : Obj} {its : Array Value} {n : Nat} {vs : List V} (l : K.lookup a = some o) (hc : o.cls = .type "tuple") (hd : o.data = .seq its n) (hl : its.size ≤ 1000) (hv : Vals vs its.toList) : SqT K H a vs :=
  .inr ⟨o, its, n, l, hc, hd, Nat.le_trans hl (by rw [sizeLine_eq]; decide), hv⟩
section
variable {K : PySem.W.Frag} {ct : Nat → Addr} {mg : Str → Option Value} {h : Heap}
theorem csT_tup {x : Str} {a : Addr} {c2 : Option Addr} {its : Array Value} {n : Nat} {sl : Array (Option Value)} {vs : List V} {ds : List D} (KX : K.In h) (G : h.Ns mainGlobals mg) (e : PySem.W.nsIn K mainGlobals x = some (some (.ref a))) (l : K.lookup a = some ⟨.type "tuple", c2, .seq its n, sl⟩) (hl : its.size ≤ 1000) (hv : Vals vs its.toList) (hr : ∀ H, RepDs K ct H vs ds) : CsT K mg ct x (.tup ds) :=
  ⟨.ref a, _, PySem.W.mg_of KX G e, rfl, fun H => .tup (sqT_K l rfl rfl hl hv) (hr H)⟩
theorem csT_int {x : Str} {i : Int} {t : Tok} (KX : K.In h) (G : h.Ns mainGlobals mg) (e : PySem.W.nsIn K mainGlobals x = some (some (.int i t))) : CsT K mg ct x (.int i) :=
  ⟨.int i, _, PySem.W.mg_of KX G e, ⟨_, rfl⟩, fun H => .int i⟩
theorem csT_str {x : Str} {z : Str} {t : Tok} (KX : K.In h) (G : h.Ns mainGlobals mg) (e : PySem.W.nsIn K mainGlobals x = some (some (.str z t))) : CsT K mg ct x (.str z) :=
  ⟨.str z, _, PySem.W.mg_of KX G e, ⟨_, rfl⟩, fun H => .str z⟩
/-- a def with no defaults -/
theorem fnT0 {x : Str} {st : Stmt} {f : Addr} {oc : Value} {od an : Option Addr} {osl : Array (Option Value)} {kV doc pm cdv ct : Value} (KX : K.In h) (G : h.Ns mainGlobals mg) (e : PySem.W.nsIn K mainGlobals x = some (some (.ref f)))
    (l : K.lookup f = some ⟨oc, od, .func (PySem.W.fnOf x x (defArgs st) (defBody st) (defScope st) .none kV doc pm an cdv ct), osl⟩) (c : PySem.W.codeIn K cdv x = true) (k : PySem.W.keepIn K (.ref f) = true) : FnT K mg x st [] :=
  ⟨f, _, PySem.W.mg_of KX G e, ⟨⟨oc, od, _, kV, doc, pm, an, cdv, ct, osl, rfl, l, c, .inl ⟨rfl, rfl⟩, .inl rfl⟩, k⟩⟩
theorem fnT1 {x : Str} {st : Stmt} {f T : Addr} {oc : Value} {od an : Option Addr} {osl : Array (Option Value)} {kV doc pm cdv ct : Value} {o2 : Value} {c2 : Option Addr} {its : Array Value} {n : Nat} {sl : Array (Option Value)} {dvs : List V} (KX : K.In h) (G : h.Ns mainGlobals mg) (e : PySem.W.nsIn K mainGlobals x = some (some (.ref f)))
    (l : K.lookup f = some ⟨oc, od, .func (PySem.W.fnOf x x (defArgs st) (defBody st) (defScope st) (.ref T) kV doc pm an cdv ct), osl⟩) (c : PySem.W.codeIn K cdv x = true) (k : PySem.W.keepIn K (.ref f) = true) (lT : K.lookup T = some ⟨o2, c2, .seq its n, sl⟩) (hd : dvs ≠ []) (hv : Vals dvs its.toList) : FnT K mg x st dvs :=
  ⟨f, _, PySem.W.mg_of KX G e, ⟨⟨oc, od, _, kV, doc, pm, an, cdv, ct, osl, rfl, l, c, .inr ⟨hd, T, _, its.toList, n, rfl, lT, by simp, hv⟩, .inl rfl⟩, k⟩⟩
end
def exsOf (n c : Nat) (c1 : Nat) : Option Bool := if c1 < n then some (c1 == c) else none
theorem exsOf_one {n c : Nat} : ∀ c1, exsOf n c c1 = some true → c1 = c := fun c1 h => by
  unfold exsOf at h
  split at h
  · simpa using h
  · cases h
def ctOf (l : List Addr) (n : Nat) : Addr := l.getD n 0
theorem errH_mk {K : PySem.W.Frag} {mg : Str → Option Value} {h : Heap} {l : List Addr} {x : Str} {c : Nat} {C : Addr} (KX : K.In h) (G : h.Ns mainGlobals mg) (hc : l.getD c 0 = C) (e : PySem.W.nsIn K mainGlobals x = some (some (.ref C))) (hx : xfB K C = true)
    (hm : (List.range l.length).all (fun c1 => PySem.W.exmOne K (.ref (l.getD c1 0)) (.ref C) == some (c1 == c)) = true) : ErrH K mg (ctOf l) x c (exsOf l.length c) := by
  subst hc
  refine ⟨xfB_ok hx, PySem.W.mg_of KX G e, fun c1 b h => ?_⟩
  unfold exsOf at h
  split at h
  · rename_i lt
    cases h
    have := List.all_eq_true.mp hm c1 (List.mem_range.mpr lt)
    exact eq_of_beq this
  · cases h
end Fd
namespace Fd
open PySem PySem.Spec PyProof.Rows L2
/-! ## which argument goes where: (0, i) the i-th positional one, (1, i) the i-th default, (2, i) the i-th keyword -/
def pick {α : Type} (us its ws : List α) (p : Nat × Nat) : Option α := match p.1 with
  | 0 => us[p.2]?
  | 1 => its[p.2]?
  | _ => ws[p.2]?
def gsel (sel : List (Nat × Nat)) {α : Type} (us its ws : List α) : List α := sel.filterMap (pick us its ws)
theorem paired_at {α β : Type} {R : α → β → Prop} {as : List α} {bs : List β} (h : Paired R as bs) : ∀ i : Nat, (∃ a b, as[i]? = some a ∧ bs[i]? = some b ∧ R a b) ∨ (as[i]? = none ∧ bs[i]? = none) := by
  induction bs generalizing as with
  | nil => cases h; intro i; exact .inr ⟨by simp, by simp⟩
  | cons b bs ih =>
    cases h with
    | cons r t =>
      intro i
      cases i with
      | zero => exact .inl ⟨_, _, rfl, rfl, r⟩
      | succ i => simpa using ih t i
theorem repDs_paired {K : PySem.W.Frag} {ct : Nat → Addr} {H : Hp} {vs : List V} {ds : List D} (h : RepDs K ct H vs ds) : Paired (RepD K ct H) vs ds := by
  induction ds generalizing vs with
  | nil => cases h; exact .nil
  | cons d ds ih => cases h with | cons r t => exact .cons r (ih t)
theorem paired_repDs {K : PySem.W.Frag} {ct : Nat → Addr} {H : Hp} {vs : List V} {ds : List D} (h : Paired (RepD K ct H) vs ds) : RepDs K ct H vs ds := by
  induction ds generalizing vs with
  | nil => cases h; exact .nil
  | cons d ds ih => cases h with | cons r t => exact .cons r (ih t)
theorem gsel_rel {α β : Type} {R : α → β → Prop} (sel : List (Nat × Nat)) {us its ws : List α} {us' its' ws' : List β} (h1 : Paired R us us') (h2 : Paired R its its') (h3 : Paired R ws ws') : Paired R (gsel sel us its ws) (gsel sel us' its' ws') := by
  unfold gsel
  induction sel with
  | nil => exact .nil
  | cons p sel ih =>
    have key : (∃ a b, pick us its ws p = some a ∧ pick us' its' ws' p = some b ∧ R a b) ∨ (pick us its ws p = none ∧ pick us' its' ws' p = none) := by
      unfold pick
      split
      · exact paired_at h1 _
      · exact paired_at h2 _
      · exact paired_at h3 _
    rcases key with ⟨a, b, e1, e2, r⟩ | ⟨e1, e2⟩
    · rw [List.filterMap_cons_some e1, List.filterMap_cons_some e2]
      exact .cons r ih
    · rw [List.filterMap_cons_none e1, List.filterMap_cons_none e2]
      exact ih
section
variable {P : Program} {w : World} {K : PySem.W.Frag} {mg : Str → Option Value} {base : Heap} {x : Str} {dvs : List V}
theorem okKs {st : Stmt} {N ps : List Str} {k : Nat} {ct : Nat → Addr} {m : M Fl} {dd : List D} (T : FnT K mg x st dvs) (S : FnScope N ps (defScope st)) (n : Nat) (ks : List Str) (sel : List (Nat × Nat)) (hd : dvs ≠ []) (hdd : ∀ H, RepDs K ct H dvs dd)
    (hbd : ∀ (T : Addr) (kV doc pm : Value) (an : Option Addr) (cdv ct : Value) (us its ws : List Value), us.length = n → its.length = dvs.length → ws.length = ks.length →
      ∃ k, bindArgs (PySem.W.fnOf x x (defArgs st) (defBody st) (defScope st) (.ref T) kV doc pm an cdv ct) ⟨us, ks.zip ws⟩ = seqItems? (.ref T) >>= k ∧ k (some its.toArray) = pure (ps.zip (gsel sel us its ws)))
    (hb : ∀ (f : Addr) (cdv : Value) (A : Around) (outer : List Env) (s : Shared) (H : Hp) (E : XK), Room k (A.deeper (envOfC x (defScope st) s.heap.objs.size f cdv)) →
      SDs (cxOf (L2.CX P w) P w K mg base N x (defScope st) f cdv A outer s H E) ct (fun cls d _ H => E cls d H) (defBody st) m) : OkK P w K mg base ct x ps.length (k + 1) (runP N.length m) n ks (fun ds es => gsel sel ds dd es) :=
  okKw T S n ks (gsel sel) hd hdd (fun h1 h2 h3 => gsel_rel sel h1 h2 h3) (fun H vs ds zs us its ws h1 h2 h3 => paired_repDs (gsel_rel sel (repDs_paired h1) (repDs_paired h2) (repDs_paired h3))) hbd hb
end
end Fd
set_option Elab.async false
set_option linter.all false
set_option maxRecDepth 100000
set_option maxHeartbeats 4000000
namespace Fd
open PySem PySem.Spec PyProof.Rows L2
/-! ## the hand: what a take does -/
def skipZ (g : List Int) : List Int := g.dropWhile (· == 0)
def mixH (h : Hand) : Hand := ⟨[], (h.mixed * 69621 + 12345) % 2147483647, h.cnt + 1⟩
def onceH (h : Hand) : Int := (h.mixed * 48271 + h.cnt * 7919) % 2147483629
def twiceH (h : Hand) : Int := (onceH h * onceH h + h.cnt * 104729 + onceH h / 131) % 2147483587
def takeF (n : Int) (h : Hand) : Int × Hand := match skipZ h.great with
  | c :: r => (c % n, { h with great := c.fdiv n :: r })
  | [] => ((twiceH (mixH h) / 17) % n, mixH h)
def R_law_take (xs : List SV) (h : Hand) : Res × Hand := match xs with
  | [.hand, .dat (.int n)] => if 0 < n ∧ n.natAbs.log2 < 9000 then (.ret (.dat (.int (takeF n h).1)), (takeF n h).2) else (.bad, h)
  | _ => (.bad, h)
theorem once_lt (h : Hand) : 0 ≤ onceH h ∧ onceH h < 2147483629 := ⟨Int.emod_nonneg _ (by decide), Int.emod_lt_of_pos _ (by decide)⟩
theorem r_ix {K : PySem.W.Frag} {σ : L2.St} {H : Hp} {Q : VK} {j : Nat} {a : Addr} {xs : List V} {i : Int} {v : V} (h1 : σ[j]? = some (some (.ref a))) (h2 : H a = some (.lst xs)) (h3 : atI xs i = some v) (q : Q v H) : tOp (rIxL K) (tVar j) (tC (.int i)) σ H Q :=
  ⟨_, h1, a, xs, i, v, rfl, rfl, .inl (.inl h2), h3, q⟩
theorem r_ix2 {K : PySem.W.Frag} {σ : L2.St} {H : Hp} {Q : VK} {j : Nat} {a b : Addr} {xs ys : List V} {i k : Int} {v : V} (h1 : σ[j]? = some (some (.ref a))) (h2 : H a = some (.lst xs)) (h3 : atI xs i = some (.ref b)) (h4 : H b = some (.lst ys)) (h5 : atI ys k = some v) (q : Q v H) : tOp (rIxL K) (tOp (rIxL K) (tVar j) (tC (.int i))) (tC (.int k)) σ H Q :=
  r_ix h1 h2 h3 ⟨b, ys, k, v, rfl, rfl, .inl (.inl h4), h5, q⟩
theorem cutV_tail (x : V) (xs : List V) : cutV (x :: xs) (some 1) none = xs := by
  unfold cutV
  have : HT.sIx (x :: xs).length 0 (some 1) = 1 := by
    have := HT.sIx_nat (x :: xs).length 0 1
    rw [show ((1 : Nat) : Int) = 1 from rfl] at this
    rw [this]; simp
  rw [this, HT.sIx_none]; simp
theorem skipZ_cons0 (r : List Int) : skipZ (0 :: r) = skipZ r := rfl
theorem skipZ_ne {c : Int} (r : List Int) (h : ¬ c = 0) : skipZ (c :: r) = c :: r := by
  unfold skipZ
  rw [List.dropWhile_cons_of_neg (by simpa using h)]
end Fd
namespace Fd
open PySem PySem.Spec PyProof.Rows L2
/-! ## reading a take -/
def tI (i : Int) : TE := tC (.int i)
def hIx (K : PySem.W.Frag) (i : Int) : TE := tOp (rIxL K) (tVar 0) (tI i)
def tInt1 (t : TE) : TE := tCB (fun xs H Q => (∃ i, xs = [.int i] ∧ Q (.int i) H) ∨ ∃ k, xs = [.bl k] ∧ Q (.int (if k then 1 else 0)) H) (tCons t tNil)
def opA : R2 := rI0 fun i j => .int (i + j)
def opM : R2 := rI CMul fun i j => .int (i * j)
def opR : R2 := rI (fun _ j => 0 < j) fun i j => .int (i % j)
def takeT (K : PySem.W.Frag) : TS :=
  tSeq (tWhile (tAnd (fun σ H Q => hIx K 0 σ H fun x H' => ∃ k, TruV K x H' k ∧ Q k H') (tTest (tOp rEq (tOp (rIxL K) (hIx K 0) (tI 0)) (tI 0))))
      (tAsg (tSl (rSlL K) (hIx K 0) (tPart (tI 1)) tNoPart) (gSub (tVar 0) (tI 0) rSetL)))
    (tSeq (tIfS (fun σ H Q => hIx K 0 σ H fun x H' => ∃ k, TruV K x H' k ∧ Q k H')
      (tSeq (tAsg (tOp (rIxL K) (hIx K 0) (tI 0)) (gName 2))
      (tSeq (tAsg (tOp (rI (fun _ j => j ≠ 0 ∧ j.natAbs.log2 < 9000) fun i j => .int (i.fdiv j)) (tInt1 (tVar 2)) (tVar 1)) (gSub (hIx K 0) (tI 0) rSetL))
      (tRet (tOp opR (tInt1 (tVar 2)) (tVar 1))))) tNext)
    (tSeq (tAsg (tOp opA (hIx K 2) (tI 1)) (gSub (tVar 0) (tI 2) rSetL))
    (tSeq (tAsg (tOp opR (tInt1 (tOp opA (tOp opM (hIx K 1) (tI 69621)) (tI 12345))) (tI 2147483647)) (gSub (tVar 0) (tI 1) rSetL))
    (tSeq (tAsg (tOp opR (tInt1 (tOp opA (tOp opM (hIx K 1) (tI 48271)) (tOp opM (hIx K 2) (tI 7919)))) (tI 2147483629)) (gName 3))
    (tSeq (tAsg (tOp opR (tInt1 (tOp opA (tOp opA (tOp opM (tVar 3) (tVar 3)) (tOp opM (hIx K 2) (tI 104729))) (tOp (rI CDiv fun i j => .int (i / j)) (tVar 3) (tI 131)))) (tI 2147483587)) (gName 4))
    (tRet (tOp opR (tInt1 (tOp (rI CDiv fun i j => .int (i / j)) (tVar 4) (tI 17))) (tVar 1))))))))
theorem atI_0 {α : Type} {x : α} {xs : List α} : atI (x :: xs) 0 = some x := by
  unfold atI ixN; simp
theorem atI3 {α : Type} {x y z : α} : atI [x, y, z] 0 = some x ∧ atI [x, y, z] 1 = some y ∧ atI [x, y, z] 2 = some z := by
  unfold atI ixN; simp
theorem ixN3 : ixN 3 0 = some 0 ∧ ixN 3 1 = some 1 ∧ ixN 3 2 = some 2 := by
  unfold ixN; simp
theorem ixN_0 {n : Nat} : ixN (n + 1) 0 = some 0 := by unfold ixN; simp
theorem cmulR {i j : Int} (h : -(2 ^ 64) < j ∧ j < 2 ^ 64) : CMul i j := .inr h
theorem hx {K : PySem.W.Frag} {σ : L2.St} {H : Hp} {Q : VK} {a g : Addr} {m c : Int} (h1 : σ[0]? = some (some (.ref a))) (h2 : H a = some (.lst [.ref g, .int m, .int c])) :
    (Q (.ref g) H → hIx K 0 σ H Q) ∧ (Q (.int m) H → hIx K 1 σ H Q) ∧ (Q (.int c) H → hIx K 2 σ H Q) :=
  ⟨fun q => r_ix h1 h2 atI3.1 q, fun q => r_ix h1 h2 atI3.2.1 q, fun q => r_ix h1 h2 atI3.2.2 q⟩
structure TkInv (H0 : Hp) (ah g : Addr) (h : Hand) (g' : Addr) (gr : List Int) (H : Hp) : Prop where
  hr : HandR ah g' H ⟨gr, h.mixed, h.cnt⟩
  gg : g' = g ∨ H0 g' = none
  sk : skipZ gr = skipZ h.great
  kp : ∀ a o, H0 a = some o → a ≠ ah → a ≠ g → H a = some o
  th : ∀ a, H0 a ≠ none → H a ≠ none
theorem handR_ne {ah g : Addr} {H : Hp} {h : Hand} (x : HandR ah g H h) : g ≠ ah := fun z => by
  obtain ⟨h1, h2⟩ := x
  rw [z, h1] at h2
  have := HO.lst.inj (Option.some.inj h2)
  cases e : h.great with
  | nil => rw [e] at this; cases this
  | cons c r => rw [e] at this; injection this with t1 t2; cases t1
theorem take_read {K : PySem.W.Frag} {ct : Nat → Addr} {vs : List V} {H : Hp} {Q : VK} {E : XK} {N : List Str} (hN : N.length = 5) (h : spH K ct 2 R_law_take vs H Q E) : takeT K { nx := fun _ H' => Q .non H', rt := Q } (L2.start N vs) H := by
  obtain ⟨hl, ah, g, hd, xs, hh, rp, gd⟩ := h
  match xs, rp, gd with
  | [.hand, .dat (.int n)], rp, gd =>
    cases rp with
    | cons r1 rp =>
      cases rp with
      | cons r2 rp =>
        cases rp
        cases r2
        obtain rfl := r1
        unfold GoodH R_law_take at gd
        by_cases hc : 0 < n ∧ n.natAbs.log2 < 9000
        · simp only [if_pos hc] at gd
          obtain ⟨σ, e⟩ : ∃ σ, L2.start N [V.ref ah, V.int n] = σ := ⟨_, rfl⟩
          have eσ : L2.start N [V.ref ah, V.int n] = [some (.ref ah), some (.int n), none, none, none] := by
            unfold L2.start; simp [hN]
          rw [eσ]
          clear e σ
          let σ0 : L2.St := [some (.ref ah), some (.int n), none, none, none]
          refine ⟨fun m σ H' => σ = σ0 ∧ ∃ g' gr, gr.length = m ∧ TkInv H ah g hd g' gr H', ⟨hd.great.length, rfl, g, hd.great, rfl, ⟨hh, .inl rfl, rfl, fun a o e _ _ => e, fun a z => z⟩⟩, ?_⟩
          rintro m σ H1 ⟨rfl, g', gr, hm, I⟩
          have e1 : H1 ah = some (.lst [.ref g', .int hd.mixed, .int hd.cnt]) := I.hr.1
          have e2 : H1 g' = some (.lst (gr.map V.int)) := I.hr.2
          have ne : g' ≠ ah := handR_ne I.hr
          refine (hx (K := K) (σ := σ0) rfl e1).1 ⟨!gr.isEmpty, .inl ⟨gr.map V.int, .inl (.inl e2), by cases gr <;> rfl⟩, ?_⟩
          -- what the loop leaves: the cells from the first that is not 0
          have rest : ∀ c r, gr = c :: r → ¬ c = 0 → skipZ hd.great = c :: r := fun c r e hz => by rw [← I.sk, e, skipZ_ne r hz]
          cases gr with
          | nil =>
            refine iteF ?_
            refine iteF ?_
            have sk0 : skipZ hd.great = [] := I.sk.symm
            -- no cell
            refine (hx (K := K) (σ := σ0) rfl e1).1 ⟨false, .inl ⟨[], .inl (.inl e2), rfl⟩, ?_⟩
            refine iteF ?_
            refine (hx (K := K) (σ := σ0) rfl e1).2.2 ⟨_, _, rfl, rfl, _, rfl, ah, _, 2, 2, rfl, rfl, e1, ixN3.2.2, ?_⟩
            have e3 : (upd H1 ah (.lst [.ref g', .int hd.mixed, .int (hd.cnt + 1)])) ah = some (.lst [.ref g', .int hd.mixed, .int (hd.cnt + 1)]) := upd_same
            generalize hH2 : (upd H1 ah (.lst [.ref g', .int hd.mixed, .int (hd.cnt + 1)])) = H2 at e3
            have hH2' : (upd H1 ah (.lst ([V.ref g', V.int hd.mixed, V.int hd.cnt].set 2 (V.int (hd.cnt + 1))))) = H2 := hH2
            rw [hH2']
            refine (hx (K := K) (σ := σ0) rfl e3).2.1 ⟨_, _, rfl, rfl, cmulR (by decide), _, _, rfl, rfl, .inl ⟨_, rfl, _, _, rfl, rfl, (show (0 : Int) < 2147483647 by decide), _, rfl, ah, _, 1, 1, rfl, rfl, e3, ixN3.2.1, ?_⟩⟩
            have e4 : (upd H2 ah (.lst [.ref g', .int (mixH hd).mixed, .int (mixH hd).cnt])) ah = some (.lst [.ref g', .int (mixH hd).mixed, .int (mixH hd).cnt]) := upd_same
            generalize hH3 : (upd H2 ah (.lst [.ref g', .int (mixH hd).mixed, .int (mixH hd).cnt])) = H3 at e4
            have hH3' : (upd H2 ah (.lst ([V.ref g', V.int hd.mixed, V.int (hd.cnt + 1)].set 1 (V.int ((hd.mixed * 69621 + 12345) % 2147483647))))) = H3 := hH3
            rw [hH3']
            refine (hx (K := K) (σ := σ0) rfl e4).2.1 ⟨_, _, rfl, rfl, cmulR (by decide), (hx (K := K) (σ := σ0) rfl e4).2.2 ⟨_, _, rfl, rfl, cmulR (by decide), _, _, rfl, rfl, .inl ⟨_, rfl, _, _, rfl, rfl, (show (0 : Int) < 2147483629 by decide), ?_⟩⟩⟩
            have ol := once_lt (mixH hd)
            let σ1 : L2.St := [some (.ref ah), some (.int n), none, some (.int (onceH (mixH hd))), none]
            refine ⟨_, rfl, _, rfl, _, _, rfl, rfl, cmulR (show -(2 ^ 64) < onceH (mixH hd) ∧ onceH (mixH hd) < 2 ^ 64 by omega), (hx (K := K) (σ := σ1) rfl e4).2.2 ⟨_, _, rfl, rfl, cmulR (by decide), _, _, rfl, rfl, _, rfl, _, _, rfl, rfl, ⟨by decide, by decide⟩, _, _, rfl, rfl, .inl ⟨_, rfl, _, _, rfl, rfl, (show (0 : Int) < 2147483587 by decide), ?_⟩⟩⟩
            refine ⟨_, rfl, _, _, rfl, rfl, ⟨by decide, by decide⟩, .inl ⟨_, rfl, _, rfl, _, _, rfl, rfl, hc.1, ?_⟩⟩
            have tk : takeF n hd = ((twiceH (mixH hd) / 17) % n, mixH hd) := by unfold takeF; rw [sk0]
            rw [tk] at gd
            have kp3 : ∀ a o, H a = some o → a ≠ ah → a ≠ g → H3 a = some o := fun a o ea n1 n2 => by
              rw [← hH3, upd_ne n1, ← hH2, upd_ne n1]
              exact I.kp a o ea n1 n2
            refine gd _ H3 g' kp3 (fun a ha => ?_) ⟨e4, ?_⟩ I.gg (RepD.int _) (fun ds z => by cases z)
            · rw [← hH3, ← hH2]
              exact there_upd _ (there_upd _ (I.th a ha))
            · rw [← hH3, upd_ne ne, ← hH2, upd_ne ne]
              exact e2
          | cons c r =>
            refine iteT ?_
            refine (hx (K := K) (σ := σ0) rfl e1).1 ⟨_, _, 0, .int c, rfl, rfl, .inl (.inl e2), atI_0, ?_⟩
            refine ⟨rfl, _, rfl, ?_⟩
            by_cases hz : c = 0
            · -- a 0 in front
              subst hz
              rw [show decide (V.int 0 = V.int 0) = true from decide_eq_true rfl]
              refine iteT ?_
              refine ⟨fun σ H' => σ = σ0 ∧ ∃ g2, TkInv H ah g hd g2 r H', fun σ' H' w => ⟨r.length, by rw [← hm]; simp, w.1, w.2.elim fun g2 J => ⟨g2, r, rfl, J⟩⟩, ?_⟩
              refine (hx (K := K) (σ := σ0) rfl e1).1 ⟨_, rfl, g', _, rfl, .inl (.inl e2), fun p np => ?_⟩
              have nap : ah ≠ p := fun z => by rw [← z, e1] at np; cases np
              have e1p : (upd H1 p (.lst (cutV ((0 :: r).map V.int) (some 1) none))) ah = some (.lst [.ref g', .int hd.mixed, .int hd.cnt]) := by rw [upd_ne nap]; exact e1
              refine ⟨_, rfl, ah, _, 0, 0, rfl, rfl, e1p, ixN3.1, rfl, p, ⟨⟨upd_same, ?_⟩, .inr ?_, ?_, fun a o ea n1 n2 => ?_, fun a ha => there_upd _ (there_upd _ (I.th a ha))⟩⟩
              · rw [upd_ne nap.symm, upd_same, List.map_cons, cutV_tail]
              · cases ep : H p with
                | none => rfl
                | some o => exact absurd np (I.th p (by rw [ep]; exact fun z => by cases z))
              · exact (skipZ_cons0 r).symm.trans I.sk
              · have npa : a ≠ p := fun z => I.th a (by rw [ea]; exact fun z => by cases z) (by rw [z]; exact np)
                rw [upd_ne n1, upd_ne npa]
                exact I.kp a o ea n1 n2
            · rw [show decide (V.int c = V.int 0) = false from decide_eq_false fun z => hz (V.int.inj z)]
              refine iteF ?_
              refine (hx (K := K) (σ := σ0) rfl e1).1 ⟨true, .inl ⟨_, .inl (.inl e2), rfl⟩, ?_⟩
              refine iteT ?_
              have sk1 : skipZ hd.great = c :: r := rest c r rfl hz
              refine (hx (K := K) (σ := σ0) rfl e1).1 ⟨_, _, 0, .int c, rfl, rfl, .inl (.inl e2), atI_0, ?_⟩
              let σ1 : L2.St := [some (.ref ah), some (.int n), some (.int c), none, none]
              refine ⟨_, rfl, .inl ⟨_, rfl, _, rfl, _, _, rfl, rfl, ⟨by omega, hc.2⟩, ?_⟩⟩
              refine (hx (K := K) (σ := σ1) rfl e1).1 ⟨g', _, 0, 0, rfl, rfl, e2, ixN_0, ?_⟩
              refine ⟨_, rfl, .inl ⟨_, rfl, _, rfl, _, _, rfl, rfl, hc.1, ?_⟩⟩
              have tk : takeF n hd = (c % n, { hd with great := c.fdiv n :: r }) := by unfold takeF; rw [sk1]
              rw [tk] at gd
              refine gd _ _ g' (fun a o ea n1 n2 => ?_) (fun a ha => there_upd _ (I.th a ha)) ⟨by rw [upd_ne ne.symm]; exact e1, upd_same⟩ I.gg (RepD.int _) (fun ds z => by cases z)
              have : a ≠ g' := fun z => by
                rcases I.gg with q | q
                · exact n2 (z.trans q)
                · rw [← z, ea] at q; cases q
              rw [upd_ne this]
              exact I.kp a o ea n1 n2
        · simp only [if_neg hc] at gd
end Fd
set_option Elab.async false
set_option linter.all false
set_option maxRecDepth 100000
set_option maxHeartbeats 4000000
namespace Fd
open PySem PySem.Spec PyProof.Rows L2
/-! ## the law's own hand from its script -/
def spN (K : PySem.W.Frag) : Sp := fun vs H Q _ => ∃ (a : Addr) (ns : List Int), vs = [.ref a] ∧ SqL K H a (ns.map V.int) ∧ ns.length ≤ 63 ∧ ∀ ah g h H', L2.Same H H' → H ah = none → H g = none → HandR ah g H' h → Q (.ref ah) H'
theorem spN_len {K : PySem.W.Frag} (vs : List V) (H : Hp) (Q : VK) (E : XK) (h : spN K vs H Q E) : vs.length = 1 := by
  obtain ⟨a, ns, rfl, _⟩ := h
  rfl
structure OkN (P : Program) (w : World) (K : PySem.W.Frag) (mg : Str → Option Value) (base : Heap) (x : Str) (k : Nat) : Prop where
  ex : ∃ (f : Addr) (fd : FuncData) (ps : List Str), ps.length = 1 ∧ mg x = some (.ref f) ∧ PySem.W.keepIn K (.ref f) = true ∧ FnOk P w K mg base (L2.CX P w) k f fd ps (spN K) ∧ Binds K fd ps []
def tAbs (t : TE) : TE := tCB (fun xs H Q => ∃ i, xs = [.int i] ∧ Q (.int (if i < 0 then -i else i)) H) (tCons t tNil)
def opG : R2 := rI0 fun i j => .bl (decide (j ≤ i))
def handT (K : PySem.W.Frag) : TS :=
  tSeq (tAsg (tLst tNil) (gName 1))
  (tSeq (tAsg (tOp opA (tCB (fun xs H Q => ∃ x n, xs = [x] ∧ LenV K x H n ∧ Q (.int n) H) (tCons (tVar 0) tNil)) (tI 7)) (gName 2))
  (tSeq (tFor (iList K (tVar 0)) (gName 3)
    (tSeq (tAsg (tAbs (tInt1 (tVar 3))) (gName 4))
    (tSeq (tAsg (tOp opA (tOp opR (tInt1 (tOp opA (tOp opM (tVar 2) (tI 31337)) (tVar 4))) (tI 2147483629)) (tI 1)) (gName 2))
    (tIfS (tTest (tOp opG (tVar 4) (tOp (rI CPow fun i j => .int (i ^ j.toNat)) (tI 10) (tI 18)))) (tDrop (tBM K "list" rAppend (tVar 1) (tCons (tVar 4) tNil))) tNext))))
  (tRet (tLst (tCons (tVar 1) (tCons (tVar 2) (tCons (tI 0) tNil)))))))
theorem hand_read {K : PySem.W.Frag} {vs : List V} {H : Hp} {Q : VK} {E : XK} {N : List Str} (hN : N.length = 5) (h : spN K vs H Q E) : handT K { nx := fun _ H' => Q .non H', rt := Q } (L2.start N vs) H := by
  obtain ⟨a, ns, rfl, hS, hl, k⟩ := h
  have eσ : L2.start N [V.ref a] = [some (.ref a), none, none, none, none] := by
    unfold L2.start; simp [hN]
  rw [eσ]
  refine ⟨Nat.zero_le _, fun g ng => ?_⟩
  have s1 : L2.Same H (upd H g (.lst [])) := fun b o e => by rw [upd_ne (ne_of_none e ng)]; exact e
  have sq : ∀ {H'}, L2.Same H H' → SqL K H' a (ns.map V.int) := fun s => s.seq hS
  refine ⟨_, rfl, _, _, rfl, .inl ⟨_, sq s1, rfl⟩, _, _, rfl, rfl, ?_⟩
  refine ⟨_, rfl, a, rfl, ⟨_, sq s1⟩, for_list (K := K) (a := a) (xs := ns.map V.int) (fun i σ H2 => ∃ (m : Int) (gr : List Int) (x y : Option V), σ = [some (.ref a), some (.ref g), some (.int m), x, y] ∧ L2.Same H H2 ∧ H2 g = some (.lst (gr.map V.int)) ∧ gr.length ≤ i)
    ⟨_, [], none, none, rfl, s1, upd_same, Nat.zero_le _⟩ (fun i σ H2 _ ⟨_, _, _, _, _, s2, _⟩ => sq s2) ?_ ?_⟩
  · rintro i y σ H2 hi ⟨m, gr, x, z, rfl, s2, hg, hi2⟩
    obtain ⟨c, rfl⟩ : ∃ c, y = V.int c := by
      rw [List.getElem?_map] at hi
      cases e : ns[i]? with
      | none => rw [e] at hi; cases hi
      | some c => rw [e] at hi; exact ⟨c, (Option.some.inj hi).symm⟩
    have hil : i < (ns.map V.int).length := (List.getElem?_eq_some_iff.mp hi).1
    rw [List.length_map] at hil
    refine ⟨_, rfl, .inl ⟨_, rfl, _, rfl, ?_⟩⟩
    refine ⟨_, rfl, _, _, rfl, rfl, cmulR (by decide), _, rfl, _, _, rfl, rfl, .inl ⟨_, rfl, _, _, rfl, rfl, (show (0 : Int) < 2147483629 by decide), _, _, rfl, rfl, ?_⟩⟩
    refine ⟨_, rfl, _, _, rfl, rfl, ⟨by decide, by decide, by decide⟩, _, _, rfl, rfl, _, rfl, ?_⟩
    refine ite2 (fun _ => ?_) fun _ => ?_
    · refine ⟨_, rfl, .inl ⟨rfl, _, .inl (.inl hg)⟩, _, rfl, g, _, _, rfl, rfl, hg, ?_, ?_⟩
      · rw [List.length_map]
        exact small1000 (by omega)
      · refine ⟨_, gr ++ [_], _, _, rfl, fun b o e => ?_, by rw [upd_same, List.map_append]; rfl, by simp; omega⟩
        rw [upd_ne (ne_of_none e ng)]
        exact s2 b o e
    · exact ⟨_, gr, _, _, rfl, s2, hg, by omega⟩
  · rintro σ H2 ⟨m, gr, x, y, rfl, s2, hg, _⟩
    refine ⟨_, rfl, _, rfl, Nat.le_of_lt (show 3 < sizeLine from small1000 (by decide)), fun p np => ?_⟩
    have ngp : g ≠ p := fun z => by rw [z, np] at hg; cases hg
    refine k p g ⟨gr, m, 0⟩ _ (fun b o e => ?_) ?_ ng ⟨upd_same, by rw [upd_ne ngp]; exact hg⟩
    · rw [upd_ne fun z => by rw [← z, s2 b o e] at np; cases np]
      exact s2 b o e
    · cases e : H p with
      | none => rfl
      | some o => rw [s2 p o e] at np; cases np
end Fd
set_option Elab.async false
set_option linter.all false
set_option maxRecDepth 100000
set_option maxHeartbeats 4000000
namespace Fd
open PySem PySem.Spec PyProof.Rows L2
/-! ## the law -/
def spLaw (K : PySem.W.Frag) : Sp := fun vs H Q _ => ∃ (a : Addr) (ns : List Int), vs = [.ref a] ∧ SqL K H a (ns.map V.int) ∧ ns.length ≤ 63 ∧ ∀ H', Q (.bl true) H'
def startL (n : Nat) (h : Hand) : S := ⟨none :: some .hand :: List.replicate (n - 2) none, [], some h⟩
/-- the law's first statement -/
structure HandSt (X : Cx) (st : Stmt) : Prop where
  ex : ∃ t0, PS X st t0 ∧ ∀ (N : Ends) (σ : L2.St) (H : Hp) (a : Addr) (ns : List Int), σ[0]? = some (some (.ref a)) → SqL X.K H a (ns.map V.int) → ns.length ≤ 63 →
    (∀ ah g h H', L2.Same H H' → H ah = none → H g = none → HandR ah g H' h → N.nx (σ.set 1 (some (.ref ah))) H') → t0 N σ H
theorem hand_st {X : Cx} {y z : Str} {p p2 p' pos pos2 : Pos} (O : OkN X.prog X.w X.K X.mg X.base "_law_hand" 1) (hr : Room 1 X.A) (hv : PE X (.Name z p2) (tVar 0)) (hgt : PG X (.Name y p') (gName 1)) (hg : Gl X "_law_hand" := by rfl)
    (he : starEach [.Name z p2] X.env = (false, eval (.Name z p2) X.env) :: starEach [] X.env := by rfl) (hpl : (backTo pos (starEach [] X.env)).any (·.1) = false := by rfl)
    (hs : swapsWithSole [.Name y p'] (.Call (.Name "_law_hand" p) [.Name z p2] [] pos) pos2.line X.env = pure false := by rfl) (hw : swappedStores [.Name y p'] (.Call (.Name "_law_hand" p) [.Name z p2] [] pos) X.env = pure none := by rfl)
    (h1 : (assignEach [.Name y p'] X.env).map (·.2) = [assign (.Name y p') X.env] := by rfl) : HandSt X (.Assign [.Name y p'] (.Call (.Name "_law_hand" p) [.Name z p2] [] pos) pos2) := by
  obtain ⟨f, fd, ps, _, hm, hk, F, hb⟩ := O.ex
  refine ⟨_, ps_asg (pe_call F hr hg hm hk hb .nil passL (pa_cons hv pa_nil he) (by decide) he hpl) hgt hs hw h1, fun N σ H a ns h0 hS hl k => ?_⟩
  refine ⟨_, h0, a, ns, rfl, hS, hl, fun ah g h H' s1 n1 n2 hR => ?_⟩
  exact k ah g h H' s1 n1 n2 hR
section
variable {P : Program} {w : World} {K : PySem.W.Frag} {mg : Str → Option Value} {base : Heap}
theorem okL {st st0 : Stmt} {rest : List Stmt} {N : List Str} {k : Nat} {ct : Nat → Addr} {m : M Fl} {x z : Str} {f : Addr} {fd : FuncData} (F : FunD K x x (defArgs st) (defBody st) (defScope st) [] [] f fd) (S : FnScope N [z] (defScope st)) (hN : 2 ≤ N.length) (hbd : defBody st = st0 :: rest)
    (hm : ∀ h, ∃ s', m (startL N.length h) = .ok (.rt (RB true)) s')
    (hb : ∀ (cdv : Value) (A : Around) (outer : List Env) (s : Shared) (H : Hp) (E : XK), Room k (A.deeper (envOfC x (defScope st) s.heap.objs.size f cdv)) →
      HandSt (cxOf (L2.CX P w) P w K mg base N x (defScope st) f cdv A outer s H E) st0 ∧ SDs (cxOf (L2.CX P w) P w K mg base N x (defScope st) f cdv A outer s H E) ct (fun cls d _ H => E cls d H) rest m) :
    FnOk P w K mg base (L2.CX P w) (k + 1) f fd [z] (spLaw K) := by
  refine F.ok S (fun vs H Q E h => ?_) fun cdv A outer s H vs Q E hr h => ?_
  · obtain ⟨a, ns, rfl, _⟩ := h
    rfl
  · obtain ⟨a, ns, rfl, hS, hl, kq⟩ := h
    obtain ⟨h0, hD⟩ := hb cdv A outer s H E hr
    obtain ⟨t0, p0, r0⟩ := h0.ex
    obtain ⟨t, p, r⟩ := hD.ex
    rw [hbd]
    refine ⟨_, pss_cons p0 p, ?_⟩
    have es : (L2.start N [V.ref a]) = some (.ref a) :: List.replicate (N.length - 1) none := by
      unfold L2.start; simp
    refine r0 _ _ H a ns (by rw [es]; rfl) hS hl fun ah g h H' s1 n1 n2 hR => ?_
    obtain ⟨s', em⟩ := hm h
    let γ0 : G := ⟨fun _ => 0, ah, g⟩
    have len0 : (L2.start N [V.ref a]).length = N.length := by rw [es]; simp; omega
    have R0 : Rep K ct γ0 H' ((L2.start N [V.ref a]).set 1 (some (.ref ah))) (startL N.length h) := by
      refine ⟨?_, fun i x e => ?_, fun k xs e => by simp [startL] at e, fun j k hj => ?_, fun h' e => ?_, fun _ k hk => ?_⟩
      · rw [List.length_set, len0]; simp [startL]; omega
      · match i, e with
        | 0, e => simp [startL] at e
        | 1, e =>
          simp [startL] at e
          subst e
          exact ⟨.ref ah, by rw [List.getElem?_set_self (by rw [len0]; omega)], rfl⟩
        | i + 2, e =>
          simp [startL, List.getElem?_replicate] at e
      · obtain ⟨xs, e⟩ := hj
        simp [startL] at e
      · simp [startL] at e; subst e; exact hR
      · obtain ⟨xs, e⟩ := hk
        simp [startL] at e
    refine r _ _ H' γ0 (startL N.length h) R0 ?_
    unfold GoodS
    rw [em]
    intro v σ' γ' H2 st2 R2 q
    cases q
    exact kq H2
/-- the end: a def law, its facts, its walk over every base -/
theorem law_end {l : PySem.W.OpenLaw} {q : Program} {loose : List Str} {XP : (Str → Option Value) → Heap → Prop} {YP : World → Heap → Prop} {d : DefRec} {K : Params → PySem.W.Frag} {k : Nat} (hn : l.most = some 63) (hdf : d.params.defaults = []) (hr : Room k callerA)
    (hY : ∀ (w : World) (h : Heap), YP w h → (K w.params).In h)
    (F : ∀ (w : World) (mg : Str → Option Value) (fa : Addr) (h : Heap), (K w.params).In h → h.Ns mainGlobals mg → mg d.name = some (.ref fa) →
      ∃ fd : FuncData, (∀ (s : Shared) (u : Value), BindsTo s fd ⟨[u], []⟩ [("_law_script", u)]) ∧ ∀ base : Heap, (K w.params).In base → base.Ns mainGlobals mg → FnOk l.prog w (K w.params) mg base (L2.CX l.prog w) k fa fd ["_law_script"] (spLaw (K w.params))) :
    PySem.W.WalkO q loose XP YP l.row.toRowW d [] (fun f vs => PySem.call f vs) :=
  L2.walk_of (n := 63) (k := k) (x := "_law_script") (CX := fun w => L2.CX l.prog w) (sp := fun w => spLaw (K w.params)) hn (by decide) hdf hr hY F (fun _ _ a ns hl _ hS => ⟨a, ns, rfl, hS, hl, fun _ => rfl⟩) fun w H s e s' h => by
    obtain ⟨a, B, H', cls, d, _, _, _, _, _, _, _, z⟩ := h
    exact z
end
end Fd
namespace Fd
open PySem
theorem freeNames_of {c : Str} : ∀ {l : List (Str × NameKind)}, (∀ p ∈ l, p.2 = .free → p.1 = c) → ∀ x, l.lookup x = some .free → x = c
  | [], _, x, h => by cases h
  | (y, k) :: l, hl, x, h => by
    rw [List.lookup_cons] at h
    split at h
    · rename_i e
      cases h
      have := hl (y, .free) (by simp) rfl
      rw [eq_of_beq e]; exact this
    · exact freeNames_of (fun p hp => hl p (by simp [hp])) x h
end Fd
set_option Elab.async false
set_option linter.all false
set_option maxRecDepth 100000
set_option maxHeartbeats 4000000
namespace Fd
open PySem PySem.Spec PyProof.Rows L2
/-! ## how the combinators compute, for simp -/
def isNoD : D → Bool
  | .non => true
  | _ => false
@[simp] theorem no_non : isNoD .non = true := rfl
@[simp] theorem no_int (a : Int) : isNoD (.int a) = false := rfl
@[simp] theorem no_bl (a : Bool) : isNoD (.bl a) = false := rfl
@[simp] theorem no_str (a : Str) : isNoD (.str a) = false := rfl
@[simp] theorem no_tup (a : List D) : isNoD (.tup a) = false := rfl
@[simp] theorem no_lst (a : List D) : isNoD (.lst a) = false := rfl
section
variable {α β : Type} (s : S)
@[simp] theorem e_pur (a : α) : (pur a : M α) s = .ok a s := rfl
@[simp] theorem e_bnd (m : M α) (f : α → M β) : bnd m f s = match m s with
  | .ok a s' => f a s'
  | .exc x s' => .exc x s'
  | .bad => .bad := rfl
@[simp] theorem e_stuck : (stuck : M α) s = .bad := rfl
@[simp] theorem e_m2 (a b : M RV) (f) : m2 a b f s = bnd a (fun x => bnd b fun y => f x y) s := rfl
@[simp] theorem e_getV (i : Nat) : getV i s = match s.env[i]? with
  | some (some x) => .ok (.sv x) s
  | _ => .bad := rfl
@[simp] theorem e_setV (i : Nat) (x : SV) : setV i x s = .ok () { s with env := s.env.set i (some x) } := rfl
@[simp] theorem e_retF (m : M RV) : retF m s = bnd m (fun r => pur (.rt r)) s := rfl
@[simp] theorem e_dropF (m : M RV) : dropF m s = bnd m (fun r => pur .nx) s := rfl
@[simp] theorem e_seqF (m g : M Fl) : seqF m g s = match m s with
  | .ok .nx s' => g s'
  | .ok f s' => .ok f s'
  | .exc x s' => .exc x s'
  | .bad => .bad := by
  unfold seqF bnd
  cases m s with
  | ok f s' => cases f <;> rfl
  | exc => rfl
  | bad => rfl
@[simp] theorem e_ifF (t : M Bool) (a b : M Fl) : ifF t a b s = match t s with
  | .ok true s' => a s'
  | .ok false s' => b s'
  | .exc x s' => .exc x s'
  | .bad => .bad := by
  unfold ifF bnd
  cases t s with
  | ok f s' => cases f <;> rfl
  | exc => rfl
  | bad => rfl
@[simp] theorem e_ifE (t : M Bool) (a b : M RV) : ifE t a b s = match t s with
  | .ok true s' => a s'
  | .ok false s' => b s'
  | .exc x s' => .exc x s'
  | .bad => .bad := by
  unfold ifE bnd
  cases t s with
  | ok f s' => cases f <;> rfl
  | exc => rfl
  | bad => rfl
@[simp] theorem e_asgF (m : M RV) (f) : asgF m f s = match m s with
  | .ok (.sv x) s' => nxU (f x) s'
  | .ok (.new _) _ => .bad
  | .exc x s' => .exc x s'
  | .bad => .bad := by
  unfold asgF bnd
  cases m s with
  | ok f s' => cases f <;> rfl
  | exc => rfl
  | bad => rfl
@[simp] theorem e_consA (m : M RV) (mA) : consA m mA s = match m s with
  | .ok (.sv x) s' => bnd mA (fun xs => pur (x :: xs)) s'
  | .ok (.new _) _ => .bad
  | .exc x s' => .exc x s'
  | .bad => .bad := by
  unfold consA bnd
  cases m s with
  | ok f s' => cases f <;> rfl
  | exc => rfl
  | bad => rfl
@[simp] theorem e_consB (m : M RV) (mA) : consB m mA s = bnd m (fun x => bnd mA fun xs => pur (x :: xs)) s := rfl
@[simp] theorem e_parF (i j : Nat) (mA) : parF i j mA s = bnd mA (fun xs s => match xs with
  | [x, y] => .ok .nx { s with env := (s.env.set i (some x)).set j (some y) }
  | _ => .bad) s := rfl
@[simp] theorem e_andT (a b : M Bool) : andT a b s = match a s with
  | .ok true s' => b s'
  | .ok false s' => .ok false s'
  | .exc x s' => .exc x s'
  | .bad => .bad := by
  unfold andT bnd
  cases a s with
  | ok f s' => cases f <;> rfl
  | exc => rfl
  | bad => rfl
@[simp] theorem e_orT (a b : M Bool) : orT a b s = match a s with
  | .ok true s' => .ok true s'
  | .ok false s' => b s'
  | .exc x s' => .exc x s'
  | .bad => .bad := by
  unfold orT bnd
  cases a s with
  | ok f s' => cases f <;> rfl
  | exc => rfl
  | bad => rfl
@[simp] theorem e_notT (a : M Bool) : notT a s = bnd a (fun b => pur (!b)) s := rfl
@[simp] theorem e_truthM (r : RV) : truthM r s = match trB s r with
  | some b => .ok b s
  | none => .bad := rfl
@[simp] theorem e_notM (r : RV) : notM r s = match trB s r with
  | some b => .ok (RB (!b)) s
  | none => .bad := rfl
@[simp] theorem e_andV (a b : M RV) : andV a b s = bnd a (fun x s => match trB s x with
  | some true => b s
  | some false => .ok x s
  | none => .bad) s := rfl
@[simp] theorem e_orV (a b : M RV) : orV a b s = bnd a (fun x s => match trB s x with
  | some true => .ok x s
  | some false => b s
  | none => .bad) s := rfl
@[simp] theorem e_tupM (xs : List SV) : tupM xs s = match datL xs with
  | some ds => if ds.length ≤ 1000 then .ok (RT ds) s else .bad
  | none => .bad := rfl
@[simp] theorem e_lstM (xs : List SV) : lstM xs s = if xs.length ≤ 1000 then .ok (.new xs) s else .bad := rfl
@[simp] theorem e_callM (n F dd xs) : callM n F dd xs s = match datL xs with
  | some ds => if (ds ++ dd).length = n then toRes (F (ds ++ dd)) s else .bad
  | none => .bad := by
  unfold callM
  cases datL xs with
  | none => rfl
  | some ds => dsimp only; split <;> rfl
@[simp] theorem e_callH (n F dd xs) : callH n F dd xs s = match s.hd with
  | some h => if (xs ++ dd.map SV.dat).length = n then if xs.all noRef = true then match F (xs ++ dd.map SV.dat) h with
    | (.ret (.dat d), h') => .ok (RD d) { s with hd := some h' }
    | (.ret (.new ds), h') => .ok (.new (ds.map SV.dat)) { s with hd := some h' }
    | _ => .bad
    else .bad else .bad
  | none => .bad := rfl
@[simp] theorem e_toResD (d : D) : toRes (.ret (.dat d)) s = .ok (RD d) s := rfl
@[simp] theorem e_toResN (ds : List D) : toRes (.ret (.new ds)) s = .ok (.new (ds.map SV.dat)) s := rfl
@[simp] theorem e_toResX (x : Exn) : toRes (.exc x) s = .exc x s := rfl
@[simp] theorem e_toResB : toRes .bad s = .bad := rfl
@[simp] theorem e_datL0 : datL [] = some [] := rfl
@[simp] theorem e_datL1 (d : D) (r : List SV) : datL (.dat d :: r) = match datL r with
  | some ds => some (d :: ds)
  | none => none := rfl
@[simp] theorem e_datLm (ds : List D) : datL (ds.map SV.dat) = some ds := datL_map ds
@[simp] theorem e_frzD (d : D) : frz (.sv (.dat d)) s = .ok (.sv (.dat d)) s := rfl
@[simp] theorem e_frzN (xs : List SV) : frz (.new xs) s = match datL xs with
  | some ds => .ok (.sv (.dat (.lst ds))) s
  | none => .bad := rfl
@[simp] theorem e_nxU (m : M Unit) : nxU m s = match m s with
  | .ok _ s' => .ok .nx s'
  | _ => .bad := rfl
@[simp] theorem e_asB (b : Bool) : asB (RB b) s = .ok b s := rfl
@[simp] theorem e_asI (i : Int) : asI (RI i) s = .ok (some i) s := rfl
@[simp] theorem e_int2 (g i j) : int2 g (RI i) (RI j) s = .ok (g i j) s := rfl
@[simp] theorem e_int2g (C g i j) : int2g C g (RI i) (RI j) s = if C i j = true then .ok (g i j) s else .bad := rfl
@[simp] theorem e_subM (i j : Int) : subM (RI i) (RI j) s = .ok (RI (i - j)) s := rfl
@[simp] theorem e_ltM (i j : Int) : ltM (RI i) (RI j) s = .ok (RB (decide (i < j))) s := rfl
@[simp] theorem e_leM (i j : Int) : leM (RI i) (RI j) s = .ok (RB (decide (i ≤ j))) s := rfl
@[simp] theorem e_gtM (i j : Int) : gtM (RI i) (RI j) s = .ok (RB (decide (j < i))) s := rfl
@[simp] theorem e_geM (i j : Int) : geM (RI i) (RI j) s = .ok (RB (decide (j ≤ i))) s := rfl
@[simp] theorem e_mulI (i j : Int) : mulI (RI i) (RI j) s = if mulC i j = true then .ok (RI (i * j)) s else .bad := rfl
@[simp] theorem e_divM (i j : Int) : divM (RI i) (RI j) s = if divC i j = true then .ok (RI (i.fdiv j)) s else .bad := rfl
@[simp] theorem e_modM (i j : Int) : modM (RI i) (RI j) s = if modC i j = true then .ok (RI (i.fmod j)) s else .bad := rfl
@[simp] theorem e_powM (i j : Int) : powM (RI i) (RI j) s = if powC i j = true then .ok (RI (i ^ j.toNat)) s else .bad := rfl
@[simp] theorem e_negM (i : Int) : negM (RI i) s = .ok (RI (-i)) s := rfl
@[simp] theorem e_addI (i j : Int) : addM (RI i) (RI j) s = .ok (RI (i + j)) s := rfl
@[simp] theorem e_addT (x y : List D) : addM (RT x) (RT y) s = if x.length + y.length ≤ 100000 then .ok (RT (x ++ y)) s else .bad := rfl
@[simp] theorem e_absM (i : Int) : absM [RI i] s = .ok (RI (if i < 0 then -i else i)) s := rfl
@[simp] theorem e_intM (i : Int) : intM [RI i] s = .ok (RI i) s := rfl
@[simp] theorem e_gcdM (i j : Int) : gcdM [RI i, RI j] s = .ok (RI ((Nat.gcd i.natAbs j.natAbs : Nat) : Int)) s := rfl
@[simp] theorem e_lenT (ds : List D) : lenM [RT ds] s = .ok (RI ds.length) s := rfl
@[simp] theorem e_lenL (ds : List D) : lenM [RD (.lst ds)] s = .ok (RI ds.length) s := by simp [lenM, seqL]
@[simp] theorem e_lenN (xs : List SV) : lenM [.new xs] s = .ok (RI xs.length) s := rfl
@[simp] theorem e_ixT (ds : List D) (i : Int) : ixM (RT ds) (RI i) s = match atI ds i with
  | some d => .ok (RD d) s
  | none => .bad := rfl
@[simp] theorem e_ixL (ds : List D) (i : Int) : ixM (RD (.lst ds)) (RI i) s = match atI ds i with
  | some d => .ok (RD d) s
  | none => .bad := by
  show (match atI (ds.map SV.dat) i with | some y => Out.ok (RV.sv y) s | none => .bad) = _
  unfold atI
  cases h : ixN ds.length i with
  | none => simp [h]
  | some j => simp only [List.length_map, h, Option.bind_some, List.getElem?_map]; cases ds[j]? <;> rfl
@[simp] theorem e_ixN (xs : List SV) (i : Int) : ixM (.new xs) (RI i) s = match atI xs i with
  | some d => .ok (.sv d) s
  | none => .bad := rfl
@[simp] theorem e_trI (i : Int) : trB s (RI i) = some (i != 0) := rfl
@[simp] theorem e_trB (b : Bool) : trB s (RB b) = some b := rfl
@[simp] theorem e_trN : trB s RN = some false := rfl
@[simp] theorem e_trT (ds : List D) : trB s (RT ds) = some (!ds.isEmpty) := rfl
@[simp] theorem e_trW (xs : List SV) : trB s (.new xs) = some (!xs.isEmpty) := rfl
@[simp] theorem e_trL (ds : List D) : trB s (RD (.lst ds)) = some (!ds.isEmpty) := by
  show (match some (ds.map SV.dat) with | some xs => some (!xs.isEmpty) | none => none) = _
  simp
@[simp] theorem e_isi (t : Ty) (r : RV) : isiM t r s = match tyR s r with
  | some u => .ok (RB (subTy u t)) s
  | none => .bad := rfl
@[simp] theorem e_tyN : tyR s RN = some .none := rfl
@[simp] theorem e_tyB (b) : tyR s (RB b) = some .bool := rfl
@[simp] theorem e_tyI (b) : tyR s (RI b) = some .int := rfl
@[simp] theorem e_tyS (b) : tyR s (RS b) = some .str := rfl
@[simp] theorem e_tyT (b) : tyR s (RT b) = some .tuple := rfl
@[simp] theorem e_tyL (b) : tyR s (RD (.lst b)) = some .list := rfl
@[simp] theorem e_tyW (b) : tyR s (.new b) = some .list := rfl
@[simp] theorem e_notNM (d : D) : notNM (RD d) RN s = .ok (RB (!isNoD d)) s := by cases d <;> rfl
@[simp] theorem e_isNM (d : D) : isNM (RD d) RN s = .ok (RB (isNoD d)) s := by cases d <;> rfl
@[simp] theorem e_deepD (d : D) : deep s (RD d) = some d := rfl
@[simp] theorem e_eqM (x y : RV) : eqM x y s = match deep s x, deep s y with
  | some d, some e => if okD d = true then if okD e = true then .ok (RB (eqD d e)) s else .bad else .bad
  | _, _ => .bad := rfl
@[simp] theorem e_neM (x y : RV) : neM x y s = match deep s x, deep s y with
  | some d, some e => if okD d = true then if okD e = true then .ok (RB (!eqD d e)) s else .bad else .bad
  | _, _ => .bad := rfl
@[simp] theorem e_inC (n : Bool) (x y : RV) : inC n x y s = match deep s x, deep s y with
  | some d, some (.lst es) => if okD d = true then if okD (.lst es) = true then .ok (RB (if n then !(es.any fun z => eqD z d) else es.any fun z => eqD z d)) s else .bad else .bad
  | _, _ => .bad := rfl
@[simp] theorem e_raiseF (c fs mA) : raiseF c fs mA s = bnd mA (fun xs s => match datL xs with
  | some ds => if ds.length = fs.length then .exc ⟨c, (fs.zip ds).reverse⟩ s else .bad
  | none => .bad) s := rfl
@[simp] theorem e_tupG (g n) (ds : List D) : tupG g n (.dat (.tup ds)) s = if ds.length = n then g (ds.map SV.dat) s else .bad := by
  show (if ds.length = n then g (ds.map SV.dat) else stuck) s = _
  split <;> rfl
@[simp] theorem e_consG (f g) (x : SV) (xs : List SV) : consG f g (x :: xs) s = bnd (f x) (fun _ => g xs) s := rfl
@[simp] theorem e_seqT (ds : List D) : seqSrc (RT ds) s = .ok ⟨ds.map SV.dat, none⟩ s := rfl
@[simp] theorem e_seqL (ds : List D) : seqSrc (RD (.lst ds)) s = .ok ⟨ds.map SV.dat, none⟩ s := rfl
@[simp] theorem e_seqN (xs : List SV) : seqSrc (.new xs) s = .ok ⟨xs, none⟩ s := rfl
@[simp] theorem e_forF (mi f b) : forF mi f b s = match mi s with
  | .ok src s' => forL src.Ok f b src.items s'
  | .exc x s' => .exc x s'
  | .bad => .bad := by
  unfold forF bnd
  cases mi s <;> rfl
@[simp] theorem e_runP (n m ds) : runP n m ds = resP (m (startP n ds)) := rfl
@[simp] theorem e_startP (n ds) : startP n ds = ⟨ds.map (fun d => some (.dat d)) ++ List.replicate (n - ds.length) none, [], none⟩ := rfl
@[simp] theorem e_startH (n xs h) : startH n xs h = ⟨xs.map some ++ List.replicate (n - xs.length) none, [], some h⟩ := rfl
@[simp] theorem e_runH (n m xs h) : runH n m xs h = match m (startH n xs h) with
  | .ok f s => match s.hd with
    | some h' => (resP (.ok f s), h')
    | none => (.bad, h)
  | _ => (.bad, h) := rfl
@[simp] theorem e_resP1 : resP (.ok .nx s) = .ret (.dat .non) := rfl
@[simp] theorem e_resP2 (d : D) : resP (.ok (.rt (RD d)) s) = .ret (.dat d) := rfl
@[simp] theorem e_resP3 (xs : List SV) : resP (.ok (.rt (.new xs)) s) = match datL xs with
  | some ds => .ret (.new ds)
  | none => .bad := by
  show (match (match datL xs with | some ds => some (Rs.new ds) | none => none) with | some x => Res.ret x | none => .bad) = _
  cases datL xs <;> rfl
@[simp] theorem e_resP4 (x : Exn) : resP (.exc x s) = .exc x := rfl
end
/-! ### walks over data -/
theorem forL_nil {ok : S → Prop} {f b} {s : S} (h : ok s) : forL ok f b [] s = .ok .nx s := if_pos h
theorem src_ok {l : List SV} {s : S} : (Src.mk l none).Ok s := trivial
@[simp] theorem forL0 {l : List SV} {f b} (s : S) : forL (Src.mk l none).Ok f b [] s = .ok .nx s := if_pos trivial
@[simp] theorem forL1 {l : List SV} {f b} (x : SV) (xs : List SV) (s : S) : forL (Src.mk l none).Ok f b (x :: xs) s = match f x s with
    | .ok _ s1 => match b s1 with
      | .ok .nx s2 => forL (Src.mk l none).Ok f b xs s2
      | .ok .ct s2 => forL (Src.mk l none).Ok f b xs s2
      | .ok .bk s2 => .ok .nx s2
      | .ok (.rt r) s2 => .ok (.rt r) s2
      | .exc x s2 => .exc x s2
      | .bad => .bad
    | _ => .bad := if_pos trivial
end Fd
namespace Fd
open PySem PySem.Spec PyProof.Rows L2
/-! ### == of data -/
def eqDs : List D → List D → Bool
  | [], [] => true
  | x :: xs, y :: ys => eqD x y && eqDs xs ys
  | _, _ => false
theorem pys_eqv : ∀ x y : List D, PyData.eqvAll (D.pys x) (D.pys y) = eqDs x y
  | [], [] => rfl
  | [], _ :: _ => rfl
  | _ :: _, [] => rfl
  | x :: xs, y :: ys => by
    show (PyData.eqv x.py y.py && PyData.eqvAll (D.pys xs) (D.pys ys)) = (eqD x y && eqDs xs ys)
    rw [pys_eqv xs ys]
    rfl
@[simp] theorem eqD_int (a b : Int) : eqD (.int a) (.int b) = decide (a = b) := by
  show (a == b) = _
  by_cases h : a = b <;> simp [h]
@[simp] theorem eqD_str (a b : Str) : eqD (.str a) (.str b) = (a == b) := rfl
@[simp] theorem eqD_tup (a b : List D) : eqD (.tup a) (.tup b) = eqDs a b := pys_eqv a b
@[simp] theorem eqD_lst (a b : List D) : eqD (.lst a) (.lst b) = eqDs a b := pys_eqv a b
@[simp] theorem eqD_bl (a b : Bool) : eqD (.bl a) (.bl b) = (a == b) := rfl
@[simp] theorem eqD_nn : eqD .non .non = true := rfl
@[simp] theorem eqD_ns (x : Str) : eqD .non (.str x) = false := rfl
@[simp] theorem eqD_sn (x : Str) : eqD (.str x) .non = false := rfl
@[simp] theorem eqD_ni (x : Int) : eqD .non (.int x) = false := rfl
@[simp] theorem eqD_in (x : Int) : eqD (.int x) .non = false := rfl
@[simp] theorem eqD_nt (x : List D) : eqD .non (.tup x) = false := rfl
@[simp] theorem eqD_tn (x : List D) : eqD (.tup x) .non = false := rfl
@[simp] theorem eqD_ts (x : List D) (y : Str) : eqD (.tup x) (.str y) = false := rfl
@[simp] theorem eqD_st (x : List D) (y : Str) : eqD (.str y) (.tup x) = false := rfl
@[simp] theorem eqD_it (x : List D) (y : Int) : eqD (.int y) (.tup x) = false := rfl
@[simp] theorem eqD_ti (x : List D) (y : Int) : eqD (.tup x) (.int y) = false := rfl
@[simp] theorem eqD_is (x : Str) (y : Int) : eqD (.int y) (.str x) = false := rfl
@[simp] theorem eqD_si (x : Str) (y : Int) : eqD (.str x) (.int y) = false := rfl
@[simp] theorem eqDs_nil : eqDs [] [] = true := rfl
@[simp] theorem eqDs_cons (x y : D) (xs ys : List D) : eqDs (x :: xs) (y :: ys) = (eqD x y && eqDs xs ys) := rfl
@[simp] theorem eqDs_n1 (y : D) (ys : List D) : eqDs [] (y :: ys) = false := rfl
@[simp] theorem eqDs_n2 (y : D) (ys : List D) : eqDs (y :: ys) [] = false := rfl
/-! ### data that == may see: no object within, not too deep -/
mutual
def D.dep : D → Nat
  | .tup ds => D.deps ds + 1
  | .lst ds => D.deps ds + 1
  | _ => 0
def D.deps : List D → Nat
  | [] => 0
  | d :: ds => max d.dep (D.deps ds)
end
mutual
def D.fine : D → Bool
  | .tup ds => D.fines ds
  | .lst ds => D.fines ds
  | .str x => PyData.canLay0 (.str x)
  | .obj _ _ => false
  | _ => true
def D.fines : List D → Bool
  | [] => true
  | d :: ds => d.fine && D.fines ds
end
end Fd
namespace Fd
open PySem PySem.Spec PyProof.Rows L2
mutual
theorem py_lay : ∀ d : D, d.py.canLay0 = d.fine
  | .non => by simp [D.py, PyData.canLay0, D.fine]
  | .bl _ => by simp [D.py, PyData.canLay0, D.fine]
  | .int _ => by simp [D.py, PyData.canLay0, D.fine]
  | .str _ => by simp [D.py, D.fine]
  | .tup ds => by simp [D.py, PyData.canLay0, D.fine, pys_lay ds]
  | .lst ds => by simp [D.py, PyData.canLay0, D.fine, pys_lay ds]
  | .obj _ _ => by simp [D.py, PyData.canLay0, D.fine]
theorem pys_lay : ∀ ds : List D, PyData.canLayAll0 (D.pys ds) = D.fines ds
  | [] => by simp [D.pys, PyData.canLayAll0, D.fines]
  | d :: ds => by simp [D.pys, PyData.canLayAll0, D.fines, py_lay d, pys_lay ds]
end
mutual
theorem py_dep : ∀ d : D, (∀ c fs, d ≠ .obj c fs) → d.fine = true → d.py.depth = d.dep
  | .non, _, _ => by simp [D.py, PyData.depth, D.dep]
  | .bl _, _, _ => by simp [D.py, PyData.depth, D.dep]
  | .int _, _, _ => by simp [D.py, PyData.depth, D.dep]
  | .str _, _, _ => by simp [D.py, PyData.depth, D.dep]
  | .tup ds, _, h => by simp [D.py, PyData.depth, D.dep, pys_dep ds (by simpa [D.fine] using h)]
  | .lst ds, _, h => by simp [D.py, PyData.depth, D.dep, pys_dep ds (by simpa [D.fine] using h)]
  | .obj _ _, _, h => by simp [D.fine] at h
theorem pys_dep : ∀ ds : List D, D.fines ds = true → PyData.depthAll (D.pys ds) = D.deps ds
  | [], _ => by simp [D.pys, PyData.depthAll, D.deps]
  | d :: ds, h => by
    have h' : d.fine = true ∧ D.fines ds = true := by simpa [D.fines] using h
    have : ∀ c fs, d ≠ .obj c fs := fun c fs e => by rw [e] at h'; simp [D.fine] at h'
    simp [D.pys, PyData.depthAll, D.deps, py_dep d this h'.1, pys_dep ds h'.2]
end
theorem okD_of {d : D} (h : d.fine = true) (hd : d.dep ≤ 64) : okD d = true := by
  unfold okD SeqAt.shaped
  have : ∀ c fs, d ≠ .obj c fs := fun c fs e => by rw [e] at h; simp [D.fine] at h
  rw [py_lay, h, py_dep d this h]
  simpa using hd
theorem fines_all {ds : List D} (h : ∀ d ∈ ds, d.fine = true) : D.fines ds = true := by
  induction ds with
  | nil => rfl
  | cons d ds ih => simp [D.fines, h d (by simp), ih fun x hx => h x (by simp [hx])]
theorem deps_all {ds : List D} {n : Nat} (h : ∀ d ∈ ds, d.dep ≤ n) : D.deps ds ≤ n := by
  induction ds with
  | nil => simp [D.deps]
  | cons d ds ih => 
    have := h d (by simp)
    have := ih fun x hx => h x (by simp [hx])
    simp [D.deps]; omega
@[simp] theorem okD_int (a : Int) : okD (.int a) = true := rfl
@[simp] theorem okD_bl (a : Bool) : okD (.bl a) = true := rfl
@[simp] theorem okD_non : okD .non = true := rfl
@[simp] theorem okD_t2 (a b : Int) : okD (.tup [.int a, .int b]) = true := rfl
@[simp] theorem okD_t3 (a b c : Int) : okD (.tup [.int a, .int b, .int c]) = true := rfl
/-! ### sizes -/
def Bd (n : Nat) (x : Int) : Prop := x.natAbs < 2 ^ n
theorem Bd.mono {n m : Nat} {x : Int} (h : Bd n x) (l : n ≤ m) : Bd m x := Nat.lt_of_lt_of_le h (Nat.pow_le_pow_right (by decide) l)
theorem Bd.mul {n m : Nat} {x y : Int} (h : Bd n x) (k : Bd m y) : Bd (n + m) (x * y) := by
  unfold Bd at *
  rw [Int.natAbs_mul, Nat.pow_add]
  exact Nat.mul_lt_mul'' h k
theorem Bd.add {n m : Nat} {x y : Int} (h : Bd n x) (k : Bd m y) : Bd (max n m + 1) (x + y) := by
  have h' := h.mono (Nat.le_max_left n m)
  have k' := k.mono (Nat.le_max_right n m)
  unfold Bd at *
  have := Int.natAbs_add_le x y
  rw [Nat.pow_succ]; omega
theorem Bd.neg {n : Nat} {x : Int} (h : Bd n x) : Bd n (-x) := by unfold Bd at *; rwa [Int.natAbs_neg]
theorem Bd.sub {n m : Nat} {x y : Int} (h : Bd n x) (k : Bd m y) : Bd (max n m + 1) (x - y) := by
  rw [Int.sub_eq_add_neg]; exact h.add k.neg
theorem Bd.log {n : Nat} {x : Int} (h : Bd n x) : x.natAbs.log2 ≤ n := by
  unfold Bd at h
  by_cases z : x.natAbs = 0
  · rw [z]; simp
  · exact Nat.le_of_lt ((Nat.log2_lt z).mpr h)
theorem Bd.mulC {n m : Nat} {x y : Int} (h : Bd n x) (k : Bd m y) (l : n + m < 100000000 := by omega) : Fd.mulC x y = true := decide_eq_true (by have := h.log; have := k.log; omega)
theorem Bd.divC {n : Nat} {x y : Int} (k : Bd n y) (z : y ≠ 0) (l : n < 9000 := by omega) : Fd.divC x y = true := decide_eq_true ⟨z, by have := k.log; omega⟩
theorem modC_of {x y : Int} (z : y ≠ 0) : Fd.modC x y = true := decide_eq_true z
theorem bd_of {n : Nat} {x : Int} (h1 : -(2 ^ n) < x) (h2 : x < 2 ^ n) : Bd n x := by
  unfold Bd
  have : ((2 ^ n : Nat) : Int) = 2 ^ n := by simp
  omega
theorem bd_le {n : Nat} {x y : Int} (h : Bd n y) (l : x.natAbs ≤ y.natAbs) : Bd n x := Nat.lt_of_le_of_lt l h
end Fd
namespace Fd
open PySem PySem.Spec PyProof.Rows L2
/-! ### takes -/
theorem take_lt {n : Int} (h : Hand) (hn : 0 < n) : 0 ≤ (takeF n h).1 ∧ (takeF n h).1 < n := by
  unfold takeF
  split
  · exact ⟨Int.emod_nonneg _ (by omega), Int.emod_lt_of_pos _ hn⟩
  · exact ⟨Int.emod_nonneg _ (by omega), Int.emod_lt_of_pos _ hn⟩
theorem v_take {n : Int} (h : Hand) (hn : 0 < n ∧ n.natAbs.log2 < 9000) : R_law_take [.hand, .dat (.int n)] h = (.ret (.dat (.int (takeF n h).1)), (takeF n h).2) := by
  show (if 0 < n ∧ n.natAbs.log2 < 9000 then _ else _) = _
  rw [if_pos hn]
@[simp] theorem nr_hand : noRef .hand = true := rfl
@[simp] theorem nr_dat (d : D) : noRef (.dat d) = true := rfl
/-- a take gives some number below n and another hand -/
theorem take_ex {n : Int} (h : Hand) (hn : 0 < n ∧ n.natAbs.log2 < 9000) : ∃ t h', R_law_take [.hand, .dat (.int n)] h = (.ret (.dat (.int t)), h') ∧ 0 ≤ t ∧ t < n :=
  ⟨_, _, v_take h hn, (take_lt h hn.1).1, (take_lt h hn.1).2⟩
theorem lg9 {n : Int} (h : 0 < n ∧ n < 2 ^ 64) : 0 < n ∧ n.natAbs.log2 < 9000 := ⟨h.1, by
  have : Bd 64 n := bd_of (by omega) h.2
  have := this.log
  omega⟩
end Fd
namespace Fd
open PySem PySem.Spec PyProof.Rows L2
section
variable (s : S)
@[simp] theorem e_tryF (mb : M Fl) (es : Nat → Option Bool) (i : Nat) (hf : Exn → M Fl) : tryF mb es i hf s = match mb s with
  | .exc x s1 => match es x.c with
    | some true => if i < s1.env.length then match hf x (clrS i s1) with
      | .ok f s2 => .ok f (clrS i s2)
      | _ => .bad
      else .bad
    | some false => .exc x s1
    | none => .bad
  | o => o := rfl
@[simp] theorem e_fieldH (f : Str) (x : Exn) : fieldH f x s = match x.fs.lookup f with
  | some d => .ok (.rt (RD d)) s
  | none => .bad := by
  unfold fieldH
  cases x.fs.lookup f <;> rfl
@[simp] theorem e_clrS (i : Nat) : clrS i s = { s with env := s.env.set i none } := rfl
@[simp] theorem e_rng1 (j : Int) : rng1 [RI j] s = if -(2 ^ 62) ≤ j ∧ j < 2 ^ 62 then .ok ⟨rangeL 0 j.toNat, none⟩ s else .bad := rfl
@[simp] theorem e_rng2 (i j : Int) : rng2 [RI i, RI j] s = if -(2 ^ 62) ≤ i ∧ i < 2 ^ 62 ∧ -(2 ^ 62) ≤ j ∧ j < 2 ^ 62 then .ok ⟨rangeL i (j - i).toNat, none⟩ s else .bad := rfl
@[simp] theorem e_callK (n np nk F g mA mK) : callK n np nk F g mA mK s = bnd mA (fun xs => bnd mK fun zs s => match datL xs, datL zs with
  | some ds, some es => if ds.length = np ∧ es.length = nk ∧ (g ds es).length = n then toRes (noX (F (g ds es))) s else .bad
  | _, _ => .bad) s := by
  unfold callK bnd
  cases mA s with
  | ok xs s1 =>
    dsimp only
    cases mK s1 with
    | ok zs s2 => 
      dsimp only
      cases datL xs with
      | none => rfl
      | some ds =>
        cases datL zs with
        | none => rfl
        | some es => dsimp only; split <;> rfl
    | exc => rfl
    | bad => rfl
  | exc => rfl
  | bad => rfl
@[simp] theorem e_tupleL (ds : List D) : tupleM [RD (.lst ds)] s = .ok (RT ds) s := by
  simp [tupleM, seqL]
@[simp] theorem e_tupleT (ds : List D) : tupleM [RT ds] s = .ok (RT ds) s := rfl
@[simp] theorem e_tupleN (xs : List SV) : tupleM [.new xs] s = match datL xs with
  | some ds => .ok (RT ds) s
  | none => .bad := rfl
@[simp] theorem e_listT (ds : List D) : listM [RT ds] s = .ok (.new (ds.map SV.dat)) s := rfl
@[simp] theorem e_listL (ds : List D) : listM [RD (.lst ds)] s = .ok (.new (ds.map SV.dat)) s := rfl
@[simp] theorem e_notBM1 (b : Bool) : notBM (RB b) (RB true) s = .ok (RB (!b)) s := by cases b <;> rfl
@[simp] theorem e_wipeS (vs : List Nat) : wipeS vs s = { s with env := wipeE s.env vs } := rfl
@[simp] theorem e_wipeE0 (e : List (Option SV)) : wipeE e [] = e := rfl
@[simp] theorem e_wipeE1 (e : List (Option SV)) (v : Nat) (vs : List Nat) : wipeE e (v :: vs) = (wipeE e vs).set v none := rfl
@[simp] theorem e_lcM (mi vs f tt me) : lcM mi vs f tt me s = match mi s with
  | .ok src s' => lcL src.Ok vs f tt me src.items [] (wipeS vs s')
  | .exc x s' => .exc x s'
  | .bad => .bad := by
  unfold lcM bnd
  cases mi s <;> rfl
@[simp] theorem e_setLcZ (i mi vs f tt me) : setLcZ i mi vs f tt me s = bnd (lcM mi vs f tt me) (fun r s => match r with
  | .new xs => match datL xs with
    | some ds => .ok .nx { s with env := s.env.set i (some (.dat (.lst ds))) }
    | none => .bad
  | _ => .bad) s := rfl
end
theorem lcL_none {l : List SV} {vs : List Nat} {f : SV → M Unit} {tt : M Bool} {me : M RV} {st : S} : ∀ (xs acc : List SV), (∀ x ∈ xs, ∃ s1 s2, f x st = .ok () s1 ∧ tt s1 = .ok false s2 ∧ wipeS vs s2 = st) → lcL (Src.mk l none).Ok vs f tt me xs acc st = .ok (.new acc) st := by
  intro xs
  induction xs with
  | nil => intro acc _; exact if_pos trivial
  | cons x xs ih =>
    intro acc h
    obtain ⟨s1, s2, h1, h2, h3⟩ := h x (by simp)
    unfold lcL
    rw [if_pos src_ok, h1]
    simp only [h2, h3]
    exact ih acc fun y hy => h y (by simp [hy])
theorem lcL_all {l : List SV} {vs : List Nat} {f : SV → M Unit} {tt : M Bool} {me : M RV} (I : List SV → S → Prop) : ∀ (xs acc : List SV) (st : S), I acc st → acc.length + xs.length ≤ 100000 →
    (∀ x ∈ xs, ∀ acc st, I acc st → ∃ s1 s2 s3 y, f x st = .ok () s1 ∧ tt s1 = .ok true s2 ∧ me s2 = .ok (.sv y) s3 ∧ I (acc ++ [y]) (wipeS vs s3)) →
    ∃ acc' st', lcL (Src.mk l none).Ok vs f tt me xs acc st = .ok (.new acc') st' ∧ I acc' st' ∧ acc'.length = acc.length + xs.length := by
  intro xs
  induction xs with
  | nil => intro acc st hi _ _; exact ⟨acc, st, if_pos trivial, hi, by simp⟩
  | cons x xs ih =>
    intro acc st hi hl h
    obtain ⟨s1, s2, s3, y, h1, h2, h3, h4⟩ := h x (by simp) acc st hi
    obtain ⟨acc', st', e1, e2, e3⟩ := ih (acc ++ [y]) (wipeS vs s3) h4 (by simp at hl ⊢; omega) fun z hz => h z (by simp [hz])
    refine ⟨acc', st', ?_, e2, by rw [e3]; simp; omega⟩
    conv => lhs; unfold lcL
    rw [if_pos src_ok, h1]
    simp only [h2, h3]
    rw [if_pos (by simp at hl; omega)]
    exact e1
theorem rangeL_cons (lo : Int) (n : Nat) : rangeL lo (n + 1) = .dat (.int lo) :: rangeL (lo + 1) n := by
  unfold rangeL
  rw [List.range_succ_eq_map, List.map_cons, List.map_map]
  simp only [Function.comp_def]
  congr 1
  · simp
  · refine List.map_congr_left fun i _ => ?_
    congr 2
    simp; omega
@[simp] theorem rangeL_len (lo : Int) (n : Nat) : (rangeL lo n).length = n := by simp [rangeL]
end Fd
namespace Fd
open PySem PySem.Spec PyProof.Rows L2
section
variable (s : S)
@[simp] theorem e_addLN (x : List D) (y : List SV) : addM (RD (.lst x)) (.new y) s = if x.length + y.length ≤ 100000 then .ok (.new (x.map SV.dat ++ y)) s else .bad := by simp [addM, seqL]
@[simp] theorem e_addNL (x : List SV) (y : List D) : addM (.new x) (RD (.lst y)) s = if x.length + y.length ≤ 100000 then .ok (.new (x ++ y.map SV.dat)) s else .bad := by simp [addM, seqL]
@[simp] theorem e_addLL (x y : List D) : addM (RD (.lst x)) (RD (.lst y)) s = if x.length + y.length ≤ 100000 then .ok (.new (x.map SV.dat ++ y.map SV.dat)) s else .bad := by simp [addM, seqL]
@[simp] theorem e_addNN (x y : List SV) : addM (.new x) (.new y) s = if x.length + y.length ≤ 100000 then .ok (.new (x ++ y)) s else .bad := by simp [addM, seqL]
end
end Fd
set_option Elab.async false
set_option linter.all false
set_option maxRecDepth 100000
set_option maxHeartbeats 4000000
namespace Fd
open PySem PySem.Spec PyProof.Rows L2
/-! ## ratios -/
def gI (a b : Int) : Int := ((Nat.gcd a.natAbs b.natAbs : Nat) : Int)
def nT (a b : Int) : Int := (if b < 0 then -a else a) / gI a b
def nB (a b : Int) : Int := (if b < 0 then -b else b) / gI a b
theorem gI_dvd_left (a b : Int) : gI a b ∣ a := Int.gcd_dvd_left a b
theorem gI_dvd_right (a b : Int) : gI a b ∣ b := Int.gcd_dvd_right a b
theorem gI_pos {a b : Int} (h : b ≠ 0) : 0 < gI a b := by
  unfold gI
  have : 0 < Nat.gcd a.natAbs b.natAbs := Nat.gcd_pos_of_pos_right _ (by omega)
  omega
theorem gI_nonneg (a b : Int) : 0 ≤ gI a b := by unfold gI; omega
theorem low_T (a b : Int) : (if b < 0 then -a else a).fdiv (gI a b) = nT a b := Int.fdiv_eq_ediv_of_nonneg _ (gI_nonneg _ _)
theorem low_B (a b : Int) : (if b < 0 then -b else b).fdiv (gI a b) = nB a b := Int.fdiv_eq_ediv_of_nonneg _ (gI_nonneg _ _)
theorem law_T (a b : Int) : a.fdiv (if b < 0 then -(gI a b) else gI a b) = nT a b := by
  rw [← low_T]
  split
  · rw [← Int.neg_fdiv_neg, Int.neg_neg]
  · rfl
theorem law_B (a b : Int) : b.fdiv (if b < 0 then -(gI a b) else gI a b) = nB a b := by
  rw [← low_B]
  split
  · rw [← Int.neg_fdiv_neg, Int.neg_neg]
  · rfl
theorem nB_pos {a b : Int} (h : b ≠ 0) : 0 < nB a b := by
  unfold nB
  refine Int.ediv_pos_of_pos_of_dvd (by split <;> omega) (gI_nonneg _ _) ?_
  split
  · exact Int.dvd_neg.mpr (gI_dvd_right a b)
  · exact gI_dvd_right a b
theorem n_gcd {a b : Int} (h : b ≠ 0) : gI (nT a b) (nB a b) = 1 := by
  have hp := gI_pos (a := a) h
  have key : ∀ x y : Int, gI x y = gI a b → gI (x / gI a b) (y / gI a b) = 1 := fun x y e => by
    have h1 : 0 < Int.gcd x y := by
      have : (0 : Int) < gI x y := by rw [e]; exact hp
      unfold gI at this
      show 0 < Nat.gcd x.natAbs y.natAbs
      omega
    have := Int.gcd_ediv_gcd_ediv_gcd h1
    rw [← e]
    unfold gI
    show (((x / (Int.gcd x y : Int)).gcd (y / (Int.gcd x y : Int)) : Nat) : Int) = 1
    rw [this]; rfl
  unfold nT nB
  refine key _ _ ?_
  unfold gI
  split <;> simp [Int.natAbs_neg]
theorem n_scale {a b f : Int} (h : 0 < f) : nT (a * f) (b * f) = nT a b ∧ nB (a * f) (b * f) = nB a b := by
  have hs : (b * f < 0) = (b < 0) := by
    refine propext ⟨fun z => ?_, fun z => Int.mul_neg_of_neg_of_pos z h⟩
    by_cases c : b < 0
    · exact c
    · exact absurd (Int.mul_nonneg (Int.not_lt.mp c) (Int.le_of_lt h)) (by omega)
  have hg : gI (a * f) (b * f) = gI a b * f := by
    unfold gI
    have := Int.gcd_mul_right a f b
    show ((Int.gcd (a * f) (b * f) : Nat) : Int) = _
    rw [Int.gcd_mul_right]
    show ((Nat.gcd a.natAbs b.natAbs * f.natAbs : Nat) : Int) = _
    rw [Int.natCast_mul, Int.natAbs_of_nonneg (Int.le_of_lt h)]
  unfold nT nB
  simp only [hs]
  rw [hg]
  constructor
  · split
    · rw [← Int.neg_mul, Int.mul_ediv_mul_of_pos_left _ _ h]
    · rw [Int.mul_ediv_mul_of_pos_left _ _ h]
  · split
    · rw [← Int.neg_mul, Int.mul_ediv_mul_of_pos_left _ _ h]
    · rw [Int.mul_ediv_mul_of_pos_left _ _ h]
theorem nT_le (a b : Int) : (nT a b).natAbs ≤ a.natAbs := by
  unfold nT
  refine Nat.le_trans (Int.natAbs_ediv_le_natAbs _ _) ?_
  split <;> simp
theorem nB_le (a b : Int) : (nB a b).natAbs ≤ b.natAbs := by
  unfold nB
  refine Nat.le_trans (Int.natAbs_ediv_le_natAbs _ _) ?_
  split <;> simp
theorem gI_le {a b : Int} (h : b ≠ 0) : (gI a b).natAbs ≤ b.natAbs := by
  unfold gI
  have := Nat.gcd_le_right a.natAbs (show 0 < b.natAbs by omega)
  omega
theorem n_one (a : Int) : nT a 1 = a ∧ nB a 1 = 1 := by
  unfold nT nB gI
  simp
/-! ### the loop that finds the gcd -/
theorem gcd_step (x y : Nat) : Nat.gcd y (x % y) = Nat.gcd x y := by
  rw [Nat.gcd_comm y, ← Nat.gcd_rec, Nat.gcd_comm]
theorem mod_half {y r : Nat} (h : r < y) (h0 : 0 < r) : 2 * (y % r) < y := by
  have h1 := Nat.mod_lt y h0
  have h2 := Nat.div_add_mod y r
  have h3 : 1 ≤ y / r := (Nat.le_div_iff_mul_le h0).mpr (by omega)
  have h4 : r * 1 ≤ r * (y / r) := Nat.mul_le_mul_left r h3
  omega
theorem whileL_gcd {tc : M Bool} {b : M Fl} (stt : Int → Int → S) (ht : ∀ x y, tc (stt x y) = .ok (y != 0) (stt x y)) (hb : ∀ x y, y ≠ 0 → b (stt x y) = .ok .nx (stt y (x.fmod y))) :
    ∀ (k : Nat) (x y : Nat) (n : Nat), y < 2 ^ k → 2 * k + 1 ≤ n → whileL tc b n (stt x y) = .ok .nx (stt ((Nat.gcd x y : Nat) : Int) 0) := by
  have hz : ∀ (x : Nat) n, whileL tc b (n + 1) (stt x 0) = .ok .nx (stt ((Nat.gcd x 0 : Nat) : Int) 0) := fun x n => by
    unfold whileL
    rw [ht]; simp
  have hs : ∀ (x y : Nat) n, y ≠ 0 → whileL tc b (n + 1) (stt x y) = whileL tc b n (stt y ((x % y : Nat) : Int)) := fun x y n hy => by
    have hy' : (y : Int) ≠ 0 := by omega
    conv => lhs; unfold whileL
    rw [ht]
    have e1 : ((y : Int) != 0) = true := by simpa using hy
    rw [e1]
    simp only
    rw [hb _ _ hy']
    simp only
    rw [Int.fmod_eq_emod_of_nonneg _ (by omega)]
    rfl
  intro k
  induction k with
  | zero =>
    intro x y n hy hn
    obtain rfl : y = 0 := by simpa using hy
    obtain ⟨m, rfl⟩ : ∃ m, n = m + 1 := ⟨n - 1, by omega⟩
    exact hz x m
  | succ k ih =>
    intro x y n hy hn
    obtain ⟨m, rfl⟩ : ∃ m, n = m + 2 := ⟨n - 2, by omega⟩
    by_cases h0 : y = 0
    · subst h0; exact hz x _
    · rw [hs x y _ h0]
      by_cases h1 : x % y = 0
      · rw [h1]
        have := hz y m
        have e : Nat.gcd y 0 = Nat.gcd x y := by rw [← gcd_step x y, h1]
        rw [e] at this
        exact this
      · rw [hs y (x % y) _ h1, ih _ _ _ ?_ (by omega), gcd_step, gcd_step]
        have := mod_half (Nat.mod_lt x (Nat.pos_of_ne_zero h0)) (Nat.pos_of_ne_zero h1)
        rw [Nat.pow_succ] at hy
        omega
end Fd
namespace Fd
open PySem PySem.Spec PyProof.Rows L2
theorem atI_mem {α : Type} (xs : List α) {i : Int} (h0 : 0 ≤ i) (h1 : i < xs.length) : ∃ d, d ∈ xs ∧ atI xs i = some d := by
  refine ⟨xs[i.toNat]'(by omega), List.getElem_mem _, ?_⟩
  unfold atI ixN
  simp [h0, h1]
theorem gI_two (t : Int) : gI (t * 2) 2 = 2 ∧ gI (2 * t) 2 = 2 := by
  unfold gI
  constructor
  · rw [Int.natAbs_mul, show (2 : Int).natAbs = 2 from rfl, Nat.gcd_eq_right (Nat.dvd_mul_left 2 _)]; rfl
  · rw [Int.natAbs_mul, show (2 : Int).natAbs = 2 from rfl, Nat.gcd_eq_right (Nat.dvd_mul_right 2 _)]; rfl
theorem gI_dbl (a b : Int) : gI (a * 2) (b * 2) = gI a b * 2 := by
  unfold gI
  rw [Int.natAbs_mul, Int.natAbs_mul, show (2 : Int).natAbs = 2 from rfl, Nat.gcd_mul_right, Int.natCast_mul]; rfl
def qadd (p q : Int × Int) : Int × Int := (nT (p.1 * q.2 + q.1 * p.2) (p.2 * q.2), nB (p.1 * q.2 + q.1 * p.2) (p.2 * q.2))
def qle (p q : Int × Int) : Prop := p.1 * q.2 ≤ q.1 * p.2
theorem qle_refl (p : Int × Int) : qle p p := Int.le_refl _
theorem qle_trans {p q r : Int × Int} (hp : 0 < p.2) (hq : 0 < q.2) (hr : 0 < r.2) (h1 : qle p q) (h2 : qle q r) : qle p r := by
  unfold qle at *
  have a1 := Int.mul_le_mul_of_nonneg_right h1 (Int.le_of_lt hr)
  have a2 := Int.mul_le_mul_of_nonneg_right h2 (Int.le_of_lt hp)
  refine Int.le_of_mul_le_mul_left (a := q.2) ?_ hq
  have e1 : q.2 * (p.1 * r.2) = p.1 * q.2 * r.2 := by rw [← Int.mul_assoc, Int.mul_comm q.2 p.1]
  have e2 : q.1 * p.2 * r.2 = q.1 * r.2 * p.2 := Int.mul_right_comm _ _ _
  have e3 : q.2 * (r.1 * p.2) = r.1 * q.2 * p.2 := by rw [← Int.mul_assoc, Int.mul_comm q.2 r.1]
  rw [e1, e3]
  rw [e2] at a1
  exact Int.le_trans a1 a2
theorem qle_total (p q : Int × Int) : ¬ qle p q → qle q p := fun h => Int.le_of_lt (Int.not_le.mp h)
/-- good rows of ratios -/
def Gq (n : Nat) (q : Int × Int) : Prop := Bd n q.1 ∧ Bd n q.2 ∧ 0 < q.2
theorem qadd_good {n m : Nat} {p q : Int × Int} (h : Gq n p) (k : Gq m q) : Gq (n + m + 1) (qadd p q) := by
  obtain ⟨a, b, c⟩ := h
  obtain ⟨d, e, f⟩ := k
  refine ⟨bd_le ((a.mul e).add (d.mul b)) (nT_le _ _) |>.mono (by omega), bd_le (b.mul e) (nB_le _ _) |>.mono (by omega), nB_pos (Int.mul_ne_zero (by omega) (by omega))⟩
end Fd
namespace Fd
open PySem PySem.Spec PyProof.Rows L2
theorem atI_map {α β : Type} (f : α → β) {xs : List α} {i : Int} {x : α} (h : atI xs i = some x) : atI (xs.map f) i = some (f x) := by
  unfold atI at *
  rw [List.length_map]
  cases e : ixN xs.length i with
  | none => rw [e] at h; cases h
  | some j => rw [e] at h; simp at h ⊢; exact ⟨x, h, rfl⟩
end Fd
set_option Elab.async false
set_option linter.all false
set_option maxRecDepth 100000
set_option maxHeartbeats 4000000
namespace Fd
open PySem PySem.Spec PyProof.Rows L2
section
variable {X : Cx} {ct : Nat → Addr} {W : WX} {pos : Pos} {e : Expr} {m : M RV}
/-! ## text that is never reached: its meaning is stuck -/
theorem ed_dead : ED X ct W e stuck := ⟨fun _ _ _ => False, ⟨fun _ _ _ _ _ _ h => False.elim h⟩, fun _ _ _ _ _ _ g => g⟩
theorem td_dead : TD X ct W e stuck := ⟨fun _ _ _ => False, ⟨fun _ _ _ _ _ _ h => False.elim h⟩, fun _ _ _ _ _ _ g => g⟩
theorem sd_dead {st : Stmt} : SD X ct W st stuck := ⟨fun _ _ _ => False, ⟨fun _ _ _ _ _ _ h => False.elim h⟩, fun _ _ _ _ _ _ g => g⟩
theorem sds_dead {st : List Stmt} : SDs X ct W st stuck := ⟨fun _ _ _ => False, ⟨fun _ _ _ _ _ _ h => False.elim h⟩, fun _ _ _ _ _ _ g => g⟩
/-! ## isinstance(e, (T, U)) -/
theorem tyX_step {K : PySem.W.Frag} {ct : Nat → Addr} {γ : G} {s : S} {H H0 : Hp} {σ : L2.St} (R : Rep K ct γ H σ s) {v : V} {x : RV} {u : Ty} {p : Addr} {o : HO} (e1 : tyR s x = some u) (q : RepR K ct γ s H0 H v x) (hp : H p = none) : TyX K (upd H p o) v (.type u.nm) :=
  tyR_rep (R.laid hp) e1 (RepR.mono (Step.laid hp) q)
theorem ed_isi2 {p p2 p3 tpos : Pos} {x y : Str} {k : Nat} (t t' : Ty) (ht : t ≠ .none) (ht' : t' ≠ .none) (hg : Gl X "isinstance") (hm : X.mg "isinstance" = none) (h : ED X ct W e m) (hx : PE X (.Name x p2) (tC (.ty t.nm))) (hy : PE X (.Name y p3) (tC (.ty t'.nm)))
    (he : starEach [e, .Tuple [.Name x p2, .Name y p3] k tpos] X.env = (false, eval e X.env) :: starEach [.Tuple [.Name x p2, .Name y p3] k tpos] X.env := by rfl) (hpl : (backTo pos (starEach [.Tuple [.Name x p2, .Name y p3] k tpos] X.env)).any (·.1) = false := by rfl)
    (he2 : starEach [.Tuple [.Name x p2, .Name y p3] k tpos] X.env = (false, eval (.Tuple [.Name x p2, .Name y p3] k tpos) X.env) :: starEach [] X.env := by rfl)
    (he3 : starEach [.Name x p2, .Name y p3] X.env = (false, eval (.Name x p2) X.env) :: starEach [.Name y p3] X.env := by rfl) (he4 : starEach [.Name y p3] X.env = (false, eval (.Name y p3) X.env) :: starEach [] X.env := by rfl) :
    ED X ct W (.Call (.Name "isinstance" p) [e, .Tuple [.Name x p2, .Name y p3] k tpos] [] pos) (bnd m (isiM2 t t')) := by
  obtain ⟨te, pe, r⟩ := h.ex
  refine ⟨_, pe_callB call_isiT hg hm boot_isinstance (pa_cons pe (pa_cons (pe_tup (pa_cons hx (pa_cons hy pa_nil he4) he3)) pa_nil he2) he) (he := he) (hpl := hpl), fun σ H γ s Q R h => ?_⟩
  refine r σ H γ s _ R (use_e h (fun _ _ z => z) fun x s1 v γ1 H1 t1 R1 q1 g => ?_)
  unfold isiM2 at g
  cases e1 : tyR s1 x with
  | none => simp only [e1] at g; exact False.elim g
  | some u =>
    simp only [e1] at g
    refine ⟨Nat.le_of_lt (show 2 < sizeLine from small1000 (by decide)), fun q nq => ?_⟩
    exact ⟨v, q, _, .type u.nm, [.type t.nm, .type t'.nm], subTy u t || subTy u t', rfl, upd_same, .cons (.ty _) (.cons (.ty _) .nil), tyX_step R1 e1 q1 nq, kitAny2 ht ht', g _ γ1 _ (t1.trans (Step.laid nq)) (R1.laid nq) (repB _)⟩
@[simp] theorem e_isi2 (s : S) (t t' : Ty) (r : RV) : isiM2 t t' r s = match tyR s r with
  | some u => .ok (RB (subTy u t || subTy u t')) s
  | none => .bad := rfl
/-! ## isqrt -/
def rIsq : List V → Hp → VK → Prop := fun vs H Q => ∃ a : Int, vs = [.int a] ∧ 0 ≤ a ∧ a < 2 ^ 64 ∧ Q (.int ((Float64.isqrt a.toNat : Nat) : Int)) H
theorem cr_isqrt : CallR X (.builtin "math.isqrt") rIsq := by
  intro pins s σ H vs us Q I r h
  obtain ⟨a, rfl, h0, h1, q⟩ := h
  cases r with
  | cons r1 r2 =>
    cases r2
    obtain ⟨t, rfl⟩ := r1
    exact PySem.W.mg_isqrt h0 h1 ⟨.int _, H, I.tok _, ⟨_, rfl⟩, q⟩
def isqM : List RV → M RV
  | [.sv (.dat (.int i))] => fun s => if 0 ≤ i ∧ i < 2 ^ 64 then .ok (RI ((Float64.isqrt i.toNat : Nat) : Int)) s else .bad
  | _ => stuck
theorem isqM_ok : CallOk X ct rIsq isqM := by
  intro W σ γ s H Ha vs rs Q R q h
  unfold isqM at h
  split at h
  · rename_i i
    cases q with
    | cons q1 q2 =>
      cases q2
      by_cases c : 0 ≤ i ∧ i < 2 ^ 64
      · rw [if_pos c] at h
        exact ⟨i, by rw [rep_int q1], c.1, c.2, h _ γ H Step.refl R (repI _)⟩
      · rw [if_neg c] at h; exact False.elim h
  · exact False.elim h
@[simp] theorem e_isqM (s : S) (i : Int) : isqM [RI i] s = if 0 ≤ i ∧ i < 2 ^ 64 then .ok (RI ((Float64.isqrt i.toNat : Nat) : Int)) s else .bad := rfl
end
/-! ## constants of the module: None, tuples of tuples -/
section
variable {K : PySem.W.Frag} {ct : Nat → Addr} {mg : Str → Option Value} {h : Heap}
theorem csT_non {x : Str} (KX : K.In h) (G : h.Ns mainGlobals mg) (e : PySem.W.nsIn K mainGlobals x = some (some .none)) : CsT K mg ct x .non :=
  ⟨.non, _, PySem.W.mg_of KX G e, rfl, fun H => .non⟩
theorem repD_tupK {a : Addr} {c2 : Option Addr} {its : Array Value} {n : Nat} {sl : Array (Option Value)} {vs : List V} {ds : List D} (l : K.lookup a = some ⟨.type "tuple", c2, .seq its n, sl⟩) (hl : its.size ≤ 1000) (hv : Vals vs its.toList) (hr : ∀ H, RepDs K ct H vs ds) : ∀ H, RepD K ct H (.ref a) (.tup ds) :=
  fun H => .tup (sqT_K l rfl rfl hl hv) (hr H)
theorem csT_tt {x : Str} {a b c : Addr} {c2 c3 c4 : Option Addr} {its jts kts : Array Value} {n n2 n3 : Nat} {sl sl2 sl3 : Array (Option Value)} {us ws : List V} {ds es : List D} (KX : K.In h) (G : h.Ns mainGlobals mg) (e : PySem.W.nsIn K mainGlobals x = some (some (.ref a))) (l : K.lookup a = some ⟨.type "tuple", c2, .seq its n, sl⟩)
    (hi : its.toList = [.ref b, .ref c]) (l2 : K.lookup b = some ⟨.type "tuple", c3, .seq jts n2, sl2⟩) (l3 : K.lookup c = some ⟨.type "tuple", c4, .seq kts n3, sl3⟩) (hl : its.size ≤ 1000) (hl2 : jts.size ≤ 1000) (hl3 : kts.size ≤ 1000)
    (hv : Vals us jts.toList) (hw : Vals ws kts.toList) (hr : ∀ H, RepDs K ct H us ds) (hr2 : ∀ H, RepDs K ct H ws es) : CsT K mg ct x (.tup [.tup ds, .tup es]) :=
  ⟨.ref a, _, PySem.W.mg_of KX G e, rfl, fun H => .tup (vs := [.ref b, .ref c]) (sqT_K l rfl rfl hl (by rw [hi]; exact .cons rfl (.cons rfl .nil))) (.cons (repD_tupK l2 hl2 hv hr H) (.cons (repD_tupK l3 hl3 hw hr2 H) .nil))⟩
end
end Fd
namespace Fd
open PySem PySem.Spec PyProof.Rows L2
section
variable {X : Cx} {ct : Nat → Addr} {W : WX} {pos : Pos} {e : Expr} {m : M RV} {es : List Expr}
/-! ## x, y = e, e a tuple or a list -/
theorem pg_or {tg : Expr} {g1 g2 : TG} (h1 : PG X tg g1) (h2 : PG X tg g2) : PG X tg (fun v σ H Q => g1 v σ H Q ∨ g2 v σ H Q) :=
  ⟨fun pins s σ H v u Q I r h => h.elim (h1.run pins s σ H v u Q I r) (h2.run pins s σ H v u Q I r)⟩
def seqG (g : List SV → M Unit) (n : Nat) (x : SV) : M Unit := match x with
  | .dat (.tup ds) => if ds.length = n then g (ds.map SV.dat) else stuck
  | .dat (.lst ds) => if ds.length = n then g (ds.map SV.dat) else stuck
  | _ => stuck
theorem gd_seq {is : List Nat} {k n : Nat} {g : List SV → M Unit} (hc : X.calm = true) (h : GDs X ct es is g) (hn : (assignEach es X.env).length = n := by rfl) (hst : (assignEach es X.env).findIdx? (·.1) = none := by rfl) : GD X ct (.Tuple es k pos) is (seqG g n) := by
  obtain ⟨t, p, r⟩ := h.ex
  refine ⟨_, pg_or (pg_tup hc p hn hst) (pg_lst hc p hn hst), fun σ H γ s v x Q R q h => ?_⟩
  unfold seqG at h
  split at h
  · rename_i ds
    obtain ⟨a, vs, e1, hq, w⟩ := tup_rep (s := s) (H0 := H) (γ := γ) (show RepR X.K ct γ s H H v (RT ds) from q)
    by_cases c : ds.length = n
    · rw [if_pos c] at h
      exact .inl ⟨a, vs, e1, hq, by rw [w.length]; exact c, r σ H γ s vs _ Q R (rep_map w) h⟩
    · rw [if_neg c] at h; exact False.elim h
  · rename_i ds
    have q' : RepD X.K ct H v (.lst ds) := q
    cases q' with
    | lst hq w =>
      by_cases c : ds.length = n
      · rw [if_pos c] at h
        exact .inr ⟨_, _, rfl, hq.sq, by rw [w.length]; exact c, r σ H γ s _ _ Q R (rep_map w) h⟩
      · rw [if_neg c] at h; exact False.elim h
  · exact False.elim h
@[simp] theorem e_seqGt (s : S) (g n) (ds : List D) : seqG g n (.dat (.tup ds)) s = if ds.length = n then g (ds.map SV.dat) s else .bad := by
  show (if ds.length = n then g (ds.map SV.dat) else stuck) s = _
  split <;> rfl
@[simp] theorem e_seqGl (s : S) (g n) (ds : List D) : seqG g n (.dat (.lst ds)) s = if ds.length = n then g (ds.map SV.dat) s else .bad := by
  show (if ds.length = n then g (ds.map SV.dat) else stuck) s = _
  split <;> rfl
end
end Fd
set_option Elab.async false
set_option linter.all false
set_option maxRecDepth 100000
set_option maxHeartbeats 4000000
namespace Fd
open PySem PySem.Spec PyProof.Rows L2
/-! ## ratios as rational numbers -/
theorem normN (a : Int) (d : Nat) (h : d ≠ 0) : (Rat.normalize a d h).num = a / gI a d ∧ ((Rat.normalize a d h).den : Int) = (d : Int) / gI a d := by
  rw [Rat.normalize_eq]
  unfold gI
  constructor
  · show a / _ = _
    rfl
  · show ((d / a.natAbs.gcd d : Nat) : Int) = _
    rw [Int.natCast_ediv]; rfl
theorem nq {a b : Int} (hb : b ≠ 0) : nT a b = ((a : Rat) / (b : Rat)).num ∧ nB a b = (((a : Rat) / (b : Rat)).den : Int) := by
  rw [← Rat.divInt_eq_div]
  unfold nT nB
  match b, hb with
  | Int.ofNat d, hb =>
    have hd : d ≠ 0 := fun z => hb (by rw [z]; rfl)
    have e : Rat.divInt a (Int.ofNat d) = Rat.normalize a d hd := by
      show mkRat a d = _
      unfold mkRat
      rw [dif_neg hd]
    rw [e]
    have := normN a d hd
    rw [if_neg (by simp), if_neg (by simp)]
    exact ⟨this.1.symm, this.2.symm⟩
  | Int.negSucc d, hb =>
    have e : Rat.divInt a (Int.negSucc d) = Rat.normalize (-a) d.succ (Nat.succ_ne_zero d) := rfl
    rw [e]
    have := normN (-a) d.succ (Nat.succ_ne_zero d)
    have hn : Int.negSucc d < 0 := Int.negSucc_lt_zero d
    rw [if_pos hn, if_pos hn]
    have hg : gI a (Int.negSucc d) = gI (-a) (d.succ : Nat) := by unfold gI; rw [Int.natAbs_neg]; rfl
    rw [hg]
    exact ⟨this.1.symm, this.2.symm⟩
/-- a ratio's data -/
def qr (r : Rat) : D := .tup [.int r.num, .int r.den]
theorem qr_of {a b : Int} (hb : b ≠ 0) : D.tup [.int (nT a b), .int (nB a b)] = qr ((a : Rat) / (b : Rat)) := by
  rw [(nq hb).1, (nq hb).2]; rfl
@[simp] theorem eqD_qr (r s : Rat) : eqD (qr r) (qr s) = decide (r = s) := by
  unfold qr
  simp only [eqD_tup, eqDs_cons, eqDs_nil, eqD_int, Bool.and_true]
  by_cases h : r = s
  · subst h; simp
  · have : ¬ (r.num = s.num ∧ r.den = s.den) := fun z => h (Rat.ext z.1 z.2)
    simp only [h, decide_false]
    by_cases h1 : r.num = s.num
    · have h2 : ¬ r.den = s.den := fun z => this ⟨h1, z⟩
      have h3 : ¬ ((r.den : Int) = s.den) := by omega
      simp [h1, h3]
    · simp [h1]
@[simp] theorem no_qr (r : Rat) : isNoD (qr r) = false := rfl
@[simp] theorem okD_qr (r : Rat) : okD (qr r) = true := rfl
theorem den_pos (r : Rat) : (0 : Int) < r.den := by have := r.den_pos; omega
theorem den_nz (r : Rat) : (r.den : Int) ≠ 0 := by have := r.den_pos; omega
theorem rat_eq (r : Rat) : r = (r.num : Rat) / ((r.den : Int) : Rat) := by
  have h := Rat.divInt_eq_div r.num r.den
  rw [← h, Rat.divInt_ofNat]
  exact (Rat.mkRat_self r).symm
theorem qr_gcd (r : Rat) : gI r.num r.den = 1 := by
  have := r.reduced
  unfold gI
  show ((Nat.gcd r.num.natAbs r.den : Nat) : Int) = 1
  rw [this]; rfl
theorem denQ_nz (r : Rat) : ((r.den : Int) : Rat) ≠ 0 := fun z => den_nz r (Rat.intCast_eq_zero_iff.mp z)
theorem q_add (r s : Rat) : ((r.num * s.den + s.num * r.den : Int) : Rat) / ((r.den * s.den : Int) : Rat) = r + s := by
  have h1 := denQ_nz r
  have h2 := denQ_nz s
  have e1 := rat_eq r
  have e2 := rat_eq s
  rw [Rat.intCast_add, Rat.intCast_mul, Rat.intCast_mul, Rat.intCast_mul]
  generalize ((r.den : Int) : Rat) = d1 at *
  generalize ((s.den : Int) : Rat) = d2 at *
  generalize (r.num : Rat) = a1 at *
  generalize (s.num : Rat) = a2 at *
  subst e1; subst e2
  grind
theorem q_sub (r s : Rat) : ((r.num * s.den - s.num * r.den : Int) : Rat) / ((r.den * s.den : Int) : Rat) = r - s := by
  have h1 := denQ_nz r
  have h2 := denQ_nz s
  have e1 := rat_eq r
  have e2 := rat_eq s
  rw [Int.sub_eq_add_neg, Rat.intCast_add, Rat.intCast_neg, Rat.intCast_mul, Rat.intCast_mul, Rat.intCast_mul]
  generalize ((r.den : Int) : Rat) = d1 at *
  generalize ((s.den : Int) : Rat) = d2 at *
  generalize (r.num : Rat) = a1 at *
  generalize (s.num : Rat) = a2 at *
  subst e1; subst e2
  grind
theorem q_mul (r s : Rat) : ((r.num * s.num : Int) : Rat) / ((r.den * s.den : Int) : Rat) = r * s := by
  have h1 := denQ_nz r
  have h2 := denQ_nz s
  have e1 := rat_eq r
  have e2 := rat_eq s
  rw [Rat.intCast_mul, Rat.intCast_mul]
  generalize ((r.den : Int) : Rat) = d1 at *
  generalize ((s.den : Int) : Rat) = d2 at *
  generalize (r.num : Rat) = a1 at *
  generalize (s.num : Rat) = a2 at *
  subst e1; subst e2
  grind
theorem num_nz {s : Rat} (h : s ≠ 0) : s.num ≠ 0 := fun z => h (Rat.num_eq_zero.mp z)
theorem q_div (r s : Rat) (hs : s ≠ 0) : ((r.num * s.den : Int) : Rat) / ((r.den * s.num : Int) : Rat) = r / s := by
  have h1 := denQ_nz r
  have h2 := denQ_nz s
  have h3 : (s.num : Rat) ≠ 0 := fun z => num_nz hs (Rat.intCast_eq_zero_iff.mp z)
  have e1 := rat_eq r
  have e2 := rat_eq s
  rw [Rat.intCast_mul, Rat.intCast_mul]
  generalize ((r.den : Int) : Rat) = d1 at *
  generalize ((s.den : Int) : Rat) = d2 at *
  generalize (r.num : Rat) = a1 at *
  generalize (s.num : Rat) = a2 at *
  subst e1; subst e2
  grind
/-- sizes -/
structure Rb (n : Nat) (r : Rat) : Prop where
  num : Bd n r.num
  den : Bd n (r.den : Int)
theorem Rb.mono {n m : Nat} {r : Rat} (h : Rb n r) (l : n ≤ m) : Rb m r := ⟨h.num.mono l, h.den.mono l⟩
theorem rb_frac {n : Nat} {a b : Int} (hb : b ≠ 0) (h1 : Bd n a) (h2 : Bd n b) : Rb n ((a : Rat) / (b : Rat)) := by
  obtain ⟨e1, e2⟩ := nq (a := a) hb
  exact ⟨by rw [← e1]; exact bd_le h1 (nT_le _ _), by rw [← e2]; exact bd_le h2 (nB_le _ _)⟩
theorem Rb.add {n m : Nat} {r s : Rat} (h : Rb n r) (k : Rb m s) : Rb (n + m + 1) (r + s) := by
  rw [← q_add]
  exact rb_frac (Int.mul_ne_zero (den_nz r) (den_nz s)) (((h.num.mul k.den).add (k.num.mul h.den)).mono (by omega)) ((h.den.mul k.den).mono (by omega))
theorem Rb.sub {n m : Nat} {r s : Rat} (h : Rb n r) (k : Rb m s) : Rb (n + m + 1) (r - s) := by
  rw [← q_sub]
  exact rb_frac (Int.mul_ne_zero (den_nz r) (den_nz s)) (((h.num.mul k.den).sub (k.num.mul h.den)).mono (by omega)) ((h.den.mul k.den).mono (by omega))
theorem Rb.mul {n m : Nat} {r s : Rat} (h : Rb n r) (k : Rb m s) : Rb (n + m) (r * s) := by
  rw [← q_mul]
  exact rb_frac (Int.mul_ne_zero (den_nz r) (den_nz s)) (h.num.mul k.num) (h.den.mul k.den)
theorem Rb.div {n m : Nat} {r s : Rat} (h : Rb n r) (k : Rb m s) (z : s ≠ 0) : Rb (n + m) (r / s) := by
  rw [← q_div r s z]
  exact rb_frac (Int.mul_ne_zero (den_nz r) (num_nz z)) (h.num.mul k.den) (h.den.mul k.num)
theorem neg_qr (r : Rat) : D.tup [.int (-r.num), .int r.den] = qr (-r) := by
  unfold qr; rw [Rat.neg_num, Rat.neg_den]
theorem Rb.neg {n : Nat} {r : Rat} (h : Rb n r) : Rb n (-r) := ⟨by rw [Rat.neg_num]; exact h.num.neg, by rw [Rat.neg_den]; exact h.den⟩
theorem qr_int (a : Int) : qr (a : Rat) = .tup [.int a, .int 1] := by unfold qr; simp
theorem rb_int {n : Nat} {a : Int} (h : Bd n a) (hn : 1 ≤ n := by decide) : Rb n (a : Rat) := ⟨by simpa using h, by simpa using (show Bd n 1 from bd_of (n := 1) (by decide) (by decide) |>.mono hn)⟩
end Fd
namespace Fd
open PySem PySem.Spec PyProof.Rows L2
theorem sqn (t : Rat) : 0 ≤ t * t := by
  rcases Rat.le_total (a := 0) (b := t) with h | h
  · exact Rat.mul_nonneg h h
  · have : 0 ≤ -t := by grind
    have := Rat.mul_nonneg this this
    grind
theorem one_sq (t : Rat) : 1 + t * t ≠ 0 := by
  have := sqn t
  grind
theorem qr_0 : qr 0 = .tup [.int 0, .int 1] := rfl
theorem qr_1 : qr 1 = .tup [.int 1, .int 1] := rfl
theorem qr_m1 : qr (-1) = .tup [.int (-1), .int 1] := rfl
theorem qr_2 : qr 2 = .tup [.int 2, .int 1] := rfl
theorem qr_m2 : qr (-2) = .tup [.int (-2), .int 1] := rfl
theorem eq_qr0 (r : Rat) : eqD (qr r) (.tup [.int 0, .int 1]) = decide (r = 0) := eqD_qr r 0
theorem eq_qr1 (r : Rat) : eqD (qr r) (.tup [.int 1, .int 1]) = decide (r = 1) := eqD_qr r 1
theorem eq_qrm1 (r : Rat) : eqD (qr r) (.tup [.int (-1), .int 1]) = decide (r = -1) := eqD_qr r (-1)
theorem rb1 : Rb 2 (1 : Rat) := ⟨bd_of (by decide) (by decide), bd_of (by decide) (by decide)⟩
theorem rb0 : Rb 2 (0 : Rat) := ⟨bd_of (by decide) (by decide), bd_of (by decide) (by decide)⟩
theorem rb2 : Rb 3 (2 : Rat) := ⟨bd_of (by decide) (by decide), bd_of (by decide) (by decide)⟩
theorem rbm1 : Rb 2 (-1 : Rat) := ⟨bd_of (by decide) (by decide), bd_of (by decide) (by decide)⟩
theorem rbm2 : Rb 3 (-2 : Rat) := ⟨bd_of (by decide) (by decide), bd_of (by decide) (by decide)⟩
theorem tup_qr (r : Rat) : D.tup [.int r.num, .int r.den] = qr r := rfl
end Fd
namespace Fd
open PySem PySem.Spec PyProof.Rows L2
@[simp] theorem e_deepN (s : S) (xs : List SV) : deep s (.new xs) = match datL xs with
  | some ds => some (.lst ds)
  | none => none := rfl
@[simp] theorem okD_l0 : okD (.lst []) = true := rfl
@[simp] theorem okD_q2 (x y : Rat) : okD (.tup [qr x, qr y]) = true := rfl
end Fd
namespace Fd
open PySem PySem.Spec PyProof.Rows L2
theorem qr_lit (a b : Int) (hb : 0 < b) (hg : gI a b = 1) : D.tup [.int a, .int b] = qr ((a : Rat) / (b : Rat)) := by
  rw [← qr_of (by omega)]
  unfold nT nB
  rw [hg, if_neg (by omega), if_neg (by omega)]
  simp
theorem lit_ex (a b : Int) (hb : 0 < b) (hg : gI a b = 1) {n : Nat} (h1 : Bd n a) (h2 : Bd n b) : ∃ q : Rat, D.tup [.int a, .int b] = qr q ∧ Rb n q := ⟨_, qr_lit a b hb hg, rb_frac (by omega) h1 h2⟩
end Fd
set_option Elab.async false
set_option linter.all false
set_option maxRecDepth 100000
set_option maxHeartbeats 4000000
namespace Fd
open PySem PySem.Spec PyProof.Rows L2
/-! ## methods of a string with one argument -/
def mS (mo me : M RV) (f : Str → RV → M RV) : M RV := bnd mo fun x => match x with
  | .sv (.dat (.str a)) => bnd me (fun y => f a y)
  | _ => stuck
def SmOk (X : Cx) (ct : Nat → Addr) (r : V → List V → Hp → VK → Prop) (f : Str → RV → M RV) : Prop := ∀ (W : WX) (σ : L2.St) (γ : G) (s : S) (H Hb : Hp) (a : Str) (y : V) (r2 : RV) (Q : VK), Rep X.K ct γ H σ s → RepR X.K ct γ s Hb H y r2 → Good X.K ct W σ γ s H (f a r2 s) Q → r (.str a) [y] H Q
section
variable {X : Cx} {ct : Nat → Addr} {W : WX} {pos : Pos} {o e : Expr} {mo me : M RV}
theorem ed_sm {r : V → List V → Hp → VK → Prop} {f : Str → RV → M RV} {ca : Expr} (hf : SmOk X ct r f) (ho : ED X ct W o mo) (he : ED X ct W e me) (hp : ∀ {to : TE} {t : TA}, PE X o to → PA X [e] t → PE X ca (tBM X.K "str" r to t)) (hs : starEach [e] X.env = (false, eval e X.env) :: starEach [] X.env := by rfl) : ED X ct W ca (mS mo me f) := by
  obtain ⟨to, po, ro⟩ := ho.ex
  obtain ⟨te, pe, re⟩ := he.ex
  refine ⟨_, hp po (pa_cons pe pa_nil hs), fun σ H γ s Q R h => ?_⟩
  refine ro σ H γ s _ R (use_e h (fun _ _ z => z) fun x s1 v γ1 H1 t1 R1 q1 g => ?_)
  split at g
  · rename_i a
    obtain rfl := rep_str q1
    refine ⟨rfl, ?_⟩
    have g1 : Good X.K ct W σ γ1 s1 H1 ((bnd me fun y => f a y) s1) Q := Good.step t1 g
    exact re σ H1 γ1 s1 _ R1 (use_e g1 (fun _ _ z => z) fun y s2 w γ2 H2 t2 R2 q2 g2 => hf W σ γ2 s2 H2 _ a w y Q R2 q2 (Good.step t2 g2))
  · exact False.elim g
def startsM (a : Str) : RV → M RV
  | .sv (.dat (.str b)) => fun s => .ok (RB (Txt.startswith a b)) s
  | _ => stuck
theorem startsM_ok : SmOk X ct (fun x xs H Q => ∃ a b, x = .str a ∧ xs = [.str b] ∧ Q (.bl (Txt.startswith a b)) H) startsM := by
  intro W σ γ s H Hb a y r2 Q R q h
  unfold startsM at h
  split at h
  · rename_i b
    exact ⟨a, b, rfl, by rw [rep_str q], h _ γ H Step.refl R (repB _)⟩
  · exact False.elim h
def rmpM (a : Str) : RV → M RV
  | .sv (.dat (.str b)) => fun s => if a.length ≤ 100000 then .ok (RS (Txt.removeprefix a b)) s else .bad
  | _ => stuck
theorem rmpM_ok : SmOk X ct (fun x xs H Q => ∃ a b, x = .str a ∧ xs = [.str b] ∧ a.length ≤ sizeLine ∧ Q (.str (Txt.removeprefix a b)) H) rmpM := by
  intro W σ γ s H Hb a y r2 Q R q h
  unfold rmpM at h
  split at h
  · rename_i b
    by_cases c : a.length ≤ 100000
    · rw [if_pos c] at h
      exact ⟨a, b, rfl, by rw [rep_str q], lim_ok c, h _ γ H Step.refl R (RepD.str _)⟩
    · rw [if_neg c] at h; exact False.elim h
  · exact False.elim h
def partM (a : Str) : RV → M RV
  | .sv (.dat (.str b)) => fun s => if a.length ≤ 100000 ∧ (b.length == 0) = false then .ok (RT [.str (Txt.partition a b).1, .str (Txt.partition a b).2.1, .str (Txt.partition a b).2.2]) s else .bad
  | _ => stuck
theorem partM_ok : SmOk X ct (fun x xs H Q => ∃ a b, x = .str a ∧ xs = [.str b] ∧ (b.length == 0) = false ∧ a.length ≤ sizeLine ∧ ∀ p, H p = none → Q (.ref p) (upd H p (.tup [.str (Txt.partition a b).1, .str (Txt.partition a b).2.1, .str (Txt.partition a b).2.2]))) partM := by
  intro W σ γ s H Hb a y r2 Q R q h
  unfold partM at h
  split at h
  · rename_i b
    by_cases c : a.length ≤ 100000 ∧ (b.length == 0) = false
    · rw [if_pos c] at h
      exact ⟨a, b, rfl, by rw [rep_str q], c.2, lim_ok c.1, good_tup R (.cons (.str _) (.cons (.str _) (.cons (.str _) .nil))) h⟩
    · rw [if_neg c] at h; exact False.elim h
  · exact False.elim h
end
end Fd
namespace Fd
open PySem PySem.Spec PyProof.Rows L2
section
variable {X : Cx} {ct : Nat → Addr} {W : WX} {pos : Pos} {e tg a b : Expr} {m ma mb : M RV}
/-! ## for c in text -/
def chars (z : Str) : List SV := z.cps.toList.map fun c => .dat (.str ⟨#[c]⟩)
def strSrc : RV → M Src
  | .sv (.dat (.str z)) => pur ⟨chars z, none⟩
  | _ => stuck
theorem walkD_str {K : PySem.W.Frag} {γ : G} {s : S} {H : Hp} {z : Str} : WalkD K ct (Its z) ⟨chars z, none⟩ γ s H := by
  refine ⟨_, _, by rw [show (Src.mk (chars z) none).items.length = z.cps.size by simp [chars]]; exact walk_str, fun _ _ _ _ _ _ _ => trivial, ?_⟩
  rintro i γ1 s1 H1 σ1 x H2 y st R1 ok e ⟨rfl, c, ec, rfl⟩
  have e' : (chars z)[i]? = some y := e
  unfold chars at e'
  rw [List.getElem?_map, Array.getElem?_toList, ec] at e'
  cases e'
  exact ⟨Same.refl _, RepD.str _⟩
theorem id_str (h : ED X ct W e m) : ID X ct W tg e (bnd m strSrc) := by
  obtain ⟨t, p, r⟩ := h.ex
  refine ⟨_, pi_str p, fun σ H γ s R0 R h => ?_⟩
  refine r σ H γ s _ R (use_e h (fun _ _ z => z) fun x s1 v γ1 H1 t1 R1 q1 g => ?_)
  unfold strSrc at g
  split at g
  · rename_i z
    exact ⟨z, rep_str q1, g γ1 H1 _ t1 R1 walkD_str⟩
  · exact False.elim g
@[simp] theorem e_strSrc (s : S) (z : Str) : strSrc (RS z) s = .ok ⟨chars z, none⟩ s := rfl
/-! ## a sign in a text, int(text), text * number -/
def inS (neg : Bool) : RV → RV → M RV
  | .sv (.dat (.str i)), .sv (.dat (.str j)) => pur (RB (if neg then !(!(Builtin.Str.occurrences j i 0 j.length 1).isEmpty) else !(Builtin.Str.occurrences j i 0 j.length 1).isEmpty))
  | _, _ => stuck
theorem inS_ok : BinOk X ct (fun x y H Q => ∃ i j, x = .str i ∧ y = .str j ∧ Q (.bl (!(Builtin.Str.occurrences j i 0 j.length 1).isEmpty)) H) (inS false) := by
  intro W σ γ s H Ha Hb x y r1 r2 Q R q1 q2 h
  unfold inS at h
  split at h
  · rename_i i j
    exact ⟨i, j, rep_str q1, rep_str q2, h _ γ H Step.refl R (repB _)⟩
  · exact False.elim h
theorem notinS_ok : BinOk X ct (fun x y H Q => ∃ i j, x = .str i ∧ y = .str j ∧ Q (.bl (!(!(Builtin.Str.occurrences j i 0 j.length 1).isEmpty))) H) (inS true) := by
  intro W σ γ s H Ha Hb x y r1 r2 Q R q1 q2 h
  unfold inS at h
  split at h
  · rename_i i j
    exact ⟨i, j, rep_str q1, rep_str q2, h _ γ H Step.refl R (repB _)⟩
  · exact False.elim h
theorem td_inS (ha : ED X ct W a ma) (hb : ED X ct W b mb) (hm : behindInMarks .In b = false := by rfl) : TD X ct W (.Compare a [.In] [b] pos) (bnd (m2 ma mb (inS false)) asB) := td_cmp op_in_str inS_ok ha hb hm
theorem td_notinS (ha : ED X ct W a ma) (hb : ED X ct W b mb) (hm : behindInMarks .NotIn b = false := by rfl) : TD X ct W (.Compare a [.NotIn] [b] pos) (bnd (m2 ma mb (inS true)) asB) := td_cmp op_notin_str notinS_ok ha hb hm
def intS : List RV → M RV
  | [.sv (.dat (.str z))] => fun s => match PySem.intText? z with
    | some n => if z.length ≤ 640 then .ok (RI n) s else .bad
    | none => .bad
  | _ => stuck
theorem intS_ok : CallOk X ct (fun xs H Q => ∃ a n, xs = [.str a] ∧ PySem.intText? a = some n ∧ a.length ≤ 640 ∧ Q (.int n) H) intS := by
  intro W σ γ s H Ha vs rs Q R q h
  unfold intS at h
  split at h
  · rename_i z
    cases q with
    | cons q1 q2 =>
      cases q2
      cases e : PySem.intText? z with
      | none => simp only [e] at h; exact False.elim h
      | some n =>
        simp only [e] at h
        by_cases c : z.length ≤ 640
        · rw [if_pos c] at h
          exact ⟨z, n, by rw [rep_str q1], e, c, h _ γ H Step.refl R (repI _)⟩
        · rw [if_neg c] at h; exact False.elim h
  · exact False.elim h
end
end Fd
namespace Fd
open PySem PySem.Spec PyProof.Rows L2
section
variable {X : Cx} {ct : Nat → Addr} {W : WX} {pos : Pos} {e a b : Expr} {m ma mb : M RV}
/-! ## text * number -/
def repS (x : Str) (n : Nat) : Str := ⟨(List.replicate n x.cps).foldl (· ++ ·) #[]⟩
theorem fold_len (x : Array Nat) : ∀ (n : Nat) (acc : Array Nat), ((List.replicate n x).foldl (· ++ ·) acc).size = acc.size + n * x.size
  | 0, acc => by simp
  | n + 1, acc => by
    rw [List.replicate_succ, List.foldl_cons, fold_len x n]
    simp [Array.size_append, Nat.succ_mul]; omega
theorem repS_len (x : Str) (n : Nat) : (repS x n).length = n * x.length := by
  show ((List.replicate n x.cps).foldl (· ++ ·) #[]).size = _
  rw [fold_len]; simp; rfl
def rMulS : R2 := fun x y H Q => ∃ (z : Str) (n : Int), x = .str z ∧ y = .int n ∧ 2 ≤ n ∧ n ≤ 100000 ∧ z.length ≤ 8 ∧ 1 ≤ z.length ∧ Q (.str (repS z n.toNat)) H
theorem op_mulS : OpR X (binaryOp .Mult) rMulS := by
  intro pins s σ H x y v u Q I rx ry h
  obtain ⟨z, n, rfl, rfl, h1, h2, h3, h4, q⟩ := h
  obtain ⟨t, rfl⟩ := rx
  obtain ⟨t', rfl⟩ := ry
  have n1 : (n == 1 || z.length == 0) = false := by
    have a1 : (n == 1) = false := by simpa using (show ¬ n = 1 by omega)
    have a2 : (z.length == 0) = false := by simpa using (show ¬ z.length = 0 by omega)
    rw [a1, a2]; rfl
  refine P.mul_str (by simp; omega) (fun _ _ => ?_) (fun _ _ => ?_) ?_
  · have hn : 0 < n := by omega
    have : 8 ≤ (2 ^ 63 - 1) / n := (Int.le_ediv_iff_mul_le hn).mpr (by omega)
    omega
  · have e1 : z.length * n.toNat ≤ 8 * 100000 := Nat.mul_le_mul h3 (by omega)
    unfold Builtin.Str.tooLong
    simp [sizeLine_eq]
    omega
  · rw [if_neg (by omega), if_neg (by rw [n1]; exact Bool.false_ne_true)]
    refine ⟨?_, .str (repS z n.toNat), H, I.tok _, ⟨_, rfl⟩, q⟩
    have := repS_len z n.toNat
    have e1 : n.toNat * z.length ≤ 100000 * 8 := Nat.mul_le_mul (by omega) h3
    show (repS z n.toNat).length ≤ sizeLine
    rw [this, sizeLine_eq]; omega
end
end Fd
namespace Fd
open PySem PySem.Spec PyProof.Rows L2
section
variable {X : Cx} {ct : Nat → Addr} {W : WX} {pos : Pos} {e a b : Expr} {m ma mb : M RV}
def mulSM : RV → RV → M RV
  | .sv (.dat (.str z)), .sv (.dat (.int n)) => fun s => if 2 ≤ n ∧ n ≤ 100000 ∧ z.length ≤ 8 ∧ 1 ≤ z.length then .ok (RS (repS z n.toNat)) s else .bad
  | _, _ => stuck
theorem mulSM_ok : BinOk X ct rMulS mulSM := by
  intro W σ γ s H Ha Hb x y r1 r2 Q R q1 q2 h
  unfold mulSM at h
  split at h
  · rename_i z n
    by_cases c : 2 ≤ n ∧ n ≤ 100000 ∧ z.length ≤ 8 ∧ 1 ≤ z.length
    · rw [if_pos c] at h
      exact ⟨z, n, rep_str q1, rep_int q2, c.1, c.2.1, c.2.2.1, c.2.2.2, h _ γ H Step.refl R (RepD.str _)⟩
    · rw [if_neg c] at h; exact False.elim h
  · exact False.elim h
theorem ed_mulS (ha : ED X ct W a ma) (hb : ED X ct W b mb) : ED X ct W (.BinOp a .Mult b pos) (m2 ma mb mulSM) := ed_bin op_mulS mulSM_ok ha hb
/-! ## f-strings -/
def fmtM : RV → M RV
  | .sv (.dat (.str z)) => fun s => if z.length ≤ 100000 then .ok (RS z) s else .bad
  | .sv (.dat (.int i)) => fun s => if i.natAbs.log2 < 1920 then .ok (RS (toString i)) s else .bad
  | _ => stuck
theorem ed_fmt (h : ED X ct W e m) : ED X ct W (.FormattedValue e (-1) none pos) (bnd m fmtM) := by
  obtain ⟨t, p, r⟩ := h.ex
  refine ⟨_, pe_fmt p, fun σ H γ s Q R h => ?_⟩
  refine r σ H γ s _ R (use_e h (fun _ _ z => z) fun x s1 v γ1 H1 t1 R1 q1 g => ?_)
  unfold fmtM at g
  split at g
  · rename_i z
    by_cases c : z.length ≤ 100000
    · rw [if_pos c] at g
      exact .inl ⟨z, rep_str q1, lim_ok c, g _ γ1 H1 t1 R1 (RepD.str _)⟩
    · rw [if_neg c] at g; exact False.elim g
  · rename_i i
    by_cases c : i.natAbs.log2 < 1920
    · rw [if_pos c] at g
      exact .inr ⟨i, rep_int q1, c, g _ γ1 H1 t1 R1 (RepD.str _)⟩
    · rw [if_neg c] at g; exact False.elim g
  · exact False.elim g
end
end Fd
namespace Fd
open PySem PySem.Spec PyProof.Rows L2
section
variable {X : Cx} {ct : Nat → Addr} {W : WX} {pos : Pos} {e a b : Expr} {es : List Expr} {m ma mb : M RV}
/-- the texts of an f-string, one behind the other -/
def joinM : List (M RV) → Str → M RV
  | [], acc => pur (RS acc)
  | m :: ms, acc => bnd m fun x => match x with
    | .sv (.dat (.str y)) => fun s => if (acc ++ y).length ≤ 100000 then joinM ms (acc ++ y) s else .bad
    | _ => stuck
theorem joinM_str : ∀ (ms : List (M RV)) (acc : Str) (s s1 : S) (x : RV), joinM ms acc s = .ok x s1 → ∃ z, x = RS z
  | [], acc, s, s1, x, h => by cases h; exact ⟨acc, rfl⟩
  | m :: ms, acc, s, s1, x, h => by
    unfold joinM bnd at h
    cases e : m s with
    | exc y s2 => rw [e] at h; cases h
    | bad => rw [e] at h; cases h
    | ok y s2 =>
      rw [e] at h
      simp only at h
      split at h
      · rename_i z
        by_cases c : (acc ++ z).length ≤ 100000
        · rw [if_pos c] at h; exact joinM_str ms (acc ++ z) s2 s1 x h
        · rw [if_neg c] at h; cases h
      · cases h
structure JD (X : Cx) (ct : Nat → Addr) (W : WX) (es : List Expr) (ms : List (M RV)) : Prop where
  ex : ∃ ts, PJ X es ts ∧ ∀ acc σ H γ s (Q : Str → Hp → Prop), Rep X.K ct γ H σ s → Good X.K ct W σ γ s H (joinM ms acc s) (fun v H' => ∃ z, v = .str z ∧ Q z H') → tJs ts acc σ H Q
theorem jd_nil : JD X ct W [] [] := ⟨[], .nil, fun acc σ H γ s Q R g => by
  obtain ⟨z, e, q⟩ := g (.str acc) γ H Step.refl R (RepD.str _)
  cases e
  exact q⟩
theorem jd_cons {ms : List (M RV)} (h : ED X ct W e m) (r : JD X ct W es ms) : JD X ct W (e :: es) (m :: ms) := by
  obtain ⟨t, p, rt⟩ := h.ex
  obtain ⟨ts, ps, rs⟩ := r.ex
  refine ⟨t :: ts, .cons p ps, fun acc σ H γ s Q R g => ?_⟩
  unfold joinM at g
  refine rt σ H γ s _ R (use_e g (fun _ _ z => z) fun x s1 v γ1 H1 t1 R1 q1 g1 => ?_)
  split at g1
  · rename_i y
    by_cases c : (acc ++ y).length ≤ 100000
    · rw [if_pos c] at g1
      exact ⟨y, rep_str q1, lim_ok c, rs (acc ++ y) σ H1 γ1 s1 Q R1 (Good.step t1 g1)⟩
    · rw [if_neg c] at g1; exact False.elim g1
  · exact False.elim g1
theorem ed_joined {v1 v2 : Expr} {rest : List Expr} {ms : List (M RV)} (h : JD X ct W (v1 :: v2 :: rest) ms) : ED X ct W (.JoinedStr (v1 :: v2 :: rest) pos) (joinM ms Str.empty) := by
  obtain ⟨ts, p, r⟩ := h.ex
  refine ⟨_, pe_joined p, fun σ H γ s Q R g => ?_⟩
  refine r _ σ H γ s _ R ?_
  unfold Good at *
  cases e : joinM ms Str.empty s with
  | bad => rw [e] at g; exact g
  | exc y s1 => rw [e] at g; exact g
  | ok x s1 =>
    rw [e] at g
    obtain ⟨z, rfl⟩ := joinM_str ms _ s s1 x e
    intro v γ1 H1 t1 R1 q1
    have ev := rep_str q1
    exact ⟨z, ev, by rw [← ev]; exact g v γ1 H1 t1 R1 q1⟩
end
end Fd
set_option Elab.async false
set_option linter.all false
set_option maxRecDepth 100000
set_option maxHeartbeats 4000000
namespace Law
open PySem PySem.Spec PyProof.Rows L2 Fd
def top (i : Nat) : Stmt := PySem.Challenge.pw_stillarms_k02_whole_ratio_texts_read.main.body.getD i (.Pass ⟨0, 0, 0, 0⟩)
abbrev s_lowest_terms : Stmt := top 6
abbrev s_ratio_text : Stmt := top 7
abbrev s_read_digits : Stmt := top 8
abbrev s_ratio_of : Stmt := top 9
abbrev s_law_hand : Stmt := top 11
abbrev s_law_take : Stmt := top 12
abbrev s_law_gcd : Stmt := top 13
abbrev s_law_ratio : Stmt := top 14
abbrev s_law_wide : Stmt := top 15
abbrev s_law_wide_ratio : Stmt := top 16
abbrev s_law_plain : Stmt := top 17
abbrev s_law_text : Stmt := top 18
abbrev s_law_read : Stmt := top 19
abbrev s_law_long : Stmt := top 20
abbrev s_law_spoilt : Stmt := top 21
abbrev s_law : Stmt := top 22
abbrev i_BadRatio : Stmt := inClass (top 3) 0
structure Txt (P : Program) (w : World) (K : PySem.W.Frag) (mg : Str → Option Value) (base : Heap) (ct : Nat → Addr) : Prop where
  abs : mg "abs" = none
  bool : mg "bool" = none
  int : mg "int" = none
  isinstance : mg "isinstance" = none
  len : mg "len" = none
  range : mg "range" = none
  str : mg "str" = none
  tuple : mg "tuple" = none
  gcd : mg "gcd" = some (.builtin "math.gcd")
  c_MOST_DIGITS : CsT K mg ct "MOST_DIGITS" (.int 300)
  f_lowest_terms : FnT K mg "lowest_terms" s_lowest_terms []
  f_ratio_text : FnT K mg "ratio_text" s_ratio_text []
  f_read_digits : FnT K mg "read_digits" s_read_digits []
  f_ratio_of : FnT K mg "ratio_of" s_ratio_of []
  f_law_hand : FnT K mg "_law_hand" s_law_hand []
  f_law_take : FnT K mg "_law_take" s_law_take []
  f_law_gcd : FnT K mg "_law_gcd" s_law_gcd []
  f_law_ratio : FnT K mg "_law_ratio" s_law_ratio []
  f_law_wide : FnT K mg "_law_wide" s_law_wide []
  f_law_wide_ratio : FnT K mg "_law_wide_ratio" s_law_wide_ratio []
  f_law_plain : FnT K mg "_law_plain" s_law_plain []
  f_law_text : FnT K mg "_law_text" s_law_text []
  f_law_read : FnT K mg "_law_read" s_law_read []
  f_law_long : FnT K mg "_law_long" s_law_long []
  f_law_spoilt : FnT K mg "_law_spoilt" s_law_spoilt []
  x_BadRatio : ErrX P w K mg base ct "BadRatio" 0 ["what"]
  h_BadRatio : ErrH K mg ct "BadRatio" 0 (exsOf 1 0)
  no_BadRatio_what : PySem.W.findIn K (.ref (ct 0)) "what" = some none
section
variable {P : Program} {w : World} {K : PySem.W.Frag} {mg : Str → Option Value} {base : Heap} {ct : Nat → Addr}
abbrev N_law_take : List Str := ["_law_hand_here", "_law_many", "_law_cell", "_law_once", "_law_twice"]
theorem sc_law_take : FnScope N_law_take ["_law_hand_here", "_law_many"] (defScope s_law_take) := ⟨rfl, rfl, rfl, by decide +kernel, rfl, by decide +kernel, by decide +kernel⟩
theorem ok_law_take (T : Txt P w K mg base ct) : OkH P w K mg base ct "_law_take" 2 1 R_law_take := by
  obtain ⟨f, fd, hm, F⟩ := T.f_law_take.ex
  refine ⟨f, fd, ["_law_hand_here", "_law_many"], rfl, hm, F.kp, F.ok sc_law_take (fun vs H Q E h => h.1) fun cdv A outer s H vs Q E hr h => ?_, F.bindsN fun _ _ _ _ _ _ us hl => match us, hl with | [_, _], _ => rfl⟩
  exact ⟨_, (pss_cons (ps_while (passes_of rfl) (PW.pt (pw_and (pt_truth (pe_ix ix_list (pv 0) pe_int (fun _ _ => rfl)) (fun _ => rfl)) (pw_and1 (pt_cmpR op_eq (pe_ix ix_list (pe_ix ix_list (pv 0) pe_int (fun _ _ => rfl)) pe_int (fun _ _ => rfl)) pe_int (nomark _))))) (pss_one (ps_asg (pe_slice sl_list (pe_ix ix_list (pv 0) pe_int (fun _ _ => rfl)) (po_some pe_int) po_none) (pg_sub (pv 0) pe_int set_list (fun _ => rfl)))))
    (pss_cons (ps_if (pt_truth (pe_ix ix_list (pv 0) pe_int (fun _ _ => rfl)) (fun _ => rfl)) (pss_cons (ps_asg (pe_ix ix_list (pe_ix ix_list (pv 0) pe_int (fun _ _ => rfl)) pe_int (fun _ _ => rfl)) (pg_name (i := 2) sc_law_take.nd rfl (.inl rfl))) (pss_cons (ps_asg (pe_op op_divF (pe_callTy call_int1 (by rfl) T.int PyProof.Rows.boot_int (pa_cons (pv 2) pa_nil)) (pv 1)) (pg_sub (pe_ix ix_list (pv 0) pe_int (fun _ _ => rfl)) pe_int set_list (fun _ => rfl))) (pss_one (ps_ret (pe_op op_mod (pe_callTy call_int1 (by rfl) T.int PyProof.Rows.boot_int (pa_cons (pv 2) pa_nil)) (pv 1)))))) pss_nil)
    (pss_cons (ps_asg (pe_op op_add (pe_ix ix_list (pv 0) pe_int (fun _ _ => rfl)) pe_int) (pg_sub (pv 0) pe_int set_list (fun _ => rfl)))
    (pss_cons (ps_asg (pe_op op_mod (pe_callTy call_int1 (by rfl) T.int PyProof.Rows.boot_int (pa_cons (pe_op op_add (pe_op op_mul (pe_ix ix_list (pv 0) pe_int (fun _ _ => rfl)) pe_int) pe_int) pa_nil)) pe_int) (pg_sub (pv 0) pe_int set_list (fun _ => rfl)))
    (pss_cons (ps_asg (pe_op op_mod (pe_callTy call_int1 (by rfl) T.int PyProof.Rows.boot_int (pa_cons (pe_op op_add (pe_op op_mul (pe_ix ix_list (pv 0) pe_int (fun _ _ => rfl)) pe_int) (pe_op op_mul (pe_ix ix_list (pv 0) pe_int (fun _ _ => rfl)) pe_int)) pa_nil)) pe_int) (pg_name (i := 3) sc_law_take.nd rfl (.inl rfl)))
    (pss_cons (ps_asg (pe_op op_mod (pe_callTy call_int1 (by rfl) T.int PyProof.Rows.boot_int (pa_cons (pe_op op_add (pe_op op_add (pe_op op_mul (pv 3) (pv 3)) (pe_op op_mul (pe_ix ix_list (pv 0) pe_int (fun _ _ => rfl)) pe_int)) (pe_op op_fdiv (pv 3) pe_int)) pa_nil)) pe_int) (pg_name (i := 4) sc_law_take.nd rfl (.inl rfl)))
    (pss_one (ps_ret (pe_op op_mod (pe_callTy call_int1 (by rfl) T.int PyProof.Rows.boot_int (pa_cons (pe_op op_fdiv (pv 4) pe_int) pa_nil)) (pv 1)))))))))), take_read rfl h⟩
abbrev N_law_hand : List Str := ["_law_script", "_law_great", "_law_mixed", "_law_cell", "_law_size"]
theorem sc_law_hand : FnScope N_law_hand ["_law_script"] (defScope s_law_hand) := ⟨rfl, rfl, rfl, by decide +kernel, rfl, by decide +kernel, by decide +kernel⟩
theorem ok_law_hand (T : Txt P w K mg base ct) : OkN P w K mg base "_law_hand" 1 := by
  obtain ⟨f, fd, hm, F⟩ := T.f_law_hand.ex
  refine ⟨f, fd, ["_law_script"], rfl, hm, F.kp, F.ok sc_law_hand spN_len fun cdv A outer s H vs Q E hr h => ?_, F.bindsN fun _ _ _ _ _ _ us hl => match us, hl with | [_], _ => rfl⟩
  exact ⟨_, (pss_cons (ps_asg (pe_lst pa_nil) (pg_name (i := 1) sc_law_hand.nd rfl (.inl rfl)))
    (pss_cons (ps_asg (pe_op op_add (pe_callB call_len (by rfl) T.len PySem.boot_len (pa_cons (pv 0) pa_nil)) pe_int) (pg_name (i := 2) sc_law_hand.nd rfl (.inl rfl)))
    (pss_cons (ps_for (passes_of rfl) rfl (pi_list (pv 0)) (pg_name (i := 3) sc_law_hand.nd rfl (.inl rfl))
      (pss_cons (ps_asg (pe_callB call_abs (by rfl) T.abs PyProof.Rows.boot_abs (pa_cons (pe_callTy call_int1 (by rfl) T.int PyProof.Rows.boot_int (pa_cons (pv 3) pa_nil)) pa_nil)) (pg_name (i := 4) sc_law_hand.nd rfl (.inl rfl)))
      (pss_cons (ps_asg (pe_op op_add (pe_op op_mod (pe_callTy call_int1 (by rfl) T.int PyProof.Rows.boot_int (pa_cons (pe_op op_add (pe_op op_mul (pv 2) pe_int) (pv 4)) pa_nil)) pe_int) pe_int) (pg_name (i := 2) sc_law_hand.nd rfl (.inl rfl)))
      (pss_one (ps_if (pt_cmpR op_ge (pv 4) (pe_op op_pow pe_int pe_int) (nomark _)) (pss_one (ps_expr (pe_bm PySem.F.plainAttrs_list PySem.F.slot_list_append PySem.F.type_list_append mt_append (pv 1) (pa_cons (pv 4) pa_nil)))) pss_nil)))))
    (pss_one (ps_ret (pe_lst (pa_cons (pv 1) (pa_cons (pv 2) (pa_cons pe_int pa_nil))))))))), hand_read rfl h⟩

abbrev N_lowest_terms : List Str := ["top", "bottom", "shared"]
theorem sc_lowest_terms : FnScope N_lowest_terms ["top", "bottom"] (defScope s_lowest_terms) := ⟨rfl, rfl, rfl, by decide +kernel, rfl, by decide +kernel, by decide +kernel⟩
noncomputable def m_lowest_terms : M Fl := (seqF (ifF (bnd (m2 (getV 1) (pur (RI 0)) ltM) asB) (parF 0 1 (consA (bnd (getV 0) negM) (consA (bnd (getV 1) negM) (pur [])))) (pur .nx))
    (seqF (asgF (bnd (consB (getV 0) (consB (getV 1) (pur []))) gcdM) (setV 2))
    (retF (bnd (consA (m2 (getV 0) (getV 2) divM) (consA (m2 (getV 1) (getV 2) divM) (pur []))) tupM))))
noncomputable def R_lowest_terms : List D → Res := runP 3 m_lowest_terms
theorem ok_lowest_terms (T : Txt P w K mg base ct) : OkP P w K mg base ct "lowest_terms" 2 1 R_lowest_terms [] :=
  okP T.f_lowest_terms sc_lowest_terms (fun _ _ _ _ _ _ us hl => match us, hl with | [_, _], _ => rfl) fun f cdv A outer s H E hr =>
    (sds_cons (sd_if (td_lt (nv 1) ed_int) (sds_one (sd_par (i := 0) (j := 1) rfl sc_lowest_terms.nd rfl rfl (by decide) rfl rfl (ad_cons (ed_neg (nv 0)) (ad_cons (ed_neg (nv 1)) ad_nil)) (by rfl))) sds_nil)
    (sds_cons (sd_asg (ed_blt (fun _ h => pe_callBfun cr_gcd (by rfl) T.gcd h) gcdM_ok (bd_cons (nv 0) (bd_cons (nv 1) bd_nil))) (gn 2 sc_lowest_terms.nd))
    (sds_one (sd_ret (ed_tup (ad_cons (ed_div (nv 0) (nv 2)) (ad_cons (ed_div (nv 1) (nv 2)) ad_nil)))))))
abbrev N_ratio_text : List Str := ["one"]
theorem sc_ratio_text : FnScope N_ratio_text ["one"] (defScope s_ratio_text) := ⟨rfl, rfl, rfl, by decide +kernel, rfl, by decide +kernel, by decide +kernel⟩
noncomputable def m_ratio_text : M Fl := (retF (ifE (bnd (m2 (m2 (getV 0) (pur (RI 1)) ixM) (pur (RI 1)) eqM) asB) (bnd (consB (m2 (getV 0) (pur (RI 0)) ixM) (pur [])) strM) (joinM [(bnd (m2 (getV 0) (pur (RI 0)) ixM) fmtM), (pur (RS ("/" : Str))), (bnd (m2 (getV 0) (pur (RI 1)) ixM) fmtM)] Str.empty)))
noncomputable def R_ratio_text : List D → Res := runP 1 m_ratio_text
theorem ok_ratio_text (T : Txt P w K mg base ct) : OkP P w K mg base ct "ratio_text" 1 1 R_ratio_text [] :=
  okP T.f_ratio_text sc_ratio_text (fun _ _ _ _ _ _ us hl => match us, hl with | [_], _ => rfl) fun f cdv A outer s H E hr =>
    (sds_one (sd_ret (ed_if (td_eq (hu64 hr) (ed_sub1 (nv 0) ed_int) ed_int) (ed_blt (fun _ h => pe_callTy call_str_int (by rfl) T.str PyProof.Rows.boot_str h) strM_ok (bd_cons (ed_sub1 (nv 0) ed_int) bd_nil)) (ed_joined (jd_cons (ed_fmt (ed_sub1 (nv 0) ed_int)) (jd_cons ed_str (jd_cons (ed_fmt (ed_sub1 (nv 0) ed_int)) jd_nil)))))))
abbrev N_read_digits : List Str := ["text", "sign"]
theorem sc_read_digits : FnScope N_read_digits ["text"] (defScope s_read_digits) := ⟨rfl, rfl, rfl, by decide +kernel, rfl, by decide +kernel, by decide +kernel⟩
noncomputable def m_read_digits : M Fl := (seqF (ifF (orT (bnd (m2 (getV 0) (pur (RS ("" : Str))) eqM) asB) (bnd (m2 (bnd (consB (getV 0) (pur [])) lenM) (pur (RD (.int 300))) gtM) asB)) (retF (pur RN)) (pur .nx))
    (seqF (forF (bnd (getV 0) strSrc) (setV 1) (ifF (bnd (m2 (getV 1) (pur (RS ("0123456789" : Str))) (inS true)) asB) (retF (pur RN)) (pur .nx)))
    (retF (bnd (consB (getV 0) (pur [])) intS))))
noncomputable def R_read_digits : List D → Res := runP 2 m_read_digits
theorem ok_read_digits (T : Txt P w K mg base ct) : OkP P w K mg base ct "read_digits" 1 1 R_read_digits [] :=
  okP T.f_read_digits sc_read_digits (fun _ _ _ _ _ _ us hl => match us, hl with | [_], _ => rfl) fun f cdv A outer s H E hr =>
    (sds_cons (sd_if (WD.td (wd_or (td_eq (hu64 hr) (nv 0) ed_str) (wd_or1 (td_gt (ed_blt (fun _ h => pe_callB call_len (by rfl) T.len PySem.boot_len h) lenM_ok (bd_cons (nv 0) bd_nil)) (ed_glob T.c_MOST_DIGITS))))) (sds_one (sd_ret ed_non)) sds_nil)
    (sds_cons (sd_for (passes_of rfl) rfl (id_str (nv 0)) (gn 1 sc_read_digits.nd) (sds_one (sd_if (td_notinS (nv 1) ed_str) (sds_one (sd_ret ed_non)) sds_nil)))
    (sds_one (sd_ret (ed_blt (fun _ h => pe_callTy call_int_str (by rfl) T.int PyProof.Rows.boot_int h) intS_ok (bd_cons (nv 0) bd_nil))))))
abbrev N_ratio_of : List Str := ["text", "body", "head", "stroke", "tail", "top", "bottom", "found"]
theorem sc_ratio_of : FnScope N_ratio_of ["text"] (defScope s_ratio_of) := ⟨rfl, rfl, rfl, by decide +kernel, rfl, by decide +kernel, by decide +kernel⟩
noncomputable def m_ratio_of : M Fl := (seqF (ifF (notT (bnd (bnd (getV 0) (isiM .str)) truthM)) (raiseF 0 ["what"] (consA (pur (RS ("text" : Str))) (pur []))) (pur .nx))
    (seqF (asgF (bnd (mS (getV 0) (pur (RS ("-" : Str))) rmpM) frz) (setV 1))
    (seqF (asgF (bnd (mS (getV 1) (pur (RS ("/" : Str))) partM) frz) (seqG (consG (setV 2) (consG (setV 3) (consG (setV 4) (fun xs => match xs with | [] => pur () | _ => stuck)))) 3))
    (seqF (asgF (bnd (consA (getV 2) (pur [])) (callM 1 R_read_digits [])) (setV 5))
    (seqF (asgF (ifE (bnd (getV 3) truthM) (bnd (consA (getV 4) (pur [])) (callM 1 R_read_digits [])) (pur (RI 1))) (setV 6))
    (seqF (ifF (orT (bnd (m2 (getV 5) (pur RN) isNM) asB) (orT (bnd (m2 (getV 6) (pur RN) isNM) asB) (bnd (m2 (getV 6) (pur (RI 0)) eqM) asB))) (raiseF 0 ["what"] (consA (pur (RS ("text" : Str))) (pur []))) (pur .nx))
    (seqF (asgF (bnd (consA (ifE (bnd (mS (getV 0) (pur (RS ("-" : Str))) startsM) truthM) (bnd (getV 5) negM) (getV 5)) (consA (getV 6) (pur []))) (callM 2 R_lowest_terms [])) (setV 7))
    (seqF (ifF (bnd (m2 (bnd (consA (getV 7) (pur [])) (callM 1 R_ratio_text [])) (getV 0) neM) asB) (raiseF 0 ["what"] (consA (pur (RS ("text" : Str))) (pur []))) (pur .nx))
    (retF (getV 7))))))))))
noncomputable def R_ratio_of : List D → Res := runP 8 m_ratio_of
theorem ok_ratio_of (T : Txt P w K mg base ct) : OkP P w K mg base ct "ratio_of" 1 3 R_ratio_of [] :=
  okP T.f_ratio_of sc_ratio_of (fun _ _ _ _ _ _ us hl => match us, hl with | [_], _ => rfl) fun f cdv A outer s H E hr =>
    (sds_cons (sd_if (td_not (td_truth (ed_isi .str (by decide) (by rfl) T.isinstance (nv 0) (pe_bltn (by rfl) T.str PyProof.Rows.boot_str rfl)))) (sds_one (sd_raiseE (c := 0) (fs := ["what"]) T.x_BadRatio (by decide) rfl (takes_of rfl rfl rfl rfl) (hr.mono (by decide)) (ad_cons ed_str ad_nil))) sds_nil)
    (sds_cons (sd_asg (ed_frz (ed_sm rmpM_ok (nv 0) ed_str (fun po pa => pe_bm PySem.F.plainAttrs_str PySem.F.slot_str_removeprefix PySem.F.type_str_removeprefix mt_removeprefix po pa))) (gn 1 sc_ratio_of.nd))
    (sds_cons (sd_asg (ed_frz (ed_sm partM_ok (nv 1) ed_str (fun po pa => pe_bm PySem.F.plainAttrs_str PySem.F.slot_str_partition PySem.F.type_str_partition mt_partition po pa))) (gd_seq rfl (gds_cons (gn 2 sc_ratio_of.nd) (gds_cons (gn 3 sc_ratio_of.nd) (gds_cons (gn 4 sc_ratio_of.nd) gds_nil)))))
    (sds_cons (sd_asg (ed_callP (ok_read_digits T) (hr.mono (by decide)) (takes_of rfl rfl rfl rfl) (ad_cons (nv 2) ad_nil)) (gn 5 sc_ratio_of.nd))
    (sds_cons (sd_asg (ed_if (td_truth (nv 3)) (ed_callP (ok_read_digits T) (hr.mono (by decide)) (takes_of rfl rfl rfl rfl) (ad_cons (nv 4) ad_nil)) ed_int) (gn 6 sc_ratio_of.nd))
    (sds_cons (sd_if (WD.td (wd_or (td_isN (nv 5) ed_non) (wd_or (td_isN (nv 6) ed_non) (wd_or1 (td_eq (hu64 hr) (nv 6) ed_int))))) (sds_one (sd_raiseE (c := 0) (fs := ["what"]) T.x_BadRatio (by decide) rfl (takes_of rfl rfl rfl rfl) (hr.mono (by decide)) (ad_cons ed_str ad_nil))) sds_nil)
    (sds_cons (sd_asg (ed_callP (ok_lowest_terms T) (hr.mono (by decide)) (takes_of rfl rfl rfl rfl) (ad_cons (ed_if (td_truth (ed_sm startsM_ok (nv 0) ed_str (fun po pa => pe_bm PySem.F.plainAttrs_str PySem.F.slot_str_startswith PySem.F.type_str_startswith mt_startswith po pa))) (ed_neg (nv 5)) (nv 5)) (ad_cons (nv 6) ad_nil))) (gn 7 sc_ratio_of.nd))
    (sds_cons (sd_if (td_ne (hu64 hr) (ed_callP (ok_ratio_text T) (hr.mono (by decide)) (takes_of rfl rfl rfl rfl) (ad_cons (nv 7) ad_nil)) (nv 0)) (sds_one (sd_raiseE (c := 0) (fs := ["what"]) T.x_BadRatio (by decide) rfl (takes_of rfl rfl rfl rfl) (hr.mono (by decide)) (ad_cons ed_str ad_nil))) sds_nil)
    (sds_one (sd_ret (nv 7)))))))))))
abbrev N_law_gcd : List Str := ["_law_one", "_law_other"]
theorem sc_law_gcd : FnScope N_law_gcd ["_law_one", "_law_other"] (defScope s_law_gcd) := ⟨rfl, rfl, rfl, by decide +kernel, rfl, by decide +kernel, by decide +kernel⟩
noncomputable def m_law_gcd : M Fl := (seqF (parF 0 1 (consA (bnd (consB (getV 0) (pur [])) absM) (consA (bnd (consB (getV 1) (pur [])) absM) (pur []))))
    (seqF (whileL (bnd (getV 1) truthM) (parF 0 1 (consA (getV 1) (consA (m2 (bnd (consB (getV 0) (pur [])) intM) (getV 1) modM) (pur [])))) 100000)
    (retF (getV 0))))
noncomputable def R_law_gcd : List D → Res := runP 2 m_law_gcd
theorem ok_law_gcd (T : Txt P w K mg base ct) : OkP P w K mg base ct "_law_gcd" 2 1 R_law_gcd [] :=
  okP T.f_law_gcd sc_law_gcd (fun _ _ _ _ _ _ us hl => match us, hl with | [_, _], _ => rfl) fun f cdv A outer s H E hr =>
    (sds_cons (sd_par (i := 0) (j := 1) rfl sc_law_gcd.nd rfl rfl (by decide) rfl rfl (ad_cons (ed_blt (fun _ h => pe_callB call_abs (by rfl) T.abs PyProof.Rows.boot_abs h) absM_ok (bd_cons (nv 0) bd_nil)) (ad_cons (ed_blt (fun _ h => pe_callB call_abs (by rfl) T.abs PyProof.Rows.boot_abs h) absM_ok (bd_cons (nv 1) bd_nil)) ad_nil)) (by rfl))
    (sds_cons (sd_while 100000 (passes_of rfl) (td_truth (nv 1)) (sds_one (sd_par (i := 0) (j := 1) rfl sc_law_gcd.nd rfl rfl (by decide) rfl rfl (ad_cons (nv 1) (ad_cons (ed_mod (ed_blt (fun _ h => pe_callTy call_int1 (by rfl) T.int PyProof.Rows.boot_int h) intM_ok (bd_cons (nv 0) bd_nil)) (nv 1)) ad_nil)) (by rfl))))
    (sds_one (sd_ret (nv 0)))))
abbrev N_law_ratio : List Str := ["_law_top", "_law_bottom", "_law_part"]
theorem sc_law_ratio : FnScope N_law_ratio ["_law_top", "_law_bottom"] (defScope s_law_ratio) := ⟨rfl, rfl, rfl, by decide +kernel, rfl, by decide +kernel, by decide +kernel⟩
noncomputable def m_law_ratio : M Fl := (seqF (asgF (bnd (bnd (consA (getV 0) (consA (getV 1) (pur []))) (callM 2 R_law_gcd [])) frz) (setV 2))
    (seqF (ifF (bnd (m2 (getV 1) (pur (RI 0)) ltM) asB) (asgF (bnd (getV 2) negM) (setV 2)) (pur .nx))
    (retF (bnd (consA (m2 (getV 0) (getV 2) divM) (consA (m2 (getV 1) (getV 2) divM) (pur []))) tupM))))
noncomputable def R_law_ratio : List D → Res := runP 3 m_law_ratio
theorem ok_law_ratio (T : Txt P w K mg base ct) : OkP P w K mg base ct "_law_ratio" 2 2 R_law_ratio [] :=
  okP T.f_law_ratio sc_law_ratio (fun _ _ _ _ _ _ us hl => match us, hl with | [_, _], _ => rfl) fun f cdv A outer s H E hr =>
    (sds_cons (sd_asg (ed_frz (ed_callP (ok_law_gcd T) (hr.mono (by decide)) (takes_of rfl rfl rfl rfl) (ad_cons (nv 0) (ad_cons (nv 1) ad_nil)))) (gn 2 sc_law_ratio.nd))
    (sds_cons (sd_if (td_lt (nv 1) ed_int) (sds_one (sd_asg (ed_neg (nv 2)) (gn 2 sc_law_ratio.nd))) sds_nil)
    (sds_one (sd_ret (ed_tup (ad_cons (ed_div (nv 0) (nv 2)) (ad_cons (ed_div (nv 1) (nv 2)) ad_nil)))))))
abbrev N_law_wide : List Str := ["_law_hand_here", "_law_way", "_law_total", "_law_turn"]
theorem sc_law_wide : FnScope N_law_wide ["_law_hand_here"] (defScope s_law_wide) := ⟨rfl, rfl, rfl, by decide +kernel, rfl, by decide +kernel, by decide +kernel⟩
noncomputable def m_law_wide : M Fl := (seqF (asgF (bnd (consA (getV 0) (consA (pur (RI 9)) (pur []))) (callH 2 R_law_take [])) (setV 1))
    (seqF (ifF (bnd (m2 (getV 1) (pur (RI 6)) ltM) asB) (retF (m2 (bnd (consA (getV 0) (consA (pur (RI 25)) (pur []))) (callH 2 R_law_take [])) (pur (RI 12)) subM)) (pur .nx))
    (seqF (asgF (pur (RI 0)) (setV 2))
    (seqF (forF (bnd (consB (ifE (bnd (m2 (getV 1) (pur (RI 8)) ltM) asB) (pur (RI 1)) (pur (RI 5))) (pur [])) rng1) (setV 3) (asgF (m2 (m2 (getV 2) (m2 (pur (RI 10)) (pur (RI 9)) powM) mulI) (bnd (consA (getV 0) (consA (m2 (pur (RI 10)) (pur (RI 9)) powM) (pur []))) (callH 2 R_law_take [])) addM) (setV 2)))
    (retF (m2 (getV 2) (m2 (pur (RI 1)) (m2 (pur (RI 2)) (bnd (consA (getV 0) (consA (pur (RI 2)) (pur []))) (callH 2 R_law_take [])) mulI) subM) mulI))))))
noncomputable def R_law_wide : List SV → Hand → Res × Hand := runH 4 m_law_wide
theorem ok_law_wide (T : Txt P w K mg base ct) : OkH P w K mg base ct "_law_wide" 1 2 R_law_wide :=
  okH T.f_law_wide sc_law_wide (fun _ _ _ _ _ _ us hl => match us, hl with | [_], _ => rfl) fun f cdv A outer s H E hr =>
    (sds_cons (sd_asg (ed_callHP (ok_law_take T) (hr.mono (by decide)) (takes_of rfl rfl rfl rfl) (ad_cons (nv 0) (ad_cons ed_int ad_nil))) (gn 1 sc_law_wide.nd))
    (sds_cons (sd_if (td_lt (nv 1) ed_int) (sds_one (sd_ret (ed_sub (ed_callHP (ok_law_take T) (hr.mono (by decide)) (takes_of rfl rfl rfl rfl) (ad_cons (nv 0) (ad_cons ed_int ad_nil))) ed_int))) sds_nil)
    (sds_cons (sd_asg ed_int (gn 2 sc_law_wide.nd))
    (sds_cons (sd_for (passes_of rfl) rfl (id_range1 (by rfl) T.range (bd_cons (ed_if (td_lt (nv 1) ed_int) ed_int ed_int) bd_nil)) (gn 3 sc_law_wide.nd) (sds_one (sd_asg (ed_add (ed_mulI (nv 2) (ed_pow ed_int ed_int)) (ed_callHP (ok_law_take T) (hr.mono (by decide)) (takes_of rfl rfl rfl rfl) (ad_cons (nv 0) (ad_cons (ed_pow ed_int ed_int) ad_nil)))) (gn 2 sc_law_wide.nd))))
    (sds_one (sd_ret (ed_mulI (nv 2) (ed_sub ed_int (ed_mulI ed_int (ed_callHP (ok_law_take T) (hr.mono (by decide)) (takes_of rfl rfl rfl rfl) (ad_cons (nv 0) (ad_cons ed_int ad_nil))))))))))))
abbrev N_law_wide_ratio : List Str := ["_law_hand_here"]
theorem sc_law_wide_ratio : FnScope N_law_wide_ratio ["_law_hand_here"] (defScope s_law_wide_ratio) := ⟨rfl, rfl, rfl, by decide +kernel, rfl, by decide +kernel, by decide +kernel⟩
noncomputable def m_law_wide_ratio : M Fl := (retF (bnd (consA (bnd (consA (getV 0) (pur [])) (callH 1 R_law_wide [])) (consA (m2 (pur (RI 1)) (bnd (consB (bnd (consA (getV 0) (pur [])) (callH 1 R_law_wide [])) (pur [])) absM) addM) (pur []))) (callM 2 R_law_ratio [])))
noncomputable def R_law_wide_ratio : List SV → Hand → Res × Hand := runH 1 m_law_wide_ratio
theorem ok_law_wide_ratio (T : Txt P w K mg base ct) : OkH P w K mg base ct "_law_wide_ratio" 1 3 R_law_wide_ratio :=
  okH T.f_law_wide_ratio sc_law_wide_ratio (fun _ _ _ _ _ _ us hl => match us, hl with | [_], _ => rfl) fun f cdv A outer s H E hr =>
    (sds_one (sd_ret (ed_callP (ok_law_ratio T) (hr.mono (by decide)) (takes_of rfl rfl rfl rfl) (ad_cons (ed_callHP (ok_law_wide T) (hr.mono (by decide)) (takes_of rfl rfl rfl rfl) (ad_cons (nv 0) ad_nil)) (ad_cons (ed_add ed_int (ed_blt (fun _ h => pe_callB call_abs (by rfl) T.abs PyProof.Rows.boot_abs h) absM_ok (bd_cons (ed_callHP (ok_law_wide T) (hr.mono (by decide)) (takes_of rfl rfl rfl rfl) (ad_cons (nv 0) ad_nil)) bd_nil))) ad_nil)))))
abbrev N_law_plain : List Str := ["_law_told", "_law_due", "_law_part"]
theorem sc_law_plain : FnScope N_law_plain ["_law_told", "_law_due"] (defScope s_law_plain) := ⟨rfl, rfl, rfl, by decide +kernel, rfl, by decide +kernel, by decide +kernel⟩
noncomputable def m_law_plain : M Fl := (seqF (ifF (orT (notT (bnd (bnd (getV 0) (isiM .tuple)) truthM)) (bnd (m2 (bnd (consB (getV 0) (pur [])) lenM) (pur (RI 2)) neM) asB)) (retF (pur (RB false))) (pur .nx))
    (seqF (forF (bnd (getV 0) seqSrc) (setV 2) (ifF (orT (notT (bnd (bnd (getV 2) (isiM .int)) truthM)) (bnd (bnd (getV 2) (isiM .bool)) truthM)) (retF (pur (RB false))) (pur .nx)))
    (retF (m2 (getV 0) (getV 1) eqM))))
noncomputable def R_law_plain : List D → Res := runP 3 m_law_plain
theorem ok_law_plain (T : Txt P w K mg base ct) : OkP P w K mg base ct "_law_plain" 2 1 R_law_plain [] :=
  okP T.f_law_plain sc_law_plain (fun _ _ _ _ _ _ us hl => match us, hl with | [_, _], _ => rfl) fun f cdv A outer s H E hr =>
    (sds_cons (sd_if (WD.td (wd_or (td_not (td_truth (ed_isi .tuple (by decide) (by rfl) T.isinstance (nv 0) (pe_bltn (by rfl) T.tuple PyProof.Rows.boot_tuple rfl)))) (wd_or1 (td_ne (hu64 hr) (ed_blt (fun _ h => pe_callB call_len (by rfl) T.len PySem.boot_len h) lenM_ok (bd_cons (nv 0) bd_nil)) ed_int)))) (sds_one (sd_ret ed_bl)) sds_nil)
    (sds_cons (sd_for (passes_of rfl) rfl (id_seq (nv 0)) (gn 2 sc_law_plain.nd) (sds_one (sd_if (WD.td (wd_or (td_not (td_truth (ed_isi .int (by decide) (by rfl) T.isinstance (nv 2) (pe_bltn (by rfl) T.int PyProof.Rows.boot_int rfl)))) (wd_or1 (td_truth (ed_isi .bool (by decide) (by rfl) T.isinstance (nv 2) (pe_bltn (by rfl) T.bool PyProof.Rows.boot_bool rfl)))))) (sds_one (sd_ret ed_bl)) sds_nil)))
    (sds_one (sd_ret (ed_eq (hu64 hr) (nv 0) (nv 1))))))
abbrev N_law_text : List Str := ["_law_one"]
theorem sc_law_text : FnScope N_law_text ["_law_one"] (defScope s_law_text) := ⟨rfl, rfl, rfl, by decide +kernel, rfl, by decide +kernel, by decide +kernel⟩
noncomputable def m_law_text : M Fl := (retF (ifE (bnd (m2 (m2 (getV 0) (pur (RI 1)) ixM) (pur (RI 1)) eqM) asB) (bnd (consB (m2 (getV 0) (pur (RI 0)) ixM) (pur [])) strM) (m2 (m2 (bnd (consB (m2 (getV 0) (pur (RI 0)) ixM) (pur [])) strM) (pur (RS ("/" : Str))) addM) (bnd (consB (m2 (getV 0) (pur (RI 1)) ixM) (pur [])) strM) addM)))
noncomputable def R_law_text : List D → Res := runP 1 m_law_text
theorem ok_law_text (T : Txt P w K mg base ct) : OkP P w K mg base ct "_law_text" 1 1 R_law_text [] :=
  okP T.f_law_text sc_law_text (fun _ _ _ _ _ _ us hl => match us, hl with | [_], _ => rfl) fun f cdv A outer s H E hr =>
    (sds_one (sd_ret (ed_if (td_eq (hu64 hr) (ed_sub1 (nv 0) ed_int) ed_int) (ed_blt (fun _ h => pe_callTy call_str_int (by rfl) T.str PyProof.Rows.boot_str h) strM_ok (bd_cons (ed_sub1 (nv 0) ed_int) bd_nil)) (ed_add (ed_add (ed_blt (fun _ h => pe_callTy call_str_int (by rfl) T.str PyProof.Rows.boot_str h) strM_ok (bd_cons (ed_sub1 (nv 0) ed_int) bd_nil)) ed_str) (ed_blt (fun _ h => pe_callTy call_str_int (by rfl) T.str PyProof.Rows.boot_str h) strM_ok (bd_cons (ed_sub1 (nv 0) ed_int) bd_nil))))))
abbrev N_law_read : List Str := ["_law_text_here", "wrong"]
theorem sc_law_read : FnScope N_law_read ["_law_text_here"] (defScope s_law_read) := ⟨rfl, rfl, rfl, by decide +kernel, rfl, by decide +kernel, by decide +kernel⟩
noncomputable def m_law_read : M Fl := (tryF (retF (bnd (consA (getV 0) (pur [])) (callM 1 R_ratio_of []))) (exsOf 1 0) 1 (fieldH "what"))
noncomputable def R_law_read : List D → Res := runP 2 m_law_read
theorem ok_law_read (T : Txt P w K mg base ct) : OkP P w K mg base ct "_law_read" 1 4 R_law_read [] :=
  okP T.f_law_read sc_law_read (fun _ _ _ _ _ _ us hl => match us, hl with | [_], _ => rfl) fun f cdv A outer s H E hr =>
    (sds_one (sd_tryE (c := 0) (i := 1) T.h_BadRatio rfl rfl sc_law_read.nd rfl rfl (takes_of rfl rfl rfl rfl) exsOf_one (fun W pn xe tk hpo => (sds_one (sd_ret (ed_callP (ok_ratio_of T) (hr.mono (by decide)) tk (ad_cons (nv 0) ad_nil))))) (hd_field (i := 1) rfl T.h_BadRatio.xf T.no_BadRatio_what (fun _ _ _ => pv 1))))
abbrev N_law_long : List Str := ["_law_hand_here", "_law_number", "_law_turn"]
theorem sc_law_long : FnScope N_law_long ["_law_hand_here"] (defScope s_law_long) := ⟨rfl, rfl, rfl, by decide +kernel, rfl, by decide +kernel, by decide +kernel⟩
noncomputable def m_law_long : M Fl := (seqF (asgF (m2 (pur (RI 1)) (bnd (consA (getV 0) (consA (pur (RI 9)) (pur []))) (callH 2 R_law_take [])) addM) (setV 1))
    (seqF (forF (bnd (consB (pur (RI 299)) (pur [])) rng1) (setV 2) (asgF (m2 (m2 (getV 1) (pur (RI 10)) mulI) (bnd (consA (getV 0) (consA (pur (RI 10)) (pur []))) (callH 2 R_law_take [])) addM) (setV 1)))
    (retF (getV 1))))
noncomputable def R_law_long : List SV → Hand → Res × Hand := runH 3 m_law_long
theorem ok_law_long (T : Txt P w K mg base ct) : OkH P w K mg base ct "_law_long" 1 2 R_law_long :=
  okH T.f_law_long sc_law_long (fun _ _ _ _ _ _ us hl => match us, hl with | [_], _ => rfl) fun f cdv A outer s H E hr =>
    (sds_cons (sd_asg (ed_add ed_int (ed_callHP (ok_law_take T) (hr.mono (by decide)) (takes_of rfl rfl rfl rfl) (ad_cons (nv 0) (ad_cons ed_int ad_nil)))) (gn 1 sc_law_long.nd))
    (sds_cons (sd_for (passes_of rfl) rfl (id_range1 (by rfl) T.range (bd_cons ed_int bd_nil)) (gn 2 sc_law_long.nd) (sds_one (sd_asg (ed_add (ed_mulI (nv 1) ed_int) (ed_callHP (ok_law_take T) (hr.mono (by decide)) (takes_of rfl rfl rfl rfl) (ad_cons (nv 0) (ad_cons ed_int ad_nil)))) (gn 1 sc_law_long.nd))))
    (sds_one (sd_ret (nv 1)))))
abbrev N_law_spoilt : List Str := ["_law_one", "_law_way", "_law_text_here", "_law_size", "_law_top", "_law_bottom", "_law_rows"]
theorem sc_law_spoilt : FnScope N_law_spoilt ["_law_one", "_law_way"] (defScope s_law_spoilt) := ⟨rfl, rfl, rfl, by decide +kernel, rfl, by decide +kernel, by decide +kernel⟩
noncomputable def m_law_spoilt : M Fl := (seqF (asgF (bnd (bnd (consA (getV 0) (pur [])) (callM 1 R_law_text [])) frz) (setV 2))
    (seqF (asgF (bnd (bnd (consA (bnd (consA (bnd (consB (m2 (getV 0) (pur (RI 0)) ixM) (pur [])) absM) (consA (m2 (getV 0) (pur (RI 1)) ixM) (pur []))) tupM) (pur [])) (callM 1 R_law_text [])) frz) (setV 3))
    (seqF (parF 4 5 (consA (bnd (consB (m2 (getV 0) (pur (RI 0)) ixM) (pur [])) strM) (consA (bnd (consB (m2 (getV 0) (pur (RI 1)) ixM) (pur [])) strM) (pur []))))
    (seqF (asgF (bnd (bnd (consA (bnd (m2 (pur (RS ("+" : Str))) (getV 3) addM) frz) (consA (bnd (m2 (pur (RS (" " : Str))) (getV 2) addM) frz) (consA (bnd (m2 (getV 2) (pur (RS (" " : Str))) addM) frz) (consA (bnd (m2 (pur (RS ("0" : Str))) (getV 3) addM) frz) (consA (bnd (m2 (pur (RS ("-0" : Str))) (getV 3) addM) frz) (consA (bnd (m2 (m2 (getV 4) (pur (RS ("/" : Str))) addM) (bnd (consB (pur (RI 0)) (pur [])) strM) addM) frz) (consA (bnd (m2 (getV 2) (pur (RS ("/" : Str))) addM) frz) (consA (bnd (m2 (pur (RS ("/" : Str))) (getV 2) addM) frz) (pur []))))))))) lstM) frz) (setV 6))
    (seqF (asgF (bnd (m2 (getV 6) (bnd (consA (bnd (m2 (m2 (bnd (consB (m2 (m2 (getV 0) (pur (RI 0)) ixM) (pur (RI 2)) mulI) (pur [])) strM) (pur (RS ("/" : Str))) addM) (bnd (consB (m2 (m2 (getV 0) (pur (RI 1)) ixM) (pur (RI 2)) mulI) (pur [])) strM) addM) frz) (consA (bnd (m2 (m2 (getV 4) (pur (RS ("/-" : Str))) addM) (getV 5) addM) frz) (consA (bnd (m2 (m2 (getV 4) (pur (RS ("//" : Str))) addM) (getV 5) addM) frz) (consA (bnd (m2 (pur (RS ("--" : Str))) (getV 3) addM) frz) (consA (bnd (m2 (getV 2) (pur (RS ("x" : Str))) addM) frz) (consA (pur (RS ("" : Str))) (pur []))))))) lstM) addM) frz) (setV 6))
    (seqF (asgF (bnd (m2 (getV 6) (bnd (consA (bnd (m2 (getV 2) (pur (RS ("\n" : Str))) addM) frz) (consA (bnd (m2 (getV 3) (pur (RS ("_1" : Str))) addM) frz) (consA (bnd (m2 (m2 (m2 (getV 4) (pur (RS ("/" : Str))) addM) (getV 5) addM) (pur (RS ("/1" : Str))) addM) frz) (consA (pur (RS ("-0" : Str))) (consA (bnd (m2 (m2 (getV 4) (pur (RS ("/0" : Str))) addM) (getV 5) addM) frz) (consA (bnd (m2 (pur (RS ("0x" : Str))) (getV 3) addM) frz) (consA (pur (RS ("-" : Str))) (consA (pur (RS ("/" : Str))) (pur []))))))))) lstM) addM) frz) (setV 6))
    (retF (m2 (getV 6) (getV 1) ixM))))))))
noncomputable def R_law_spoilt : List D → Res := runP 7 m_law_spoilt
theorem ok_law_spoilt (T : Txt P w K mg base ct) : OkP P w K mg base ct "_law_spoilt" 2 2 R_law_spoilt [] :=
  okP T.f_law_spoilt sc_law_spoilt (fun _ _ _ _ _ _ us hl => match us, hl with | [_, _], _ => rfl) fun f cdv A outer s H E hr =>
    (sds_cons (sd_asg (ed_frz (ed_callP (ok_law_text T) (hr.mono (by decide)) (takes_of rfl rfl rfl rfl) (ad_cons (nv 0) ad_nil))) (gn 2 sc_law_spoilt.nd))
    (sds_cons (sd_asg (ed_frz (ed_callP (ok_law_text T) (hr.mono (by decide)) (takes_of rfl rfl rfl rfl) (ad_cons (ed_tup (ad_cons (ed_blt (fun _ h => pe_callB call_abs (by rfl) T.abs PyProof.Rows.boot_abs h) absM_ok (bd_cons (ed_sub1 (nv 0) ed_int) bd_nil)) (ad_cons (ed_sub1 (nv 0) ed_int) ad_nil))) ad_nil))) (gn 3 sc_law_spoilt.nd))
    (sds_cons (sd_par (i := 4) (j := 5) rfl sc_law_spoilt.nd rfl rfl (by decide) rfl rfl (ad_cons (ed_blt (fun _ h => pe_callTy call_str_int (by rfl) T.str PyProof.Rows.boot_str h) strM_ok (bd_cons (ed_sub1 (nv 0) ed_int) bd_nil)) (ad_cons (ed_blt (fun _ h => pe_callTy call_str_int (by rfl) T.str PyProof.Rows.boot_str h) strM_ok (bd_cons (ed_sub1 (nv 0) ed_int) bd_nil)) ad_nil)) (by rfl))
    (sds_cons (sd_asg (ed_frz (ed_lst (ad_cons (ed_frz (ed_add ed_str (nv 3))) (ad_cons (ed_frz (ed_add ed_str (nv 2))) (ad_cons (ed_frz (ed_add (nv 2) ed_str)) (ad_cons (ed_frz (ed_add ed_str (nv 3))) (ad_cons (ed_frz (ed_add ed_str (nv 3))) (ad_cons (ed_frz (ed_add (ed_add (nv 4) ed_str) (ed_blt (fun _ h => pe_callTy call_str_int (by rfl) T.str PyProof.Rows.boot_str h) strM_ok (bd_cons ed_int bd_nil)))) (ad_cons (ed_frz (ed_add (nv 2) ed_str)) (ad_cons (ed_frz (ed_add ed_str (nv 2))) ad_nil)))))))))) (gn 6 sc_law_spoilt.nd))
    (sds_cons (sd_asg (ed_frz (ed_add (nv 6) (ed_lst (ad_cons (ed_frz (ed_add (ed_add (ed_blt (fun _ h => pe_callTy call_str_int (by rfl) T.str PyProof.Rows.boot_str h) strM_ok (bd_cons (ed_mulI (ed_sub1 (nv 0) ed_int) ed_int) bd_nil)) ed_str) (ed_blt (fun _ h => pe_callTy call_str_int (by rfl) T.str PyProof.Rows.boot_str h) strM_ok (bd_cons (ed_mulI (ed_sub1 (nv 0) ed_int) ed_int) bd_nil)))) (ad_cons (ed_frz (ed_add (ed_add (nv 4) ed_str) (nv 5))) (ad_cons (ed_frz (ed_add (ed_add (nv 4) ed_str) (nv 5))) (ad_cons (ed_frz (ed_add ed_str (nv 3))) (ad_cons (ed_frz (ed_add (nv 2) ed_str)) (ad_cons ed_str ad_nil))))))))) (gn 6 sc_law_spoilt.nd))
    (sds_cons (sd_asg (ed_frz (ed_add (nv 6) (ed_lst (ad_cons (ed_frz (ed_add (nv 2) ed_str)) (ad_cons (ed_frz (ed_add (nv 3) ed_str)) (ad_cons (ed_frz (ed_add (ed_add (ed_add (nv 4) ed_str) (nv 5)) ed_str)) (ad_cons ed_str (ad_cons (ed_frz (ed_add (ed_add (nv 4) ed_str) (nv 5))) (ad_cons (ed_frz (ed_add ed_str (nv 3))) (ad_cons ed_str (ad_cons ed_str ad_nil))))))))))) (gn 6 sc_law_spoilt.nd))
    (sds_one (sd_ret (ed_sub1 (nv 6) (nv 1))))))))))
abbrev N_law : List Str := ["_law_script", "_law_hand_here", "_law_one", "_law_long_here", "_law_other", "_law_far", "_law_text_here", "_law_odd"]
theorem sc_law : FnScope N_law ["_law_script"] (defScope s_law) := ⟨rfl, rfl, rfl, by decide +kernel, rfl, by decide +kernel, by decide +kernel⟩
noncomputable def m_law : M Fl := (seqF (asgF (bnd (consA (getV 1) (pur [])) (callH 1 R_law_wide_ratio [])) (setV 2))
    (seqF (ifF (bnd (m2 (bnd (consA (getV 1) (consA (pur (RI 8)) (pur []))) (callH 2 R_law_take [])) (pur (RI 0)) eqM) asB) (seqF (asgF (bnd (bnd (consA (getV 1) (pur [])) (callH 1 R_law_long [])) frz) (setV 3))
    (seqF (asgF (bnd (bnd (consA (getV 1) (pur [])) (callH 1 R_law_long [])) frz) (setV 4))
    (seqF (asgF (m2 (bnd (consA (bnd (consA (getV 3) (consA (pur (RI 1)) (pur []))) tupM) (consA (bnd (consA (bnd (getV 3) negM) (consA (pur (RI 1)) (pur []))) tupM) (consA (bnd (consA (getV 3) (consA (getV 4) (pur []))) (callM 2 R_law_ratio [])) (consA (bnd (consA (pur (RI 1)) (consA (getV 3) (pur []))) (callM 2 R_law_ratio [])) (pur []))))) lstM) (bnd (consA (getV 1) (consA (pur (RI 4)) (pur []))) (callH 2 R_law_take [])) ixM) (setV 2))
    (ifF (orT (bnd (m2 (bnd (consA (bnd (m2 (bnd (consB (getV 3) (pur [])) strM) (pur (RS ("0" : Str))) addM) frz) (pur [])) (callM 1 R_law_read [])) (pur (RS ("text" : Str))) neM) asB) (orT (bnd (m2 (bnd (consA (bnd (m2 (m2 (pur (RS ("-" : Str))) (bnd (consB (getV 3) (pur [])) strM) addM) (pur (RS ("0" : Str))) addM) frz) (pur [])) (callM 1 R_law_read [])) (pur (RS ("text" : Str))) neM) asB) (bnd (m2 (bnd (consA (bnd (m2 (m2 (pur (RS ("1/" : Str))) (bnd (consB (getV 3) (pur [])) strM) addM) (pur (RS ("0" : Str))) addM) frz) (pur [])) (callM 1 R_law_read [])) (pur (RS ("text" : Str))) neM) asB))) (retF (pur (RB false))) (pur .nx))))) (pur .nx))
    (seqF (ifF (bnd (m2 (bnd (consA (getV 1) (consA (pur (RI 8)) (pur []))) (callH 2 R_law_take [])) (pur (RI 0)) eqM) asB) (seqF (asgF (m2 (bnd (consA (bnd (m2 (pur (RS ("7" : Str))) (pur (RI 5000)) mulSM) frz) (consA (bnd (m2 (pur (RS ("-" : Str))) (m2 (pur (RS ("7" : Str))) (pur (RI 4400)) mulSM) addM) frz) (consA (bnd (m2 (pur (RS ("1/" : Str))) (m2 (pur (RS ("3" : Str))) (pur (RI 4301)) mulSM) addM) frz) (consA (bnd (m2 (m2 (pur (RS ("9" : Str))) (pur (RI 4301)) mulSM) (pur (RS ("/2" : Str))) addM) frz) (pur []))))) lstM) (bnd (consA (getV 1) (consA (pur (RI 4)) (pur []))) (callH 2 R_law_take [])) ixM) (setV 5))
    (ifF (bnd (m2 (bnd (consA (getV 5) (pur [])) (callM 1 R_law_read [])) (pur (RS ("text" : Str))) neM) asB) (retF (pur (RB false))) (pur .nx))) (pur .nx))
    (seqF (asgF (bnd (bnd (consA (getV 2) (pur [])) (callM 1 R_ratio_text [])) frz) (setV 6))
    (seqF (ifF (orT (bnd (m2 (getV 6) (bnd (consA (getV 2) (pur [])) (callM 1 R_law_text [])) neM) asB) (notT (bnd (bnd (getV 6) (isiM .str)) truthM))) (retF (pur (RB false))) (pur .nx))
    (seqF (ifF (orT (notT (bnd (bnd (consA (bnd (bnd (consA (getV 6) (pur [])) (callM 1 R_ratio_of [])) frz) (consA (getV 2) (pur []))) (callM 2 R_law_plain [])) truthM)) (notT (bnd (bnd (consA (bnd (bnd (consA (bnd (bnd (consA (getV 2) (pur [])) (callM 1 R_law_text [])) frz) (pur [])) (callM 1 R_ratio_of [])) frz) (consA (getV 2) (pur []))) (callM 2 R_law_plain [])) truthM))) (retF (pur (RB false))) (pur .nx))
    (seqF (ifF (orT (bnd (m2 (bnd (consA (bnd (bnd (consA (getV 2) (consA (bnd (consA (getV 1) (consA (pur (RI 22)) (pur []))) (callH 2 R_law_take [])) (pur []))) (callM 2 R_law_spoilt [])) frz) (pur [])) (callM 1 R_law_read [])) (pur (RS ("text" : Str))) neM) asB) (bnd (m2 (bnd (consA (bnd (consB (m2 (getV 2) (pur (RI 0)) ixM) (pur [])) strM) (pur [])) (callM 1 R_law_read [])) (bnd (consA (m2 (getV 2) (pur (RI 0)) ixM) (consA (pur (RI 1)) (pur []))) tupM) neM) asB)) (retF (pur (RB false))) (pur .nx))
    (seqF (asgF (m2 (bnd (consA (pur RN) (consA (pur (RI 3)) (consA (getV 2) (consA (bnd (bnd (consA (getV 6) (pur [])) lstM) frz) (consA (pur (RB true)) (consA (bnd (consA (getV 6) (pur [])) tupM) (pur []))))))) lstM) (bnd (consA (getV 1) (consA (pur (RI 6)) (pur []))) (callH 2 R_law_take [])) ixM) (setV 7))
    (retF (andV (m2 (bnd (consA (getV 7) (pur [])) (callM 1 R_law_read [])) (pur (RS ("text" : Str))) eqM) (andV (bnd (consA (bnd (bnd (consA (pur (RS ("0" : Str))) (pur [])) (callM 1 R_ratio_of [])) frz) (consA (bnd (consA (pur (RI 0)) (consA (pur (RI 1)) (pur []))) tupM) (pur []))) (callM 2 R_law_plain [])) (m2 (bnd (consA (bnd (consA (pur (RI 0)) (consA (pur (RI 1)) (pur []))) tupM) (pur [])) (callM 1 R_ratio_text [])) (pur (RS ("0" : Str))) eqM))))))))))))
theorem ok_law (T : Txt P w K mg base ct) {f : Addr} {fd : FuncData} (F : FunD K "law" "law" (defArgs s_law) (defBody s_law) (defScope s_law) [] [] f fd) (hm : ∀ h, ∃ s', m_law (startL 8 h) = .ok (.rt (RB true)) s') : FnOk P w K mg base (L2.CX P w) 5 f fd ["_law_script"] (spLaw K) :=
  okL F sc_law (by decide) rfl hm fun cdv A outer s H E hr => ⟨hand_st (ok_law_hand T) (hr.mono (by decide)) (pv 0) (pg_name sc_law.nd rfl (.inl rfl)),
    (sds_cons (sd_asg (ed_callHP (ok_law_wide_ratio T) (hr.mono (by decide)) (takes_of rfl rfl rfl rfl) (ad_cons (nv 1) ad_nil)) (gn 2 sc_law.nd))
    (sds_cons (sd_if (td_eq (hu64 hr) (ed_callHP (ok_law_take T) (hr.mono (by decide)) (takes_of rfl rfl rfl rfl) (ad_cons (nv 1) (ad_cons ed_int ad_nil))) ed_int) (sds_cons (sd_asg (ed_frz (ed_callHP (ok_law_long T) (hr.mono (by decide)) (takes_of rfl rfl rfl rfl) (ad_cons (nv 1) ad_nil))) (gn 3 sc_law.nd))
    (sds_cons (sd_asg (ed_frz (ed_callHP (ok_law_long T) (hr.mono (by decide)) (takes_of rfl rfl rfl rfl) (ad_cons (nv 1) ad_nil))) (gn 4 sc_law.nd))
    (sds_cons (sd_asg (ed_sub1 (ed_lst (ad_cons (ed_tup (ad_cons (nv 3) (ad_cons ed_int ad_nil))) (ad_cons (ed_tup (ad_cons (ed_neg (nv 3)) (ad_cons ed_int ad_nil))) (ad_cons (ed_callP (ok_law_ratio T) (hr.mono (by decide)) (takes_of rfl rfl rfl rfl) (ad_cons (nv 3) (ad_cons (nv 4) ad_nil))) (ad_cons (ed_callP (ok_law_ratio T) (hr.mono (by decide)) (takes_of rfl rfl rfl rfl) (ad_cons ed_int (ad_cons (nv 3) ad_nil))) ad_nil))))) (ed_callHP (ok_law_take T) (hr.mono (by decide)) (takes_of rfl rfl rfl rfl) (ad_cons (nv 1) (ad_cons ed_int ad_nil)))) (gn 2 sc_law.nd))
    (sds_one (sd_if (WD.td (wd_or (td_ne (hu64 hr) (ed_callP (ok_law_read T) (hr.mono (by decide)) (takes_of rfl rfl rfl rfl) (ad_cons (ed_frz (ed_add (ed_blt (fun _ h => pe_callTy call_str_int (by rfl) T.str PyProof.Rows.boot_str h) strM_ok (bd_cons (nv 3) bd_nil)) ed_str)) ad_nil)) ed_str) (wd_or (td_ne (hu64 hr) (ed_callP (ok_law_read T) (hr.mono (by decide)) (takes_of rfl rfl rfl rfl) (ad_cons (ed_frz (ed_add (ed_add ed_str (ed_blt (fun _ h => pe_callTy call_str_int (by rfl) T.str PyProof.Rows.boot_str h) strM_ok (bd_cons (nv 3) bd_nil))) ed_str)) ad_nil)) ed_str) (wd_or1 (td_ne (hu64 hr) (ed_callP (ok_law_read T) (hr.mono (by decide)) (takes_of rfl rfl rfl rfl) (ad_cons (ed_frz (ed_add (ed_add ed_str (ed_blt (fun _ h => pe_callTy call_str_int (by rfl) T.str PyProof.Rows.boot_str h) strM_ok (bd_cons (nv 3) bd_nil))) ed_str)) ad_nil)) ed_str))))) (sds_one (sd_ret ed_bl)) sds_nil))))) sds_nil)
    (sds_cons (sd_if (td_eq (hu64 hr) (ed_callHP (ok_law_take T) (hr.mono (by decide)) (takes_of rfl rfl rfl rfl) (ad_cons (nv 1) (ad_cons ed_int ad_nil))) ed_int) (sds_cons (sd_asg (ed_sub1 (ed_lst (ad_cons (ed_frz (ed_mulS ed_str ed_int)) (ad_cons (ed_frz (ed_add ed_str (ed_mulS ed_str ed_int))) (ad_cons (ed_frz (ed_add ed_str (ed_mulS ed_str ed_int))) (ad_cons (ed_frz (ed_add (ed_mulS ed_str ed_int) ed_str)) ad_nil))))) (ed_callHP (ok_law_take T) (hr.mono (by decide)) (takes_of rfl rfl rfl rfl) (ad_cons (nv 1) (ad_cons ed_int ad_nil)))) (gn 5 sc_law.nd))
    (sds_one (sd_if (td_ne (hu64 hr) (ed_callP (ok_law_read T) (hr.mono (by decide)) (takes_of rfl rfl rfl rfl) (ad_cons (nv 5) ad_nil)) ed_str) (sds_one (sd_ret ed_bl)) sds_nil))) sds_nil)
    (sds_cons (sd_asg (ed_frz (ed_callP (ok_ratio_text T) (hr.mono (by decide)) (takes_of rfl rfl rfl rfl) (ad_cons (nv 2) ad_nil))) (gn 6 sc_law.nd))
    (sds_cons (sd_if (WD.td (wd_or (td_ne (hu64 hr) (nv 6) (ed_callP (ok_law_text T) (hr.mono (by decide)) (takes_of rfl rfl rfl rfl) (ad_cons (nv 2) ad_nil))) (wd_or1 (td_not (td_truth (ed_isi .str (by decide) (by rfl) T.isinstance (nv 6) (pe_bltn (by rfl) T.str PyProof.Rows.boot_str rfl))))))) (sds_one (sd_ret ed_bl)) sds_nil)
    (sds_cons (sd_if (WD.td (wd_or (td_not (td_truth (ed_callP (ok_law_plain T) (hr.mono (by decide)) (takes_of rfl rfl rfl rfl) (ad_cons (ed_frz (ed_callP (ok_ratio_of T) (hr.mono (by decide)) (takes_of rfl rfl rfl rfl) (ad_cons (nv 6) ad_nil))) (ad_cons (nv 2) ad_nil))))) (wd_or1 (td_not (td_truth (ed_callP (ok_law_plain T) (hr.mono (by decide)) (takes_of rfl rfl rfl rfl) (ad_cons (ed_frz (ed_callP (ok_ratio_of T) (hr.mono (by decide)) (takes_of rfl rfl rfl rfl) (ad_cons (ed_frz (ed_callP (ok_law_text T) (hr.mono (by decide)) (takes_of rfl rfl rfl rfl) (ad_cons (nv 2) ad_nil))) ad_nil))) (ad_cons (nv 2) ad_nil)))))))) (sds_one (sd_ret ed_bl)) sds_nil)
    (sds_cons (sd_if (WD.td (wd_or (td_ne (hu64 hr) (ed_callP (ok_law_read T) (hr.mono (by decide)) (takes_of rfl rfl rfl rfl) (ad_cons (ed_frz (ed_callP (ok_law_spoilt T) (hr.mono (by decide)) (takes_of rfl rfl rfl rfl) (ad_cons (nv 2) (ad_cons (ed_callHP (ok_law_take T) (hr.mono (by decide)) (takes_of rfl rfl rfl rfl) (ad_cons (nv 1) (ad_cons ed_int ad_nil))) ad_nil)))) ad_nil)) ed_str) (wd_or1 (td_ne (hu64 hr) (ed_callP (ok_law_read T) (hr.mono (by decide)) (takes_of rfl rfl rfl rfl) (ad_cons (ed_blt (fun _ h => pe_callTy call_str_int (by rfl) T.str PyProof.Rows.boot_str h) strM_ok (bd_cons (ed_sub1 (nv 2) ed_int) bd_nil)) ad_nil)) (ed_tup (ad_cons (ed_sub1 (nv 2) ed_int) (ad_cons ed_int ad_nil))))))) (sds_one (sd_ret ed_bl)) sds_nil)
    (sds_cons (sd_asg (ed_sub1 (ed_lst (ad_cons ed_non (ad_cons ed_int (ad_cons (nv 2) (ad_cons (ed_frz (ed_lst (ad_cons (nv 6) ad_nil))) (ad_cons ed_bl (ad_cons (ed_tup (ad_cons (nv 6) ad_nil)) ad_nil))))))) (ed_callHP (ok_law_take T) (hr.mono (by decide)) (takes_of rfl rfl rfl rfl) (ad_cons (nv 1) (ad_cons ed_int ad_nil)))) (gn 7 sc_law.nd))
    (sds_one (sd_ret (ed_and (ed_eq (hu64 hr) (ed_callP (ok_law_read T) (hr.mono (by decide)) (takes_of rfl rfl rfl rfl) (ad_cons (nv 7) ad_nil)) ed_str) (ed_and (ed_callP (ok_law_plain T) (hr.mono (by decide)) (takes_of rfl rfl rfl rfl) (ad_cons (ed_frz (ed_callP (ok_ratio_of T) (hr.mono (by decide)) (takes_of rfl rfl rfl rfl) (ad_cons ed_str ad_nil))) (ad_cons (ed_tup (ad_cons ed_int (ad_cons ed_int ad_nil))) ad_nil))) (ed_one (ed_eq (hu64 hr) (ed_callP (ok_ratio_text T) (hr.mono (by decide)) (takes_of rfl rfl rfl rfl) (ad_cons (ed_tup (ad_cons ed_int (ad_cons ed_int ad_nil))) ad_nil)) ed_str))))))))))))))⟩

end
end Law
set_option Elab.async false
set_option linter.all false
set_option maxRecDepth 100000
set_option maxHeartbeats 4000000
namespace Law
open PySem PySem.Spec PyProof.Rows L2 Fd
def dig (c : Nat) : Prop := 48 ≤ c ∧ c ≤ 57
theorem tenD : (Str.ofString "0123456789").cps.toList = [48, 49, 50, 51, 52, 53, 54, 55, 56, 57] := by decide +kernel
theorem in_digits (c : Nat) : (!(Builtin.Str.occurrences (Str.ofString "0123456789") ⟨#[c]⟩ 0 (Str.ofString "0123456789").length 1).isEmpty) = decide (48 ≤ c ∧ c ≤ 57) := by
  rw [PySem.StrLaws.found_one, tenD]
  apply decide_eq_decide.mpr
  simp
  omega
@[simp] theorem e_inS (n : Bool) (i j : Str) (s : S) : inS n (RS i) (RS j) s = .ok (RB (if n then !(!(Builtin.Str.occurrences j i 0 j.length 1).isEmpty) else !(Builtin.Str.occurrences j i 0 j.length 1).isEmpty)) s := rfl
abbrev bodyD : M Fl := (ifF (bnd (m2 (getV 1) (pur (RS ("0123456789" : Str))) (inS true)) asB) (retF (pur RN)) (pur .nx))
theorem body_dig (z : Str) (c : Nat) : bodyD ⟨[some (.dat (.str z)), some (.dat (.str ⟨#[c]⟩))], [], none⟩ = if 48 ≤ c ∧ c ≤ 57 then .ok .nx ⟨[some (.dat (.str z)), some (.dat (.str ⟨#[c]⟩))], [], none⟩ else .ok (.rt RN) ⟨[some (.dat (.str z)), some (.dat (.str ⟨#[c]⟩))], [], none⟩ := by
  have h := in_digits c
  by_cases k : 48 ≤ c ∧ c ≤ 57
  · rw [decide_eq_true k] at h
    rw [if_pos k]
    simp [bodyD, h]
  · rw [decide_eq_false k] at h
    rw [if_neg k]
    simp [bodyD, h]
theorem loop_dig {l : List SV} (z : Str) : ∀ (cs : List Nat) (a : Option SV), ∃ b, forL (Src.mk l none).Ok (setV 1) bodyD (cs.map fun c => .dat (.str ⟨#[c]⟩)) ⟨[some (.dat (.str z)), a], [], none⟩
    = if ∀ c ∈ cs, 48 ≤ c ∧ c ≤ 57 then .ok .nx ⟨[some (.dat (.str z)), b], [], none⟩ else .ok (.rt RN) ⟨[some (.dat (.str z)), b], [], none⟩ := by
  intro cs
  induction cs with
  | nil => intro a; exact ⟨a, by rw [List.map_nil, forL0, if_pos (by simp)]⟩
  | cons c cs ih =>
    intro a
    have e1 : setV 1 (.dat (.str ⟨#[c]⟩)) ⟨[some (.dat (.str z)), a], [], none⟩ = .ok () ⟨[some (.dat (.str z)), some (.dat (.str ⟨#[c]⟩))], [], none⟩ := rfl
    by_cases k : 48 ≤ c ∧ c ≤ 57
    · obtain ⟨b, hb⟩ := ih (some (.dat (.str ⟨#[c]⟩)))
      refine ⟨b, ?_⟩
      rw [List.map_cons, forL1, e1]
      simp only [body_dig, if_pos k, hb]
      by_cases q : ∀ x ∈ cs, 48 ≤ x ∧ x ≤ 57
      · rw [if_pos q, if_pos (by simpa using ⟨k, q⟩)]
      · rw [if_neg q, if_neg (fun w => q fun x hx => w x (by simp [hx]))]
    · refine ⟨some (.dat (.str ⟨#[c]⟩)), ?_⟩
      rw [List.map_cons, forL1, e1]
      simp only [body_dig, if_neg k]
      rw [if_neg (fun w => k (w c (by simp)))]
@[simp] theorem e_lenS (z : Str) (s : S) : lenM [RS z] s = if z.length ≤ 100000 then .ok (RI z.length) s else .bad := rfl
@[simp] theorem e_intS (z : Str) (s : S) : intS [RS z] s = match PySem.intText? z with
    | some n => if z.length ≤ 640 then .ok (RI n) s else .bad
    | none => .bad := rfl
def digs (z : Str) : Prop := ∀ c ∈ z.cps.toList, 48 ≤ c ∧ c ≤ 57
theorem okD_s0 : okD (.str ("" : Str)) = true := by decide +kernel
theorem str_ne {z : Str} (h : z.length ≠ 0) : (z == ("" : Str)) = false := by
  rw [beq_eq_false_iff_ne]
  intro e
  rw [e] at h
  exact h (by decide +kernel)
theorem v_read_no {z : Str} (hs : okD (.str z) = true) (hl : z.length ≤ 100000) (h : z = ("" : Str) ∨ 300 < z.length ∨ ¬ digs z) : R_read_digits [.str z] = .ret (.dat .non) := by
  by_cases e : z = ("" : Str)
  · subst e
    simp [R_read_digits, m_read_digits, okD_s0]
  · have e1 : (z == ("" : Str)) = false := by rw [beq_eq_false_iff_ne]; exact e
    by_cases c : (300 : Int) < z.length
    · simp [R_read_digits, m_read_digits, hs, okD_s0, e1, hl, c]
    · obtain ⟨b, hb⟩ := loop_dig (l := chars z) z z.cps.toList none
      have nd : ¬ ∀ c ∈ z.cps.toList, 48 ≤ c ∧ c ≤ 57 := by
        rcases h with h | h | h
        · exact absurd h e
        · omega
        · exact h
      rw [if_neg nd] at hb
      unfold chars at hb
      simp [R_read_digits, m_read_digits, hs, okD_s0, e1, hl, c, chars, hb]
theorem v_read_yes {z : Str} (hs : okD (.str z) = true) (h1 : 1 ≤ z.length) (h2 : z.length ≤ 300) (h : digs z) {n : Int} (e : PySem.intText? z = some n) : R_read_digits [.str z] = .ret (.dat (.int n)) := by
  have e1 : (z == ("" : Str)) = false := str_ne (by omega)
  have c : ¬ (300 : Int) < z.length := by omega
  have hl : z.length ≤ 100000 := by omega
  have h6 : z.length ≤ 640 := by omega
  obtain ⟨b, hb⟩ := loop_dig (l := chars z) z z.cps.toList none
  rw [if_pos (show ∀ c ∈ z.cps.toList, 48 ≤ c ∧ c ≤ 57 from h)] at hb
  unfold chars at hb
  simp [R_read_digits, m_read_digits, hs, okD_s0, e1, hl, c, chars, hb, e, h6]
end Law
set_option Elab.async false
set_option linter.all false
set_option maxRecDepth 100000
set_option maxHeartbeats 4000000
namespace Law
open PySem PySem.Spec PyProof.Rows L2 Fd
theorem at2 {α : Type} (x y : α) : atI [x, y] 0 = some x ∧ atI [x, y] 1 = some y := by unfold atI ixN; simp
theorem at20 {α : Type} (x y : α) : atI [x, y] 0 = some x := (at2 x y).1
theorem at21 {α : Type} (x y : α) : atI [x, y] 1 = some y := (at2 x y).2
abbrev tx (i : Int) : Str := Str.ofString (toString i)
@[simp] theorem e_strM (i : Int) (s : S) : strM [RI i] s = if i.natAbs.log2 < 1920 then .ok (RS (tx i)) s else .bad := rfl
@[simp] theorem e_fmtI (i : Int) (s : S) : fmtM (RI i) s = if i.natAbs.log2 < 1920 then .ok (RS (tx i)) s else .bad := rfl
@[simp] theorem e_join0 (acc : Str) (s : S) : joinM [] acc s = .ok (RS acc) s := rfl
@[simp] theorem e_join1 (m : M RV) (ms : List (M RV)) (acc : Str) (s : S) : joinM (m :: ms) acc s = match m s with
  | .ok (.sv (.dat (.str y))) s' => if (acc ++ y).length ≤ 100000 then joinM ms (acc ++ y) s' else .bad
  | .ok _ _ => .bad
  | .exc x s' => .exc x s'
  | .bad => .bad := by
  conv => lhs; unfold joinM bnd
  cases m s with
  | ok x s' =>
    cases x with
    | sv y => cases y with
      | dat d => cases d <;> rfl
      | ref => rfl
      | hand => rfl
    | new => rfl
  | exc => rfl
  | bad => rfl
end Law
set_option Elab.async false
set_option linter.all false
set_option maxRecDepth 100000
set_option maxHeartbeats 4000000
set_option exponentiation.threshold 500
namespace Law
open PySem PySem.Spec PyProof.Rows L2 Fd TL
def st (l : List Nat) : Str := ⟨l.toArray⟩
@[simp] theorem tl_st (l : List Nat) : tl (st l) = l := rfl
theorem st_tl (z : Str) : st (tl z) = z := mk_tl z
theorem st_app (a b : List Nat) : st a ++ st b = st (a ++ b) := ext_tl (by rw [tl_append]; rfl)
theorem st_len (l : List Nat) : (st l).length = l.length := by rw [len_tl]; rfl
theorem st_inj {a b : List Nat} (h : st a = st b) : a = b := congrArg tl h
theorem st_beq (a b : List Nat) : (st a == st b) = decide (a = b) := by
  by_cases h : a = b
  · subst h; simp
  · rw [decide_eq_false h, beq_eq_false_iff_ne]; exact fun e => h (st_inj e)
def okL (l : List Nat) : Prop := ∀ c ∈ l, c < 0x110000
theorem okD_st {l : List Nat} (h : okL l) : okD (.str (st l)) = true := by
  show (((Array.all l.toArray fun c => decide (c < 0x110000)) && decide (PyData.depth (.str (st l)) ≤ 64)) = true)
  rw [Bool.and_eq_true]
  refine ⟨?_, rfl⟩
  rw [List.all_toArray]
  exact List.all_eq_true.mpr fun c hc => decide_eq_true (h c hc)
/-! ## numbers -/
def sgL (l : List Nat) : Bool := l.head? == some 45
def spL (l : List Nat) : List Nat := if sgL l then l.tail else l
def zL (i : Int) : List Nat := if i < 0 then 45 :: numL i.natAbs else numL i.natAbs
theorem tx_st (i : Int) : tx i = st (zL i) := by
  refine ext_tl ?_
  cases i with
  | ofNat n =>
    rw [zL, if_neg (by simp)]
    exact tl_num n
  | negSucc n =>
    rw [zL, if_pos (Int.negSucc_lt_zero n), tl_ofString]
    show (("-" ++ Nat.repr (n + 1)).toList).map Char.toNat = 45 :: numL (n + 1)
    rw [String.toList_append, Nat.toList_repr]
    rfl
def digB (l : List Nat) : Bool := l.all fun c => decide (48 ≤ c ∧ c ≤ 57)
theorem digB_iff (l : List Nat) : digB l = true ↔ NumText.AllDigits l := by
  unfold digB NumText.AllDigits
  simp
theorem digB_num (n : Nat) : digB (numL n) = true := (digB_iff _).mpr (numL_digits n)
def dn (l : List Nat) : Option Int := if l ≠ [] ∧ l.length ≤ 300 ∧ digB l = true then some (NumText.digitsVal l : Nat) else none
theorem dn_num {n : Nat} (h : (numL n).length ≤ 300) : dn (numL n) = some (n : Int) := by
  rw [dn, if_pos ⟨numL_ne n, h, digB_num n⟩, numL_val]
theorem dn_bad {l : List Nat} {c : Nat} (h : c ∈ l) (hc : c < 48 ∨ 57 < c) : dn l = none := by
  rw [dn, if_neg]
  rintro ⟨_, _, h3⟩
  have := (digB_iff l).mp h3 c h
  omega
theorem dn_long {l : List Nat} (h : 300 < l.length) : dn l = none := by
  rw [dn, if_neg]
  rintro ⟨_, h2, _⟩
  omega
theorem dn_nil : dn [] = none := by rw [dn, if_neg]; simp
theorem dn_zero {l : List Nat} (h : dn l ≠ none) (h2 : l.length < 300) : dn (48 :: l) = dn l := by
  unfold dn at h
  split at h
  · rename_i c
    rw [dn, dn, if_pos c, if_pos ⟨by simp, by simp; omega, by
      have := c.2.2
      unfold digB at *
      simp [this]
      simpa using this⟩]
    rfl
  · exact absurd rfl h
theorem val_lt : ∀ (l : List Nat) (a : Nat), NumText.AllDigits l → l.foldl (fun acc c => acc * 10 + (c - 48)) a < (a + 1) * 10 ^ l.length
  | [], a, _ => by simp
  | c :: l, a, h => by
    have h1 := h c (by simp)
    have ih := val_lt l (a * 10 + (c - 48)) (fun d hd => h d (by simp [hd]))
    rw [List.foldl_cons, List.length_cons]
    refine Nat.lt_of_lt_of_le ih ?_
    rw [Nat.pow_succ, Nat.mul_comm (10 ^ l.length) 10, ← Nat.mul_assoc]
    exact Nat.mul_le_mul (by omega) (Nat.le_refl _)
theorem dn_le {l : List Nat} {n : Int} (h : dn l = some n) : 0 ≤ n ∧ n < 10 ^ 300 := by
  unfold dn at h
  split at h
  · rename_i c
    cases h
    have := val_lt l 0 ((digB_iff l).mp c.2.2)
    have h2 : (10 : Nat) ^ l.length ≤ 10 ^ 300 := Nat.pow_le_pow_right (by decide) c.2.1
    unfold NumText.digitsVal
    refine ⟨by omega, ?_⟩
    have : l.foldl (fun acc c => acc * 10 + (c - 48)) 0 < 10 ^ 300 := by omega
    exact_mod_cast this
  · cases h
theorem v_rd {l : List Nat} (hc : okL l) (hl : l.length ≤ 100000) : R_read_digits [.str (st l)] = .ret (.dat (match dn l with | some n => .int n | none => .non)) := by
  by_cases c : l ≠ [] ∧ l.length ≤ 300 ∧ digB l = true
  · have hd := (digB_iff l).mp c.2.2
    rw [dn, if_pos c]
    refine v_read_yes (okD_st hc) ?_ ?_ hd (intText_digits hd c.1 ?_)
    · rw [st_len]; have := c.1; cases l with | nil => exact absurd rfl this | cons => simp
    · rw [st_len]; exact c.2.1
    · rw [st_len]; omega
  · rw [dn, if_neg c]
    refine v_read_no (okD_st hc) (by rw [st_len]; exact hl) ?_
    by_cases c1 : l = []
    · exact .inl (by rw [c1]; rfl)
    · by_cases c2 : l.length ≤ 300
      · exact .inr (.inr fun w => c ⟨c1, c2, (digB_iff l).mpr w⟩)
      · exact .inr (.inl (by rw [st_len]; omega))
end Law
set_option Elab.async false
set_option linter.all false
set_option maxRecDepth 100000
set_option maxHeartbeats 4000000
set_option exponentiation.threshold 500
namespace Law
open PySem PySem.Spec PyProof.Rows L2 Fd TL
theorem dash : ("-" : Str) = st [45] := rfl
theorem slash : ("/" : Str) = st [47] := rfl
theorem sw_st (l : List Nat) : Txt.startswith (st l) (st [45]) = sgL l := by
  unfold Txt.startswith
  rw [StrLaws.subAt_eq, st_len, st_len]
  cases l with
  | nil => rfl
  | cons c r => simp [sgL, st]
theorem rp_st (l : List Nat) : Txt.removeprefix (st l) (st [45]) = st (spL l) := by
  rw [StrLaws.removeprefix_eq, StrLaws.subAt_eq, st_len, st_len]
  cases l with
  | nil => rfl
  | cons c r =>
    by_cases h : c = 45
    · subst h
      simp [spL, sgL, st]
    · have : spL (c :: r) = c :: r := by simp [spL, sgL, h]
      rw [this]
      simp [st, h]
def hdL (l : List Nat) : List Nat := l.takeWhile (· != 47)
def tlL (l : List Nat) : List Nat := l.dropWhile (· != 47)
theorem hdL_free : ∀ l : List Nat, 47 ∉ hdL l
  | [], h => by cases h
  | c :: r, h => by
    unfold hdL at h
    by_cases e : c = 47
    · simp [e] at h
    · rw [List.takeWhile_cons_of_pos (by simpa using e)] at h
      rcases List.mem_cons.mp h with h | h
      · exact e h.symm
      · exact hdL_free r h
theorem pt_st (l : List Nat) : Txt.partition (st l) (st [47]) = (st (hdL l), if tlL l = [] then st [] else st [47], st (tlL l).tail) := by
  have e : hdL l ++ tlL l = l := List.takeWhile_append_dropWhile
  cases h : tlL l with
  | nil =>
    rw [h, List.append_nil] at e
    have := partition_none (y := st [47]) (s := 47) (S := []) rfl (a := st l) (by rw [tl_st, ← e]; exact hdL_free l)
    rw [this, e]
    rfl
  | cons c t =>
    have hc : c = 47 := by
      have := List.head_dropWhile_not (p := fun x : Nat => x != 47) (l := l) (by unfold tlL at h; rw [h]; simp)
      unfold tlL at h
      simpa [h] using this
    subst hc
    rw [h] at e
    have := partition_app (y := st [47]) (s := 47) (S := []) rfl (a := st (hdL l)) (b := st t) (by rw [tl_st]; exact hdL_free l)
    rw [st_app, st_app] at this
    rw [if_neg (by simp), List.append_assoc] at *
    rw [show [47] ++ t = 47 :: t from rfl, e] at this
    exact this
theorem mem_hdL {l : List Nat} {c : Nat} (h : c ∈ hdL l) : c ∈ l := (List.takeWhile_prefix _).subset h
theorem mem_tlL {l : List Nat} {c : Nat} (h : c ∈ tlL l) : c ∈ l := (List.dropWhile_suffix _).subset h
theorem mem_spL {l : List Nat} {c : Nat} (h : c ∈ spL l) : c ∈ l := by
  unfold spL at h
  split at h
  · exact List.mem_of_mem_tail h
  · exact h
theorem len_hdL (l : List Nat) : (hdL l).length ≤ l.length := (List.takeWhile_prefix _).length_le
theorem len_tlL (l : List Nat) : (tlL l).length ≤ l.length := (List.dropWhile_suffix _).length_le
theorem len_spL (l : List Nat) : (spL l).length ≤ l.length := by
  unfold spL
  split
  · simp
  · exact Nat.le_refl _
end Law
set_option Elab.async false
set_option linter.all false
set_option maxRecDepth 100000
set_option maxHeartbeats 4000000
set_option exponentiation.threshold 2000
namespace Law
open PySem PySem.Spec PyProof.Rows L2 Fd TL
abbrev XT : Res := .exc ⟨0, [("what", .str "text")]⟩
abbrev DS (l : List Nat) : D := .str (st l)
theorem okD_z : okD (.str ("text" : Str)) = true := by decide +kernel
theorem okD_what : okD (.str ("-" : Str)) = true := by decide +kernel
@[simp] theorem e_startsM (a b : Str) (s : S) : startsM a (RS b) s = .ok (RB (Txt.startswith a b)) s := rfl
@[simp] theorem e_rmpM (a b : Str) (s : S) : rmpM a (RS b) s = if a.length ≤ 100000 then .ok (RS (Txt.removeprefix a b)) s else .bad := rfl
@[simp] theorem e_partM (a b : Str) (s : S) : partM a (RS b) s = if a.length ≤ 100000 ∧ (b.length == 0) = false then .ok (RT [.str (Txt.partition a b).1, .str (Txt.partition a b).2.1, .str (Txt.partition a b).2.2]) s else .bad := rfl
@[simp] theorem e_mS (mo me : M RV) (f) (s : S) : mS mo me f s = match mo s with
  | .ok (.sv (.dat (.str a))) s' => bnd me (fun y => f a y) s'
  | .ok _ _ => .bad
  | .exc x s' => .exc x s'
  | .bad => .bad := by
  conv => lhs; unfold mS bnd
  cases mo s with
  | ok x s' =>
    cases x with
    | sv y => cases y with
      | dat d => cases d <;> rfl
      | ref => rfl
      | hand => rfl
    | new => rfl
  | exc => rfl
  | bad => rfl
@[simp] theorem e_trS (z : Str) (s : S) : trB s (RS z) = if z.length ≤ 100000 then some ((z.length : Int) != 0) else none := rfl
/-- the text of a ratio -/
def rtL (a b : Int) : List Nat := if b = 1 then zL a else zL a ++ 47 :: zL b
theorem zL_len {a : Int} (h : a.natAbs < 10 ^ 400) : (zL a).length ≤ 401 := by
  have := numL_len (n := a.natAbs) (k := 400) (by decide) h
  unfold zL
  split <;> simp <;> omega
theorem log_of {a : Int} (h : a.natAbs < 10 ^ 400) : a.natAbs.log2 < 1920 := by
  by_cases c : a.natAbs = 0
  · rw [c]; decide
  · exact (Nat.log2_lt c).mpr (Nat.lt_trans h (by decide))
theorem v_rt {a b : Int} (ha : a.natAbs < 10 ^ 400) (hb : b.natAbs < 10 ^ 400) : R_ratio_text [.tup [.int a, .int b]] = .ret (.dat (DS (rtL a b))) := by
  have h1 := zL_len ha
  have h2 := zL_len hb
  by_cases c : b = 1
  · simp [R_ratio_text, m_ratio_text, at20, at21, c, log_of ha, rtL, tx_st]
  · have e1 : (Str.empty ++ tx a).length ≤ 100000 := by rw [tx_st, show Str.empty = st [] from rfl, st_app, st_len]; simp; omega
    have e2 : (Str.empty ++ tx a ++ "/").length ≤ 100000 := by rw [tx_st, show Str.empty = st [] from rfl, slash, st_app, st_app, st_len]; simp; omega
    have e3 : (Str.empty ++ tx a ++ "/" ++ tx b).length ≤ 100000 := by rw [tx_st, tx_st, show Str.empty = st [] from rfl, slash, st_app, st_app, st_app, st_len]; simp; omega
    have e4 : Str.empty ++ tx a ++ "/" ++ tx b = st (zL a ++ 47 :: zL b) := by rw [tx_st, tx_st, show Str.empty = st [] from rfl, slash, st_app, st_app, st_app]; simp
    rw [e4] at e3
    simp [R_ratio_text, m_ratio_text, at20, at21, c, log_of ha, log_of hb, rtL, e1, e2, e3, e4]
end Law
set_option Elab.async false
set_option linter.all false
set_option maxRecDepth 100000
set_option maxHeartbeats 4000000
set_option exponentiation.threshold 2000
namespace Law
open PySem PySem.Spec PyProof.Rows L2 Fd TL
abbrev QD (a b : Int) : D := .tup [.int a, .int b]
theorem v_lowest {a b : Int} (hb : b ≠ 0) {n : Nat} (h : Bd n b) (hn : n < 9000) : R_lowest_terms [.int a, .int b] = .ret (.dat (QD (nT a b) (nB a b))) := by
  have h1 : ∀ x : Int, divC x (gI a b) = true := fun x => Bd.divC (n := n) (bd_le h (gI_le hb)) (by have := gI_pos (a := a) hb; omega)
  have h2 := low_T a b
  have h3 := low_B a b
  unfold gI at h1 h2 h3
  by_cases c : b < 0
  · simp [c] at h2 h3
    simp [R_lowest_terms, m_lowest_terms, c, h1, h2, h3]
  · simp [c] at h2 h3
    simp [R_lowest_terms, m_lowest_terms, c, h1, h2, h3]
@[simp] theorem ty_ss : subTy .str .str = true := rfl
theorem numL_ok (n : Nat) : okL (numL n) := fun c hc => by have := numL_digits n c hc; omega
theorem zL_ok (a : Int) : okL (zL a) := fun c hc => by
  unfold zL at hc
  split at hc
  · rcases List.mem_cons.mp hc with h | h
    · omega
    · exact numL_ok _ c h
  · exact numL_ok _ c hc
theorem okL_app {a b : List Nat} (h : okL a) (k : okL b) : okL (a ++ b) := fun c hc => by
  rcases List.mem_append.mp hc with q | q
  · exact h c q
  · exact k c q
theorem okL_cons {a : Nat} {b : List Nat} (h : a < 0x110000) (k : okL b) : okL (a :: b) := fun c hc => by
  rcases List.mem_cons.mp hc with q | q
  · omega
  · exact k c q
theorem okL_nil : okL [] := fun c hc => by cases hc
theorem rtL_ok (a b : Int) : okL (rtL a b) := by
  unfold rtL
  split
  · exact zL_ok a
  · exact okL_app (zL_ok a) (okL_cons (by decide) (zL_ok b))
def botL (l : List Nat) : Option Int := match tlL (spL l) with
  | [] => some 1
  | _ :: t => dn t
theorem okL_sub {a l : List Nat} (h : okL l) (s : ∀ c, c ∈ a → c ∈ l) : okL a := fun c hc => h c (s c hc)
theorem dn_nz {l : List Nat} {q : Int} (h : dn l = some q) (hq : q ≠ 0) : q.natAbs < 10 ^ 300 ∧ 0 < q := by
  have := dn_le h
  omega
theorem botL_le {l : List Nat} {q : Int} (h : botL l = some q) (hq : q ≠ 0) : q.natAbs < 10 ^ 300 ∧ 0 < q := by
  unfold botL at h
  split at h
  · cases h; decide
  · exact dn_nz h hq
section
variable {l : List Nat} (hc : okL l) (hl : l.length ≤ 100000)
include hc hl
theorem rd_hd : R_read_digits [DS (hdL (spL l))] = .ret (.dat (match dn (hdL (spL l)) with | some n => .int n | none => .non)) :=
  v_rd (okL_sub hc fun c h => mem_spL (mem_hdL h)) (by have := len_hdL (spL l); have := len_spL l; omega)
theorem rd_tl : R_read_digits [DS (tlL (spL l)).tail] = .ret (.dat (match dn (tlL (spL l)).tail with | some n => .int n | none => .non)) :=
  v_rd (okL_sub hc fun c h => mem_spL (mem_tlL (List.mem_of_mem_tail h))) (by have := len_tlL (spL l); have := len_spL l; simp; omega)
theorem ro_bad (h : dn (hdL (spL l)) = none ∨ botL l = none ∨ botL l = some 0) : R_ratio_of [DS l] = XT := by
  have r1 := rd_hd hc hl
  have r2 := rd_tl hc hl
  have b1 := len_spL l
  have b2 : (spL l).length ≤ 100000 := by omega
  unfold botL at h
  cases e : tlL (spL l) with
  | nil =>
    rw [e] at h
    have h' : dn (hdL (spL l)) = none := by simpa using h
    rw [h'] at r1
    simp [R_ratio_of, m_ratio_of, dash, slash, rp_st, pt_st, st_len, hl, b2, e, r1]
  | cons c t =>
    rw [e] at h r2
    cases e1 : dn (hdL (spL l)) with
    | none =>
      rw [e1] at r1
      cases e2 : dn t with
      | none =>
        rw [List.tail_cons, e2] at r2
        simp [R_ratio_of, m_ratio_of, dash, slash, rp_st, pt_st, st_len, hl, b2, e, r1, r2]
      | some q =>
        rw [List.tail_cons, e2] at r2
        simp [R_ratio_of, m_ratio_of, dash, slash, rp_st, pt_st, st_len, hl, b2, e, r1, r2]
    | some p =>
      rw [e1] at r1 h
      have h' : dn t = none ∨ dn t = some 0 := by simpa using h
      rcases h' with h' | h'
      · rw [List.tail_cons, h'] at r2
        simp [R_ratio_of, m_ratio_of, dash, slash, rp_st, pt_st, st_len, hl, b2, e, r1, r2]
      · rw [List.tail_cons, h'] at r2
        simp [R_ratio_of, m_ratio_of, dash, slash, rp_st, pt_st, st_len, hl, b2, e, r1, r2]
theorem ro_fin {p q : Int} (h1 : dn (hdL (spL l)) = some p) (h2 : botL l = some q) (hq : q ≠ 0) : R_ratio_of [DS l] = 
    if rtL (nT (if sgL l then -p else p) q) (nB (if sgL l then -p else p) q) = l then .ret (.dat (.tup [.int (nT (if sgL l then -p else p) q), .int (nB (if sgL l then -p else p) q)])) else XT := by
  have r1 := rd_hd hc hl
  have r2 := rd_tl hc hl
  have b1 := len_spL l
  have b2 : (spL l).length ≤ 100000 := by omega
  obtain ⟨q1, q0⟩ := botL_le h2 hq
  have p1 := dn_le h1
  rw [h1] at r1
  have low : ∀ a : Int, R_lowest_terms [.int a, .int q] = .ret (.dat (QD (nT a q) (nB a q))) := fun a => v_lowest (n := 1400) hq (Nat.lt_trans q1 (by decide)) (by decide)
  have rt : ∀ a : Int, a.natAbs < 10 ^ 300 → R_ratio_text [QD (nT a q) (nB a q)] = .ret (.dat (DS (rtL (nT a q) (nB a q)))) := fun a ha => v_rt (by have := nT_le a q; omega) (by have := nB_le a q; omega)
  have a1 : p.natAbs < 10 ^ 300 := by omega
  have a2 : (-p).natAbs < 10 ^ 300 := by omega
  have ok1 := okD_st hc
  have lk : ∀ a : Int, a.natAbs < 10 ^ 300 → okD (DS (rtL (nT a q) (nB a q))) = true := fun a _ => okD_st (rtL_ok _ _)
  unfold botL at h2
  cases e : tlL (spL l) with
  | nil =>
    rw [e] at h2
    cases h2
    cases sg : sgL l <;> by_cases c : rtL (nT (if sgL l then -p else p) 1) (nB (if sgL l then -p else p) 1) = l <;> simp [sg] at c <;>
    simp [R_ratio_of, m_ratio_of, dash, slash, rp_st, pt_st, sw_st, st_len, hl, b2, e, r1, sg, low, rt _ a1, rt _ a2, lk _ a1, lk _ a2, ok1, st_beq, c]
  | cons c t =>
    rw [e] at h2 r2
    have h2' : dn t = some q := h2
    rw [List.tail_cons, h2'] at r2
    cases sg : sgL l <;> by_cases c : rtL (nT (if sgL l then -p else p) q) (nB (if sgL l then -p else p) q) = l <;> simp [sg] at c <;>
    simp [R_ratio_of, m_ratio_of, dash, slash, rp_st, pt_st, sw_st, st_len, hl, b2, e, r1, r2, sg, low, rt _ a1, rt _ a2, lk _ a1, lk _ a2, ok1, st_beq, hq, c]
end
end Law
set_option Elab.async false
set_option linter.all false
set_option maxRecDepth 100000
set_option maxHeartbeats 4000000
set_option exponentiation.threshold 2000
namespace Law
open PySem PySem.Spec PyProof.Rows L2 Fd TL
/-! ## parts of texts -/
theorem hd_app {n r : List Nat} (h : 47 ∉ n) : hdL (n ++ r) = n ++ hdL r := by
  induction n with
  | nil => rfl
  | cons c n ih =>
    have h1 : c ≠ 47 := fun e => h (by simp [e])
    unfold hdL at ih ⊢
    rw [List.cons_append, List.takeWhile_cons_of_pos (by simpa using h1), ih (fun q => h (by simp [q]))]
    rfl
theorem tl_app {n r : List Nat} (h : 47 ∉ n) : tlL (n ++ r) = tlL r := by
  induction n with
  | nil => rfl
  | cons c n ih =>
    have h1 : c ≠ 47 := fun e => h (by simp [e])
    unfold tlL at ih ⊢
    rw [List.cons_append, List.dropWhile_cons_of_pos (by simpa using h1), ih (fun q => h (by simp [q]))]
theorem hd_47 (r : List Nat) : hdL (47 :: r) = [] := rfl
theorem tl_47 (r : List Nat) : tlL (47 :: r) = 47 :: r := rfl
theorem n47 (n : Nat) : 47 ∉ numL n := numL_free (by decide)
theorem sg_num (n : Nat) (r : List Nat) : sgL (numL n ++ r) = false := by
  have h := numL_digits n
  have h0 := numL_ne n
  cases e : numL n with
  | nil => exact absurd e h0
  | cons c t =>
    have := h c (by rw [e]; simp)
    simp [sgL]
    omega
theorem sp_num (n : Nat) (r : List Nat) : spL (numL n ++ r) = numL n ++ r := by rw [spL, sg_num]; rfl
theorem sg_z (a : Int) (r : List Nat) : sgL (zL a ++ r) = decide (a < 0) := by
  unfold zL
  split
  · rename_i h; simp [sgL, h]
  · rename_i h; rw [sg_num, decide_eq_false h]
theorem sp_z (a : Int) (r : List Nat) : spL (zL a ++ r) = numL a.natAbs ++ r := by
  unfold zL
  split
  · rfl
  · exact sp_num _ _
theorem sp_o {c : Nat} (r : List Nat) (h : c ≠ 45) : spL (c :: r) = c :: r := by simp [spL, sgL, h]
theorem sp_m (r : List Nat) : spL (45 :: r) = r := rfl
def tb (b : Int) : List Nat := if b = 1 then [] else 47 :: zL b
theorem rtL_eq (a b : Int) : rtL a b = zL a ++ tb b := by
  unfold rtL tb
  split <;> simp
structure Q (a b : Int) : Prop where
  pos : 0 < b
  cop : gI a b = 1
  ha : (numL a.natAbs).length ≤ 300
  hb : (numL b.natAbs).length ≤ 300
theorem zp {b : Int} (h : 0 ≤ b) : zL b = numL b.natAbs := by unfold zL; rw [if_neg (by omega)]
section
variable {a b : Int}
theorem Q.same (q : Q a b) : nT a b = a ∧ nB a b = b := by
  have := q.pos
  unfold nT nB
  rw [q.cop, if_neg (by omega), if_neg (by omega)]
  simp
theorem gI_abs (a b : Int) : gI (a.natAbs : Int) b = gI a b := by unfold gI; simp
theorem Q.abs (q : Q a b) : Q (a.natAbs : Int) b := ⟨q.pos, by rw [gI_abs]; exact q.cop, by simpa using q.ha, q.hb⟩
theorem gI_neg (a b : Int) : gI (-a) b = gI a b := by unfold gI; simp
theorem Q.neg (q : Q a b) : Q (-a) b := ⟨q.pos, by rw [gI_neg]; exact q.cop, by simpa using q.ha, q.hb⟩
theorem Q.a400 (q : Q a b) : a.natAbs < 10 ^ 300 := by
  have := (Nat.length_toDigits_le_iff (n := a.natAbs) (b := 10) (k := 300) (by decide) (by decide)).mp (by simpa [numL] using q.ha)
  exact this
theorem Q.b400 (q : Q a b) : b.natAbs < 10 ^ 300 := by
  have := (Nat.length_toDigits_le_iff (n := b.natAbs) (b := 10) (k := 300) (by decide) (by decide)).mp (by simpa [numL] using q.hb)
  exact this
theorem natI (h : 0 < b) : ((b.natAbs : Nat) : Int) = b := by omega
/-- the bottom that stands behind n -/
theorem bot_tb (q : Q a b) {l : List Nat} (h : tlL (spL l) = tb b) : botL l = some b := by
  unfold botL
  rw [h]
  unfold tb
  by_cases c : b = 1
  · rw [if_pos c, c]
  · rw [if_neg c]
    show dn (zL b) = some b
    rw [zp (Int.le_of_lt q.pos), dn_num q.hb, natI q.pos]
theorem tl_tb (b : Int) : tlL (tb b) = tb b := by unfold tb; split <;> rfl
theorem hd_tb (b : Int) : hdL (tb b) = [] := by unfold tb; split <;> rfl
/-- read back -/
theorem ro_back (q : Q a b) : R_ratio_of [DS (rtL a b)] = .ret (.dat (QD a b)) := by
  have h1 : hdL (spL (rtL a b)) = numL a.natAbs := by rw [rtL_eq, sp_z, hd_app (n47 _), hd_tb, List.append_nil]
  have h2 : tlL (spL (rtL a b)) = tb b := by rw [rtL_eq, sp_z, tl_app (n47 _), tl_tb]
  have h3 : (if sgL (rtL a b) = true then -((a.natAbs : Nat) : Int) else ((a.natAbs : Nat) : Int)) = a := by
    rw [rtL_eq, sg_z]
    by_cases c : a < 0
    · rw [decide_eq_true c, if_pos rfl]; omega
    · rw [decide_eq_false c, if_neg (by decide)]; omega
  have h4 : (rtL a b).length ≤ 100000 := by
    have := zL_len (a := a) (Nat.lt_trans q.a400 (by decide))
    have := zL_len (a := b) (Nat.lt_trans q.b400 (by decide))
    unfold rtL; split <;> simp <;> omega
  have h5 := ro_fin (rtL_ok a b) h4 (p := a.natAbs) (by rw [h1]; exact dn_num q.ha) (bot_tb q h2) (by have := q.pos; omega)
  rw [h3, q.same.1, q.same.2, if_pos rfl] at h5
  exact h5
/-- the same ratio's other text -/
theorem ro_other {l : List Nat} {p q : Int} (hc : okL l) (hl : l.length ≤ 100000) (h1 : dn (hdL (spL l)) = none ∨ dn (hdL (spL l)) = some p) (h2 : botL l = none ∨ botL l = some q) (h : rtL (nT (if sgL l then -p else p) q) (nB (if sgL l then -p else p) q) ≠ l) : R_ratio_of [DS l] = XT := by
  rcases h1 with h1 | h1
  · exact ro_bad hc hl (.inl h1)
  · rcases h2 with h2 | h2
    · exact ro_bad hc hl (.inr (.inl h2))
    · by_cases z : q = 0
      · exact ro_bad hc hl (.inr (.inr (by rw [h2, z])))
      · rw [ro_fin hc hl h1 h2 z, if_neg h]
end
end Law
set_option Elab.async false
set_option linter.all false
set_option maxRecDepth 100000
set_option maxHeartbeats 4000000
set_option exponentiation.threshold 2000
namespace Law
open PySem PySem.Spec PyProof.Rows L2 Fd TL
section
variable {a b : Int}
theorem rt_len {a b : Int} (ha : a.natAbs < 10 ^ 400) (hb : b.natAbs < 10 ^ 400) : (rtL a b).length ≤ 803 := by
  have := zL_len ha
  have := zL_len hb
  unfold rtL; split <;> simp <;> omega
theorem Q.rl (q : Q a b) : (rtL a b).length ≤ 803 := rt_len (Nat.lt_trans q.a400 (by decide)) (Nat.lt_trans q.b400 (by decide))
theorem sz_eq (a b : Int) : rtL (a.natAbs : Int) b = numL a.natAbs ++ tb b := by rw [rtL_eq, zp (by omega)]; simp
/-- a wrong sign first -/
theorem f_bad {c : Nat} {r : List Nat} (hk : okL r) (hl : r.length ≤ 99999) (h : c ≠ 45) (h1 : c ≠ 47) (h2 : c < 48 ∨ 57 < c) (h3 : c < 1000) : R_ratio_of [DS (c :: r)] = XT := by
  refine ro_bad (okL_cons (by omega) hk) (by simp; omega) (.inl ?_)
  rw [sp_o r h]
  refine dn_bad (c := c) ?_ h2
  unfold hdL
  rw [List.takeWhile_cons_of_pos (by simpa using h1)]
  simp
/-- a wrong sign behind -/
theorem e_bad (q : Q a b) {w : List Nat} {c : Nat} (hk : okL w) (hl : w.length ≤ 90000) (hc : c ∈ hdL w) (h2 : c < 48 ∨ 57 < c) : R_ratio_of [DS (rtL a b ++ w)] = XT := by
  have hr := q.rl
  by_cases z : b = 1
  · refine ro_bad (okL_app (rtL_ok a b) hk) (by simp; omega) (.inl ?_)
    rw [rtL_eq, List.append_assoc, sp_z, hd_app (n47 _), tb, if_pos z, List.nil_append]
    exact dn_bad (c := c) (by simp [hc]) h2
  · refine ro_bad (okL_app (rtL_ok a b) hk) (by simp; omega) (.inr (.inl ?_))
    unfold botL
    rw [rtL_eq, List.append_assoc, sp_z, tl_app (n47 _), tb, if_neg z, List.cons_append, tl_47]
    exact dn_bad (c := c) (List.mem_append_right _ (mem_hdL hc)) h2
theorem dn0 (n : Nat) : dn (48 :: numL n) = none ∨ dn (48 :: numL n) = some (n : Int) := by
  by_cases h : dn (numL n) = none
  · unfold dn at h ⊢
    split at h
    · cases h
    · rename_i k
      left
      rw [if_neg]
      rintro ⟨_, h2, h3⟩
      exact k ⟨numL_ne n, by simp at h2; omega, digB_num n⟩
  · have e : dn (numL n) = some (n : Int) := by
      unfold dn at h ⊢
      split at h
      · rename_i k; rw [if_pos k, numL_val]
      · exact absurd rfl h
    by_cases l : (numL n).length < 300
    · right; rw [dn_zero h l, e]
    · left; exact dn_long (by simp; omega)
theorem dnN (n : Nat) : dn (numL n) = none ∨ dn (numL n) = some (n : Int) := by
  by_cases l : (numL n).length ≤ 300
  · exact .inr (dn_num l)
  · exact .inl (dn_long (by omega))
theorem okS (n : Nat) (b : Int) : okL (numL n ++ tb b) := by
  have := rtL_ok (n : Int) b
  have e := sz_eq (n : Int) b
  simp at e
  rw [← e]; exact this
theorem Q.sl (q : Q a b) : (numL a.natAbs ++ tb b).length ≤ 803 := by
  have := q.abs.rl
  rwa [sz_eq] at this
theorem z3 (q : Q a b) : R_ratio_of [DS (48 :: (numL a.natAbs ++ tb b))] = XT := by
  have hl := q.sl
  refine ro_other (p := a.natAbs) (q := b) (okL_cons (by decide) (okS _ _)) (by simp at hl ⊢; omega) ?_ (.inr (bot_tb q ?_)) ?_
  · rw [sp_o _ (by decide), ← List.cons_append, hd_app (by have := n47 a.natAbs; simp [this]), hd_tb, List.append_nil]
    exact dn0 _
  · rw [sp_o _ (by decide), ← List.cons_append, tl_app (by have := n47 a.natAbs; simp [this]), tl_tb]
  · rw [show sgL (48 :: (numL a.natAbs ++ tb b)) = false from rfl, if_neg (by decide), q.abs.same.1, q.abs.same.2, sz_eq]
    intro e
    have := congrArg List.length e
    simp at this
theorem len_neg (n : Int) : (zL n).length ≤ (numL n.natAbs).length + 1 := by unfold zL; split <;> simp
theorem z4 (q : Q a b) : R_ratio_of [DS (45 :: 48 :: (numL a.natAbs ++ tb b))] = XT := by
  have hl := q.sl
  refine ro_other (p := a.natAbs) (q := b) (okL_cons (by decide) (okL_cons (by decide) (okS _ _))) (by simp at hl ⊢; omega) ?_ (.inr (bot_tb q ?_)) ?_
  · rw [sp_m, ← List.cons_append, hd_app (by have := n47 a.natAbs; simp [this]), hd_tb, List.append_nil]
    exact dn0 _
  · rw [sp_m, ← List.cons_append, tl_app (by have := n47 a.natAbs; simp [this]), tl_tb]
  · rw [show sgL (45 :: 48 :: (numL a.natAbs ++ tb b)) = true from rfl, if_pos rfl, q.abs.neg.same.1, q.abs.neg.same.2, rtL_eq]
    intro e
    have := congrArg List.length e
    have h2 := len_neg (-(a.natAbs : Int))
    simp at this h2
    omega
theorem z5 (q : Q a b) : R_ratio_of [DS (zL a ++ [47, 48])] = XT := by
  have := zL_len (a := a) (Nat.lt_trans q.a400 (by decide))
  refine ro_bad (okL_app (zL_ok a) (okL_cons (by decide) (okL_cons (by decide) okL_nil))) (by simp; omega) (.inr (.inr ?_))
  unfold botL
  rw [sp_z, tl_app (n47 _)]
  rfl
theorem z6 (q : Q a b) : R_ratio_of [DS (rtL a b ++ [47])] = XT := by
  have hr := q.rl
  refine ro_bad (okL_app (rtL_ok a b) (okL_cons (by decide) okL_nil)) (by simp; omega) (.inr (.inl ?_))
  unfold botL
  rw [rtL_eq, List.append_assoc, sp_z, tl_app (n47 _)]
  unfold tb
  by_cases z : b = 1
  · rw [if_pos z]; rfl
  · rw [if_neg z, List.cons_append, tl_47]
    exact dn_bad (c := 47) (by simp) (by decide)
theorem z7 (q : Q a b) : R_ratio_of [DS (47 :: rtL a b)] = XT := by
  have hr := q.rl
  refine ro_bad (okL_cons (by decide) (rtL_ok a b)) (by simp; omega) (.inl ?_)
  rw [sp_o _ (by decide), hd_47, dn_nil]
theorem abs2 (a : Int) : (a * 2).natAbs = a.natAbs * 2 := by rw [Int.natAbs_mul]; rfl
theorem z8 (q : Q a b) : R_ratio_of [DS (zL (a * 2) ++ 47 :: zL (b * 2))] = XT := by
  have ha := q.a400
  have hb := q.b400
  have h1 := zL_len (a := a * 2) (by rw [abs2]; exact Nat.lt_trans (Nat.mul_lt_mul_of_pos_right ha (by decide)) (by decide))
  have h2 := zL_len (a := b * 2) (by rw [abs2]; exact Nat.lt_trans (Nat.mul_lt_mul_of_pos_right hb (by decide)) (by decide))
  have hp := q.pos
  refine ro_other (p := ((a * 2).natAbs : Nat)) (q := b * 2) (okL_app (zL_ok _) (okL_cons (by decide) (zL_ok _))) (by simp; omega) ?_ ?_ ?_
  · rw [sp_z, hd_app (n47 _), hd_47, List.append_nil]
    exact dnN _
  · unfold botL
    rw [sp_z, tl_app (n47 _), tl_47]
    show dn (zL (b * 2)) = none ∨ dn (zL (b * 2)) = some (b * 2)
    rw [zp (by omega)]
    have := dnN (b * 2).natAbs
    rwa [natI (by omega)] at this
  · have e : (if sgL (zL (a * 2) ++ 47 :: zL (b * 2)) = true then -(((a * 2).natAbs : Nat) : Int) else (((a * 2).natAbs : Nat) : Int)) = a * 2 := by
      rw [sg_z]
      by_cases c : a * 2 < 0
      · rw [decide_eq_true c, if_pos rfl]; omega
      · rw [decide_eq_false c, if_neg (by decide)]; omega
    obtain ⟨n1, n2⟩ := n_scale (a := a) (b := b) (f := 2) (by decide)
    rw [e, n1, n2, q.same.1, q.same.2, rtL_eq]
    intro e
    have e1 := congrArg (fun l => tlL (spL l)) e
    simp only [sp_z] at e1
    rw [tl_app (n47 _), tl_app (n47 _), tl_47, tl_tb] at e1
    unfold tb at e1
    by_cases z : b = 1
    · rw [if_pos z] at e1; cases e1
    · rw [if_neg z] at e1
      have e2 : zL b = zL (b * 2) := List.tail_eq_of_cons_eq e1
      rw [zp (by omega), zp (by omega)] at e2
      have := numL_inj e2
      omega
theorem z_tail (q : Q a b) {w : List Nat} {c : Nat} (hk : okL w) (hl : w.length ≤ 90000) (hc : c ∈ w) (h2 : c < 48 ∨ 57 < c) : R_ratio_of [DS (zL a ++ 47 :: w)] = XT := by
  have := zL_len (a := a) (Nat.lt_trans q.a400 (by decide))
  refine ro_bad (okL_app (zL_ok a) (okL_cons (by decide) hk)) (by simp; omega) (.inr (.inl ?_))
  unfold botL
  rw [sp_z, tl_app (n47 _), tl_47]
  exact dn_bad hc h2
theorem z11 (q : Q a b) : R_ratio_of [DS (45 :: 45 :: (numL a.natAbs ++ tb b))] = XT := by
  have hl := q.sl
  refine ro_bad (okL_cons (by decide) (okL_cons (by decide) (okS _ _))) (by simp at hl ⊢; omega) (.inl ?_)
  rw [sp_m]
  refine dn_bad (c := 45) ?_ (by decide)
  unfold hdL
  rw [List.takeWhile_cons_of_pos (by decide)]
  simp
theorem z13 : R_ratio_of [DS []] = XT := ro_bad okL_nil (by decide) (.inl dn_nil)
theorem z17 : R_ratio_of [DS [45, 48]] = XT := ro_other (p := 0) (q := 1) (okL_cons (by decide) (okL_cons (by decide) okL_nil)) (by decide) (.inr rfl) (.inr rfl) (by decide)
theorem z18 (q : Q a b) : R_ratio_of [DS (zL a ++ 47 :: 48 :: zL b)] = XT := by
  have h1 := zL_len (a := a) (Nat.lt_trans q.a400 (by decide))
  have h2 := zL_len (a := b) (Nat.lt_trans q.b400 (by decide))
  have hp := q.pos
  refine ro_other (p := (a.natAbs : Nat)) (q := b) (okL_app (zL_ok _) (okL_cons (by decide) (okL_cons (by decide) (zL_ok _)))) (by simp; omega) ?_ ?_ ?_
  · rw [sp_z, hd_app (n47 _), hd_47, List.append_nil]
    exact dnN _
  · unfold botL
    rw [sp_z, tl_app (n47 _), tl_47]
    show dn (48 :: zL b) = none ∨ dn (48 :: zL b) = some b
    rw [zp (by omega)]
    have := dn0 b.natAbs
    rwa [natI hp] at this
  · have e : (if sgL (zL a ++ 47 :: 48 :: zL b) = true then -((a.natAbs : Nat) : Int) else ((a.natAbs : Nat) : Int)) = a := by
      rw [sg_z]
      by_cases c : a < 0
      · rw [decide_eq_true c, if_pos rfl]; omega
      · rw [decide_eq_false c, if_neg (by decide)]; omega
    rw [e, q.same.1, q.same.2, rtL_eq]
    intro e
    have := congrArg List.length e
    unfold tb at this
    split at this <;> simp at this
theorem z20 : R_ratio_of [DS [45]] = XT := ro_bad (okL_cons (by decide) okL_nil) (by decide) (.inl dn_nil)
theorem z21 : R_ratio_of [DS [47]] = XT := ro_bad (okL_cons (by decide) okL_nil) (by decide) (.inl dn_nil)
theorem z19 (q : Q a b) : R_ratio_of [DS (48 :: 120 :: (numL a.natAbs ++ tb b))] = XT := by
  have hl := q.sl
  refine ro_bad (okL_cons (by decide) (okL_cons (by decide) (okS _ _))) (by simp at hl ⊢; omega) (.inl ?_)
  rw [sp_o _ (by decide)]
  refine dn_bad (c := 120) ?_ (by decide)
  unfold hdL
  rw [List.takeWhile_cons_of_pos (by decide), List.takeWhile_cons_of_pos (by decide)]
  simp
/-- all spoilt texts -/
def rows (a b : Int) : List (List Nat) :=
  [43 :: rtL a.natAbs b, 32 :: rtL a b, rtL a b ++ [32], 48 :: rtL a.natAbs b, 45 :: 48 :: rtL a.natAbs b, zL a ++ [47, 48], rtL a b ++ [47], 47 :: rtL a b,
   zL (a * 2) ++ 47 :: zL (b * 2), zL a ++ 47 :: 45 :: zL b, zL a ++ 47 :: 47 :: zL b, 45 :: 45 :: rtL a.natAbs b, rtL a b ++ [120], [],
   rtL a b ++ [10], rtL a.natAbs b ++ [95, 49], zL a ++ 47 :: (zL b ++ [47, 49]), [45, 48], zL a ++ 47 :: 48 :: zL b, 48 :: 120 :: rtL a.natAbs b, [45], [47]]
theorem rows_bad (q : Q a b) : ∀ l ∈ rows a b, R_ratio_of [DS l] = XT := by
  have hb := zL_len (a := b) (Nat.lt_trans q.b400 (by decide))
  have r1 := q.rl
  have r2 := q.abs.rl
  intro l h
  unfold rows at h
  simp only [List.mem_cons, List.not_mem_nil, or_false] at h
  rcases h with h | h | h | h | h | h | h | h | h | h | h | h | h | h | h | h | h | h | h | h | h | h <;> subst h
  · exact f_bad (rtL_ok _ _) (by omega) (by decide) (by decide) (by decide) (by decide)
  · exact f_bad (rtL_ok _ _) (by omega) (by decide) (by decide) (by decide) (by decide)
  · exact e_bad q (c := 32) (okL_cons (by decide) okL_nil) (by simp) (by decide) (by decide)
  · rw [sz_eq]; exact z3 q
  · rw [sz_eq]; exact z4 q
  · exact z5 q
  · exact z6 q
  · exact z7 q
  · exact z8 q
  · exact z_tail q (c := 45) (okL_cons (by decide) (zL_ok _)) (by simp; omega) (by simp) (by decide)
  · exact z_tail q (c := 47) (okL_cons (by decide) (zL_ok _)) (by simp; omega) (by simp) (by decide)
  · rw [sz_eq]; exact z11 q
  · exact e_bad q (c := 120) (okL_cons (by decide) okL_nil) (by simp) (by decide) (by decide)
  · exact z13
  · exact e_bad q (c := 10) (okL_cons (by decide) okL_nil) (by simp) (by decide) (by decide)
  · exact e_bad q.abs (c := 95) (okL_cons (by decide) (okL_cons (by decide) okL_nil)) (by simp) (by decide) (by decide)
  · exact z_tail q (c := 47) (okL_app (zL_ok _) (okL_cons (by decide) (okL_cons (by decide) okL_nil))) (by simp; omega) (by simp) (by decide)
  · exact z17
  · exact z18 q
  · rw [sz_eq]; exact z19 q
  · exact z20
  · exact z21
theorem rows_ok (a b : Int) : ∀ l ∈ rows a b, okL l := by
  intro l h
  unfold rows at h
  simp only [List.mem_cons, List.not_mem_nil, or_false] at h
  have h1 := rtL_ok a b
  have h2 := rtL_ok a.natAbs b
  have h3 := zL_ok a
  have h4 := zL_ok b
  have h5 := zL_ok (a * 2)
  have h6 := zL_ok (b * 2)
  rcases h with h | h | h | h | h | h | h | h | h | h | h | h | h | h | h | h | h | h | h | h | h | h <;> subst h <;>
    first
    | exact okL_nil
    | (repeat (first | assumption | exact okL_nil | refine okL_app ?_ ?_ | refine okL_cons (by decide) ?_))
end
end Law
set_option Elab.async false
set_option linter.all false
set_option maxRecDepth 100000
set_option maxHeartbeats 8000000
set_option exponentiation.threshold 2000
namespace Law
open PySem PySem.Spec PyProof.Rows L2 Fd TL
theorem absI (a : Int) : (if a < 0 then -a else a) = (a.natAbs : Int) := by split <;> omega
theorem e_addS (x y : Str) (s : S) : addM (RS x) (RS y) s = if x.length + y.length ≤ 100000 then .ok (RS (x ++ y)) s else .bad := rfl
theorem addS_ok {x y : List Nat} (h : x.length + y.length ≤ 100000) (s : S) : addM (RS (st x)) (RS (st y)) s = .ok (RS (st (x ++ y))) s := by rw [e_addS, st_len, st_len, if_pos h, st_app]
theorem zL0 : zL 0 = [48] := rfl
section
variable {a b : Int}
theorem v_law_text (ha : a.natAbs < 10 ^ 400) (hb : b.natAbs < 10 ^ 400) : R_law_text [.tup [.int a, .int b]] = .ret (.dat (DS (rtL a b))) := by
  have h1 := zL_len ha
  have h2 := zL_len hb
  by_cases c : b = 1
  · simp [R_law_text, m_law_text, at20, at21, c, log_of ha, rtL, tx_st]
  · have e1 : (st (zL a)).length + (st [47]).length ≤ 100000 := by rw [st_len, st_len]; simp; omega
    have e2 : (st (zL a ++ [47])).length + (st (zL b)).length ≤ 100000 := by rw [st_len, st_len]; simp; omega
    simp [R_law_text, m_law_text, at20, at21, c, log_of ha, log_of hb, rtL, tx_st, slash, e_addS, st_app, e1, e2]
@[simp] theorem ex00 : exsOf 1 0 0 = some true := rfl
theorem v_law_read_x {d : D} (h : R_ratio_of [d] = XT) : R_law_read [d] = .ret (.dat (.str "text")) := by
  simp [R_law_read, m_law_read, h]
theorem v_law_read_r {d e : D} (h : R_ratio_of [d] = .ret (.dat e)) : R_law_read [d] = .ret (.dat e) := by
  simp [R_law_read, m_law_read, h]
theorem atI_get {l : List D} {i : Nat} {d : D} (h : l[i]? = some d) : atI l (i : Int) = some d := by
  have hi := (List.getElem?_eq_some_iff.mp h).1
  unfold atI ixN
  simp [hi] at h ⊢
  exact h
theorem l_pl : ("+" : Str) = st [43] := rfl
theorem l_sp : (" " : Str) = st [32] := rfl
theorem l_0 : ("0" : Str) = st [48] := rfl
theorem l_m0 : ("-0" : Str) = st [45, 48] := rfl
theorem l_sm : ("/-" : Str) = st [47, 45] := rfl
theorem l_ss : ("//" : Str) = st [47, 47] := rfl
theorem l_mm : ("--" : Str) = st [45, 45] := rfl
theorem l_x : ("x" : Str) = st [120] := rfl
theorem l_e : ("" : Str) = st [] := rfl
theorem l_nl : ("\n" : Str) = st [10] := rfl
theorem l_u1 : ("_1" : Str) = st [95, 49] := rfl
theorem l_s1 : ("/1" : Str) = st [47, 49] := rfl
theorem l_s0 : ("/0" : Str) = st [47, 48] := rfl
theorem l_0x : ("0x" : Str) = st [48, 120] := rfl
theorem tx0 : tx 0 = st [48] := rfl
theorem v_law_spoilt (q : Q a b) {i : Nat} (hi : i < 22) : ∃ l, l ∈ rows a b ∧ R_law_spoilt [.tup [.int a, .int b], .int i] = .ret (.dat (DS l)) := by
  have ha := Nat.lt_trans q.a400 (show 10 ^ 300 < 10 ^ 400 by decide)
  have hb := Nat.lt_trans q.b400 (show 10 ^ 300 < 10 ^ 400 by decide)
  have l1 := zL_len ha
  have l2 := zL_len hb
  have l3 := q.rl
  have l4 := q.abs.rl
  have t1 := v_law_text ha hb
  have t2 := v_law_text (a := a.natAbs) (by simpa using ha) hb
  have ha2 : (a * 2).natAbs < 10 ^ 400 := by rw [abs2]; exact Nat.lt_trans (Nat.mul_lt_mul_of_pos_right q.a400 (by decide)) (by decide)
  have hb2 : (b * 2).natAbs < 10 ^ 400 := by rw [abs2]; exact Nat.lt_trans (Nat.mul_lt_mul_of_pos_right q.b400 (by decide)) (by decide)
  have l5 := zL_len ha2
  have l6 := zL_len hb2
  have m1 : mulC a 2 = true := Bd.mulC (n := 1400) (m := 2) (Nat.lt_trans q.a400 (by decide)) (by unfold Bd; decide) (by decide)
  have m2 : mulC b 2 = true := Bd.mulC (n := 1400) (m := 2) (Nat.lt_trans q.b400 (by decide)) (by unfold Bd; decide) (by decide)
  have hr : i < (rows a b).length := hi
  refine ⟨(rows a b)[i], List.getElem_mem hr, ?_⟩
  have e : ((rows a b).map fun l => DS l)[i]? = some (DS (rows a b)[i]) := by rw [List.getElem?_map, List.getElem?_eq_getElem hr]; rfl
  generalize hx : DS (rows a b)[i] = x at e ⊢
  have e2 := atI_get e
  unfold rows at e2
  simp only [List.map] at e2
  generalize hT : rtL a b = T at *
  generalize hU : rtL (a.natAbs : Int) b = U at *
  simp (disch := (first | omega | (simp only [List.length_append, List.length_cons, List.length_nil]; omega))) [R_law_spoilt, m_law_spoilt, addS_ok, zL0, e2, t1, t2, at20, at21, absI, log_of ha, log_of hb, log_of ha2, log_of hb2, m1, m2, tx_st, l_pl, l_sp, l_0, l_m0, l_sm, l_ss, l_mm, l_x, l_e, l_nl, l_u1, l_s1, l_s0, l_0x, tx0, slash, dash]
theorem v_plain (a b c d : Int) : R_law_plain [QD a b, QD c d] = .ret (.dat (.bl (decide (a = c ∧ b = d)))) := by
  simp [R_law_plain, m_law_plain, subTy]
theorem v_spoilt (q : Q a b) {i : Nat} (hi : i < 22) : ∃ d, okD d = true ∧ R_law_spoilt [QD a b, .int i] = .ret (.dat d) ∧ R_law_read [d] = .ret (.dat (.str "text")) := by
  obtain ⟨l, hl, e⟩ := v_law_spoilt q hi
  exact ⟨_, okD_st (rows_ok a b l hl), e, v_law_read_x (rows_bad q l hl)⟩
end
end Law
set_option Elab.async false
set_option linter.all false
set_option maxRecDepth 100000
set_option maxHeartbeats 8000000
set_option exponentiation.threshold 2000
namespace Law
open PySem PySem.Spec PyProof.Rows L2 Fd TL
theorem v_law_gcd (a b : Int) {n : Nat} (h : Bd n b) (hn : n < 40000) : R_law_gcd [.int a, .int b] = .ret (.dat (.int (gI a b))) := by
  have w := whileL_gcd (tc := bnd (getV 1) truthM) (b := parF 0 1 (consA (getV 1) (consA (m2 (bnd (consB (getV 0) (pur [])) intM) (getV 1) modM) (pur [])))) (fun x y => ⟨[some (.dat (.int x)), some (.dat (.int y))], [], none⟩)
    (fun x y => by simp) (fun x y hy => by simp [modC_of hy]) n a.natAbs b.natAbs 100000 h (by omega)
  simp [R_law_gcd, m_law_gcd, absI, w, gI]
theorem v_law_ratio {a b : Int} (hb : b ≠ 0) {n : Nat} (h : Bd n b) (hn : n < 9000) : R_law_ratio [.int a, .int b] = .ret (.dat (QD (nT a b) (nB a b))) := by
  have hp := gI_pos (a := a) hb
  have h1 : ∀ x : Int, divC x (gI a b) = true := fun x => Bd.divC (n := n) (bd_le h (gI_le hb)) (by omega)
  have h1' : ∀ x : Int, divC x (-gI a b) = true := fun x => Bd.divC (n := n) (bd_le h (by have := gI_le (a := a) hb; rwa [Int.natAbs_neg])) (by omega)
  have h2 := law_T a b
  have h3 := law_B a b
  by_cases c : b < 0
  · simp [c] at h2 h3
    simp [R_law_ratio, m_law_ratio, c, v_law_gcd a b h (by omega), h1', h2, h3]
  · simp [c] at h2 h3
    simp [R_law_ratio, m_law_ratio, c, v_law_gcd a b h (by omega), h1, h2, h3]
theorem p10 {j : Nat} (h : j ≤ 45) : (10 : Int) ^ j ≤ 10 ^ 45 := by
  have := Nat.pow_le_pow_right (n := 10) (by decide) h
  exact_mod_cast this
theorem p9 : (10 : Int) ^ (9 : Int).toNat = 1000000000 := by decide
theorem wide_loop {l : List SV} (way : Int) : ∀ (xs : List SV) (total : Int) (h : Hand) (turn : Option SV) (k : Nat), 0 ≤ total → total < 10 ^ (9 * k) → k + xs.length ≤ 5 →
    ∃ total' h' turn', forL (Src.mk l none).Ok (setV 3) (asgF (m2 (m2 (getV 2) (m2 (pur (RI 10)) (pur (RI 9)) powM) mulI) (bnd (consA (getV 0) (consA (m2 (pur (RI 10)) (pur (RI 9)) powM) (pur []))) (callH 2 R_law_take [])) addM) (setV 2)) xs
      ⟨[some .hand, some (.dat (.int way)), some (.dat (.int total)), turn], [], some h⟩ = .ok .nx ⟨[some .hand, some (.dat (.int way)), some (.dat (.int total')), turn'], [], some h'⟩ ∧ 0 ≤ total' ∧ total' < 10 ^ 45 := by
  intro xs
  induction xs with
  | nil =>
    intro total h turn k h0 h1 hk
    refine ⟨total, h, turn, forL0 _, h0, Int.lt_of_lt_of_le h1 ?_⟩
    exact p10 (by simp at hk; omega)
  | cons x xs ih =>
    intro total h turn k h0 h1 hk
    obtain ⟨t, h', e, t0, t1⟩ := take_ex (n := 1000000000) h (lg9 (by decide))
    have hb : mulC total 1000000000 = true := by
      have : Bd 160 total := by
        refine bd_of (by omega) (Int.lt_of_lt_of_le h1 ?_)
        refine Int.le_trans (p10 (by simp at hk; omega)) (by decide)
      exact this.mulC (m := 30) (bd_of (by decide) (by decide)) (by omega)
    have hp : powC 10 9 = true := by decide
    have e1 : (10 : Int) ^ (9 * (k + 1)) = 10 ^ (9 * k) * 1000000000 := by
      rw [show 9 * (k + 1) = 9 * k + 9 by omega, Int.pow_add]; rfl
    obtain ⟨total', h2, turn', e2, e3⟩ := ih (total * 1000000000 + t) h' (some x) (k + 1) (by omega) (by rw [e1]; omega) (by simp at hk ⊢; omega)
    refine ⟨total', h2, turn', ?_, e3⟩
    rw [forL1]
    simp [hp, p9, e, hb, e2]
theorem v_wide (h : Hand) : ∃ x h', R_law_wide [.hand] h = (.ret (.dat (.int x)), h') ∧ Bd 150 x := by
  obtain ⟨w, h1, e1, w0, w1⟩ := take_ex (n := 9) h (lg9 (by decide))
  by_cases c : w < 6
  · obtain ⟨t, h2, e2, t0, t1⟩ := take_ex (n := 25) h1 (lg9 (by decide))
    refine ⟨t - 12, h2, by simp [R_law_wide, m_law_wide, e1, c, e2], bd_of (by omega) (by omega)⟩
  · have hl : ∀ n : Nat, n ≤ 5 → ∃ total' h' turn', forL (Src.mk (rangeL 0 n) none).Ok (setV 3) (asgF (m2 (m2 (getV 2) (m2 (pur (RI 10)) (pur (RI 9)) powM) mulI) (bnd (consA (getV 0) (consA (m2 (pur (RI 10)) (pur (RI 9)) powM) (pur []))) (callH 2 R_law_take [])) addM) (setV 2)) (rangeL 0 n)
      ⟨[some .hand, some (.dat (.int w)), some (.dat (.int 0)), none], [], some h1⟩ = .ok .nx ⟨[some .hand, some (.dat (.int w)), some (.dat (.int total')), turn'], [], some h'⟩ ∧ 0 ≤ total' ∧ total' < 10 ^ 45 := fun n hn =>
      wide_loop w (rangeL 0 n) 0 h1 none 0 (by decide) (by decide) (by rw [rangeL_len]; omega)
    have fin : ∀ (tot : Int) (h2 : Hand), 0 ≤ tot → tot < 10 ^ 45 → ∃ t h3, R_law_take [.hand, .dat (.int 2)] h2 = (.ret (.dat (.int t)), h3) ∧ mulC 2 t = true ∧ mulC tot (1 - 2 * t) = true ∧ Bd 150 (tot * (1 - 2 * t)) := fun tot h2 a b => by
      obtain ⟨t, h3, e3, t0, t1⟩ := take_ex (n := 2) h2 (lg9 (by decide))
      have b1 : Bd 150 tot := bd_of (by omega) (Int.lt_trans b (by decide))
      refine ⟨t, h3, e3, Bd.mulC (n := 2) (m := 2) (bd_of (by decide) (by decide)) (bd_of (by omega) (by omega)) (by decide), b1.mulC (m := 2) (bd_of (by omega) (by omega)) (by decide), ?_⟩
      have : t = 0 ∨ t = 1 := by omega
      rcases this with rfl | rfl
      · simpa using b1
      · simpa using b1.neg
    by_cases c2 : w < 8
    · obtain ⟨tot, h2, turn, e2, a, b⟩ := hl 1 (by decide)
      obtain ⟨t, h3, e3, m1, m2, bb⟩ := fin tot h2 a b
      exact ⟨_, h3, by simp [R_law_wide, m_law_wide, e1, c, c2, e2, e3, m1, m2], bb⟩
    · obtain ⟨tot, h2, turn, e2, a, b⟩ := hl 5 (by decide)
      obtain ⟨t, h3, e3, m1, m2, bb⟩ := fin tot h2 a b
      exact ⟨_, h3, by simp [R_law_wide, m_law_wide, e1, c, c2, e2, e3, m1, m2], bb⟩
theorem v_wide_ratio (h : Hand) : ∃ a b h', R_law_wide_ratio [.hand] h = (.ret (.dat (QD a b)), h') ∧ Bd 160 a ∧ Bd 160 b ∧ 0 < b ∧ gI a b = 1 := by
  obtain ⟨x, h1, e1, bx⟩ := v_wide h
  obtain ⟨y, h2, e2, y0⟩ := v_wide h1
  have by' : Bd 151 (1 + (y.natAbs : Int)) := (bd_of (n := 1) (x := 1) (by decide) (by decide)).add (m := 150) (by unfold Bd at *; simpa using y0)
  have z : 1 + (y.natAbs : Int) ≠ 0 := by omega
  refine ⟨_, _, h2, by simp [R_law_wide_ratio, m_law_wide_ratio, e1, e2, absI, v_law_ratio (a := x) z by' (by decide)], bd_le (bx.mono (by decide)) (nT_le _ _), bd_le (by'.mono (by decide)) (nB_le _ _), nB_pos z, n_gcd z⟩
theorem num_300 {n : Nat} (h : n < 10 ^ 300) : (numL n).length ≤ 300 := by
  have := (Nat.length_toDigits_le_iff (n := n) (b := 10) (k := 300) (by decide) (by decide)).mpr h
  simpa [numL] using this
theorem num_ge {n : Nat} (h : 10 ^ 299 ≤ n) : 300 ≤ (numL n).length := by
  by_cases c : (numL n).length ≤ 299
  · have := (Nat.length_toDigits_le_iff (n := n) (b := 10) (k := 299) (by decide) (by decide)).mp (by simpa [numL] using c)
    omega
  · omega
theorem q_of {a b : Int} (ha : a.natAbs < 10 ^ 300) (hb : b.natAbs < 10 ^ 300) (h0 : 0 < b) (hg : gI a b = 1) : Q a b := ⟨h0, hg, num_300 ha, num_300 hb⟩
/-! ## 300 figures -/
theorem p300 {j : Nat} (h : j ≤ 300) : (10 : Int) ^ j ≤ 10 ^ 300 := by
  have := Nat.pow_le_pow_right (n := 10) (by decide) h
  exact_mod_cast this
theorem long_loop {l : List SV} : ∀ (xs : List SV) (n : Int) (h : Hand) (turn : Option SV) (k : Nat), 10 ^ k ≤ n → n < 10 ^ (k + 1) → k + xs.length ≤ 299 →
    ∃ n' h' turn', forL (Src.mk l none).Ok (setV 2) (asgF (m2 (m2 (getV 1) (pur (RI 10)) mulI) (bnd (consA (getV 0) (consA (pur (RI 10)) (pur []))) (callH 2 R_law_take [])) addM) (setV 1)) xs
      ⟨[some .hand, some (.dat (.int n)), turn], [], some h⟩ = .ok .nx ⟨[some .hand, some (.dat (.int n')), turn'], [], some h'⟩ ∧ 10 ^ (k + xs.length) ≤ n' ∧ n' < 10 ^ (k + xs.length + 1) := by
  intro xs
  induction xs with
  | nil => intro n h turn k h0 h1 hk; exact ⟨n, h, turn, forL0 _, h0, h1⟩
  | cons x xs ih =>
    intro n h turn k h0 h1 hk
    obtain ⟨t, h', e, t0, t1⟩ := take_ex (n := 10) h (lg9 (by decide))
    have hp : (0 : Int) < 10 ^ k := Int.pow_pos (by decide)
    have hb : mulC n 10 = true := by
      have : Bd 1400 n := by
        refine bd_of (by omega) (Int.lt_of_lt_of_le h1 ?_)
        refine Int.le_trans (p300 (by simp at hk; omega)) (by decide)
      exact this.mulC (m := 4) (bd_of (by decide) (by decide)) (by omega)
    have e1 : (10 : Int) ^ (k + 1) = 10 ^ k * 10 := Int.pow_succ ..
    have e2 : (10 : Int) ^ (k + 1 + 1) = 10 ^ (k + 1) * 10 := Int.pow_succ ..
    obtain ⟨n', h2, turn', e3, e4, e5⟩ := ih (n * 10 + t) h' (some x) (k + 1) (by omega) (by omega) (by simp at hk ⊢; omega)
    refine ⟨n', h2, turn', ?_, ?_⟩
    · rw [forL1]
      simp [e, hb, e3]
    · rw [List.length_cons, show k + (xs.length + 1) = k + 1 + xs.length by omega]
      exact ⟨e4, e5⟩
theorem v_long (h : Hand) : ∃ n h', R_law_long [.hand] h = (.ret (.dat (.int n)), h') ∧ 10 ^ 299 ≤ n ∧ n < 10 ^ 300 := by
  obtain ⟨w, h1, e1, w0, w1⟩ := take_ex (n := 9) h (lg9 (by decide))
  obtain ⟨n, h2, turn, e2, e3, e4⟩ := long_loop (l := rangeL 0 299) (rangeL 0 299) (1 + w) h1 none 0 (by omega) (by omega) (by rw [rangeL_len]; decide)
  rw [rangeL_len] at e3 e4
  refine ⟨n, h2, ?_, e3, e4⟩
  generalize hr : rangeL 0 299 = rr at e2
  simp [R_law_long, m_law_long, e1, hr, e2]
end Law
set_option Elab.async false
set_option linter.all false
set_option maxRecDepth 100000
set_option maxHeartbeats 8000000
set_option exponentiation.threshold 2000
namespace Law
open PySem PySem.Spec PyProof.Rows L2 Fd TL
noncomputable def lawB : M Fl := (ifF (bnd (m2 (bnd (consA (getV 1) (consA (pur (RI 8)) (pur []))) (callH 2 R_law_take [])) (pur (RI 0)) eqM) asB) (seqF (asgF (bnd (bnd (consA (getV 1) (pur [])) (callH 1 R_law_long [])) frz) (setV 3))
    (seqF (asgF (bnd (bnd (consA (getV 1) (pur [])) (callH 1 R_law_long [])) frz) (setV 4))
    (seqF (asgF (m2 (bnd (consA (bnd (consA (getV 3) (consA (pur (RI 1)) (pur []))) tupM) (consA (bnd (consA (bnd (getV 3) negM) (consA (pur (RI 1)) (pur []))) tupM) (consA (bnd (consA (getV 3) (consA (getV 4) (pur []))) (callM 2 R_law_ratio [])) (consA (bnd (consA (pur (RI 1)) (consA (getV 3) (pur []))) (callM 2 R_law_ratio [])) (pur []))))) lstM) (bnd (consA (getV 1) (consA (pur (RI 4)) (pur []))) (callH 2 R_law_take [])) ixM) (setV 2))
    (ifF (orT (bnd (m2 (bnd (consA (bnd (m2 (bnd (consB (getV 3) (pur [])) strM) (pur (RS ("0" : Str))) addM) frz) (pur [])) (callM 1 R_law_read [])) (pur (RS ("text" : Str))) neM) asB) (orT (bnd (m2 (bnd (consA (bnd (m2 (m2 (pur (RS ("-" : Str))) (bnd (consB (getV 3) (pur [])) strM) addM) (pur (RS ("0" : Str))) addM) frz) (pur [])) (callM 1 R_law_read [])) (pur (RS ("text" : Str))) neM) asB) (bnd (m2 (bnd (consA (bnd (m2 (m2 (pur (RS ("1/" : Str))) (bnd (consB (getV 3) (pur [])) strM) addM) (pur (RS ("0" : Str))) addM) frz) (pur [])) (callM 1 R_law_read [])) (pur (RS ("text" : Str))) neM) asB))) (retF (pur (RB false))) (pur .nx))))) (pur .nx))
noncomputable def lawC : M Fl := (ifF (bnd (m2 (bnd (consA (getV 1) (consA (pur (RI 8)) (pur []))) (callH 2 R_law_take [])) (pur (RI 0)) eqM) asB) (seqF (asgF (m2 (bnd (consA (bnd (m2 (pur (RS ("7" : Str))) (pur (RI 5000)) mulSM) frz) (consA (bnd (m2 (pur (RS ("-" : Str))) (m2 (pur (RS ("7" : Str))) (pur (RI 4400)) mulSM) addM) frz) (consA (bnd (m2 (pur (RS ("1/" : Str))) (m2 (pur (RS ("3" : Str))) (pur (RI 4301)) mulSM) addM) frz) (consA (bnd (m2 (m2 (pur (RS ("9" : Str))) (pur (RI 4301)) mulSM) (pur (RS ("/2" : Str))) addM) frz) (pur []))))) lstM) (bnd (consA (getV 1) (consA (pur (RI 4)) (pur []))) (callH 2 R_law_take [])) ixM) (setV 5))
    (ifF (bnd (m2 (bnd (consA (getV 5) (pur [])) (callM 1 R_law_read [])) (pur (RS ("text" : Str))) neM) asB) (retF (pur (RB false))) (pur .nx))) (pur .nx))
noncomputable def lawD : M Fl := (seqF (asgF (bnd (bnd (consA (getV 2) (pur [])) (callM 1 R_ratio_text [])) frz) (setV 6))
    (seqF (ifF (orT (bnd (m2 (getV 6) (bnd (consA (getV 2) (pur [])) (callM 1 R_law_text [])) neM) asB) (notT (bnd (bnd (getV 6) (isiM .str)) truthM))) (retF (pur (RB false))) (pur .nx))
    (seqF (ifF (orT (notT (bnd (bnd (consA (bnd (bnd (consA (getV 6) (pur [])) (callM 1 R_ratio_of [])) frz) (consA (getV 2) (pur []))) (callM 2 R_law_plain [])) truthM)) (notT (bnd (bnd (consA (bnd (bnd (consA (bnd (bnd (consA (getV 2) (pur [])) (callM 1 R_law_text [])) frz) (pur [])) (callM 1 R_ratio_of [])) frz) (consA (getV 2) (pur []))) (callM 2 R_law_plain [])) truthM))) (retF (pur (RB false))) (pur .nx))
    (seqF (ifF (orT (bnd (m2 (bnd (consA (bnd (bnd (consA (getV 2) (consA (bnd (consA (getV 1) (consA (pur (RI 22)) (pur []))) (callH 2 R_law_take [])) (pur []))) (callM 2 R_law_spoilt [])) frz) (pur [])) (callM 1 R_law_read [])) (pur (RS ("text" : Str))) neM) asB) (bnd (m2 (bnd (consA (bnd (consB (m2 (getV 2) (pur (RI 0)) ixM) (pur [])) strM) (pur [])) (callM 1 R_law_read [])) (bnd (consA (m2 (getV 2) (pur (RI 0)) ixM) (consA (pur (RI 1)) (pur []))) tupM) neM) asB)) (retF (pur (RB false))) (pur .nx))
    (seqF (asgF (m2 (bnd (consA (pur RN) (consA (pur (RI 3)) (consA (getV 2) (consA (bnd (bnd (consA (getV 6) (pur [])) lstM) frz) (consA (pur (RB true)) (consA (bnd (consA (getV 6) (pur [])) tupM) (pur []))))))) lstM) (bnd (consA (getV 1) (consA (pur (RI 6)) (pur []))) (callH 2 R_law_take [])) ixM) (setV 7))
    (retF (andV (m2 (bnd (consA (getV 7) (pur [])) (callM 1 R_law_read [])) (pur (RS ("text" : Str))) eqM) (andV (bnd (consA (bnd (bnd (consA (pur (RS ("0" : Str))) (pur [])) (callM 1 R_ratio_of [])) frz) (consA (bnd (consA (pur (RI 0)) (consA (pur (RI 1)) (pur []))) tupM) (pur []))) (callM 2 R_law_plain [])) (m2 (bnd (consA (bnd (consA (pur (RI 0)) (consA (pur (RI 1)) (pur []))) tupM) (pur [])) (callM 1 R_ratio_text [])) (pur (RS ("0" : Str))) eqM)))))))))
theorem m_law_eq : m_law = seqF (asgF (bnd (consA (getV 1) (pur [])) (callH 1 R_law_wide_ratio [])) (setV 2)) (seqF lawB (seqF lawC lawD)) := rfl
/-! ## texts of 301 and more figures -/
theorem long_len {n : Int} (h0 : 10 ^ 299 ≤ n) (h1 : n < 10 ^ 300) : (numL n.natAbs).length = 300 := by
  have a1 := num_300 (n := n.natAbs) (by omega)
  have a2 := num_ge (n := n.natAbs) (by omega)
  omega
section
variable {n : Int} (h0 : 10 ^ 299 ≤ n) (h1 : n < 10 ^ 300)
include h0 h1
theorem hd_n0 : hdL (numL n.natAbs ++ [48]) = numL n.natAbs ++ [48] := by rw [hd_app (n47 _)]; rfl
theorem g1 : R_ratio_of [DS (zL n ++ [48])] = XT := by
  have l := long_len h0 h1
  have l2 := len_neg n
  refine ro_bad (okL_app (zL_ok _) (okL_cons (by decide) okL_nil)) (by simp; omega) (.inl ?_)
  rw [sp_z, hd_n0 h0 h1]
  exact dn_long (by simp; omega)
theorem g2 : R_ratio_of [DS (45 :: (zL n ++ [48]))] = XT := by
  have l := long_len h0 h1
  have l2 := len_neg n
  refine ro_bad (okL_cons (by decide) (okL_app (zL_ok _) (okL_cons (by decide) okL_nil))) (by simp; omega) (.inl ?_)
  rw [sp_m, zp (by omega), hd_n0 h0 h1]
  exact dn_long (by simp; omega)
theorem g3 : R_ratio_of [DS (49 :: 47 :: (zL n ++ [48]))] = XT := by
  have l := long_len h0 h1
  have l2 := len_neg n
  refine ro_bad (okL_cons (by decide) (okL_cons (by decide) (okL_app (zL_ok _) (okL_cons (by decide) okL_nil)))) (by simp; omega) (.inr (.inl ?_))
  unfold botL
  rw [sp_o _ (by decide)]
  show dn (zL n ++ [48]) = none
  rw [zp (by omega)]
  exact dn_long (by simp; omega)
end
def rp (n c : Nat) : List Nat := List.replicate n c
theorem fold_rep (c : Nat) : ∀ (n : Nat) (acc : List Nat), ((List.replicate n #[c]).foldl (· ++ ·) acc.toArray) = (acc ++ List.replicate n c).toArray
  | 0, acc => by simp
  | n + 1, acc => by
    rw [List.replicate_succ, List.foldl_cons, List.replicate_succ]
    have : acc.toArray ++ #[c] = (acc ++ [c]).toArray := by simp
    rw [this, fold_rep c n]
    simp
theorem repS_st (c n : Nat) : repS (st [c]) n = st (rp n c) := by
  show (⟨(List.replicate n #[c]).foldl (· ++ ·) #[]⟩ : Str) = _
  rw [show (#[] : Array Nat) = ([] : List Nat).toArray from rfl, fold_rep]
  rfl
theorem rp_ok {c : Nat} (n : Nat) (h : c < 1000) : okL (rp n c) := fun d hd => by
  have := List.eq_of_mem_replicate hd
  omega
theorem rp_47 {c : Nat} (n : Nat) (h : c ≠ 47) : 47 ∉ rp n c := fun q => h (List.eq_of_mem_replicate q).symm
theorem rp_len (n c : Nat) : (rp n c).length = n := List.length_replicate
theorem sp_rp {c : Nat} (n : Nat) (r : List Nat) (h : c ≠ 45) : spL (rp (n + 1) c ++ r) = rp (n + 1) c ++ r := by
  rw [rp, List.replicate_succ, List.cons_append, sp_o _ h]
theorem far1 : R_ratio_of [DS (rp 5000 55)] = XT := by
  refine ro_bad (rp_ok _ (by decide)) (by rw [rp_len]; decide) (.inl ?_)
  have := sp_rp (c := 55) 4999 [] (by decide)
  rw [List.append_nil] at this
  rw [this]
  have := hd_app (r := []) (rp_47 (c := 55) 5000 (by decide))
  rw [List.append_nil] at this
  rw [this]
  exact dn_long (by rw [List.length_append, rp_len]; omega)
theorem far2 : R_ratio_of [DS (45 :: rp 4400 55)] = XT := by
  refine ro_bad (okL_cons (by decide) (rp_ok _ (by decide))) (by rw [List.length_cons, rp_len]; decide) (.inl ?_)
  rw [sp_m]
  have := hd_app (r := []) (rp_47 (c := 55) 4400 (by decide))
  rw [List.append_nil] at this
  rw [this]
  exact dn_long (by rw [List.length_append, rp_len]; omega)
theorem far3 : R_ratio_of [DS (49 :: 47 :: rp 4301 51)] = XT := by
  refine ro_bad (okL_cons (by decide) (okL_cons (by decide) (rp_ok _ (by decide)))) (by rw [List.length_cons, List.length_cons, rp_len]; decide) (.inr (.inl ?_))
  unfold botL
  rw [sp_o _ (by decide)]
  show dn (rp 4301 51) = none
  exact dn_long (by rw [rp_len]; omega)
theorem far4 : R_ratio_of [DS (rp 4301 57 ++ [47, 50])] = XT := by
  refine ro_bad (okL_app (rp_ok _ (by decide)) (okL_cons (by decide) (okL_cons (by decide) okL_nil))) (by rw [List.length_append, rp_len]; decide) (.inl ?_)
  rw [sp_rp (c := 57) 4300 _ (by decide), hd_app (rp_47 (c := 57) 4301 (by decide))]
  exact dn_long (by rw [List.length_append, rp_len]; omega)
theorem l_7 : ("7" : Str) = st [55] := rfl
theorem l_3 : ("3" : Str) = st [51] := rfl
theorem l_9 : ("9" : Str) = st [57] := rfl
theorem l_1s : ("1/" : Str) = st [49, 47] := rfl
theorem l_s2 : ("/2" : Str) = st [47, 50] := rfl
theorem mulSt (c : Nat) (n : Int) (s : S) (h : 2 ≤ n ∧ n ≤ 100000) : mulSM (RS (st [c])) (RI n) s = .ok (RS (st (rp n.toNat c))) s := by
  have e : mulSM (RS (st [c])) (RI n) s = if 2 ≤ n ∧ n ≤ 100000 ∧ (st [c]).length ≤ 8 ∧ 1 ≤ (st [c]).length then .ok (RS (repS (st [c]) n.toNat)) s else .bad := rfl
  rw [e, st_len, if_pos ⟨h.1, h.2, by simp, by simp⟩, repS_st]
theorem lawC_ok (e0 e3 e4 : Option SV) (x : D) (h : Hand) : ∃ y h', lawC ⟨[e0, some .hand, some (.dat x), e3, e4, none, none, none], [], some h⟩ = .ok .nx ⟨[e0, some .hand, some (.dat x), e3, e4, y, none, none], [], some h'⟩ := by
  obtain ⟨t, h1, e1, t0, t1⟩ := take_ex (n := 8) h (lg9 (by decide))
  by_cases c : t = 0
  · obtain ⟨u, h2, e2, u0, u1⟩ := take_ex (n := 4) h1 (lg9 (by decide))
    obtain ⟨d, hd, od, xd⟩ : ∃ d, atI [SV.dat (DS (rp 5000 55)), SV.dat (DS (45 :: rp 4400 55)), SV.dat (DS (49 :: 47 :: rp 4301 51)), SV.dat (DS (rp 4301 57 ++ [47, 50]))] u = some (SV.dat d) ∧ okD d = true ∧ R_ratio_of [d] = XT := by
      have : u = 0 ∨ u = 1 ∨ u = 2 ∨ u = 3 := by omega
      rcases this with rfl | rfl | rfl | rfl
      · exact ⟨_, rfl, okD_st (rp_ok _ (by decide)), far1⟩
      · exact ⟨_, rfl, okD_st (okL_cons (by decide) (rp_ok _ (by decide))), far2⟩
      · exact ⟨_, rfl, okD_st (okL_cons (by decide) (okL_cons (by decide) (rp_ok _ (by decide)))), far3⟩
      · exact ⟨_, rfl, okD_st (okL_app (rp_ok _ (by decide)) (okL_cons (by decide) (okL_cons (by decide) okL_nil))), far4⟩
    have rd := v_law_read_x xd
    refine ⟨some (.dat d), h2, ?_⟩
    simp (disch := (first | omega | (simp only [List.length_append, List.length_cons, List.length_nil, rp_len]; omega))) [lawC, e1, c, e2, l_7, l_3, l_9, l_1s, l_s2, dash, mulSt, addS_ok, hd, rd, od, okD_z]
  · refine ⟨none, h1, ?_⟩
    simp [lawC, e1, c]
theorem mb (x : Int) (n : Nat) (h : x.natAbs < 10 ^ 300) : Bd 1400 x := Nat.lt_trans h (by decide)
theorem lawB_ok (e0 : Option SV) {a b : Int} (q : Q a b) (h : Hand) : ∃ a' b' x3 x4 h', Q a' b' ∧ lawB ⟨[e0, some .hand, some (.dat (QD a b)), none, none, none, none, none], [], some h⟩ = .ok .nx ⟨[e0, some .hand, some (.dat (QD a' b')), x3, x4, none, none, none], [], some h'⟩ := by
  obtain ⟨t, h1, e1, t0, t1⟩ := take_ex (n := 8) h (lg9 (by decide))
  by_cases c : t = 0
  · obtain ⟨m, h2, e2, m0, m1⟩ := v_long h1
    obtain ⟨o, h3, e3, o0, o1⟩ := v_long h2
    obtain ⟨u, h4, e4, u0, u1⟩ := take_ex (n := 4) h3 (lg9 (by decide))
    have mp : 0 < m := by omega
    have op : 0 < o := by omega
    have ma : m.natAbs < 10 ^ 300 := by omega
    have oa : o.natAbs < 10 ^ 300 := by omega
    have one : (1 : Int).natAbs < 10 ^ 300 := by decide
    have r1 := v_law_ratio (a := m) (b := o) (n := 1400) (by omega) (mb o 0 oa) (by decide)
    have r2 := v_law_ratio (a := 1) (b := m) (n := 1400) (by omega) (mb m 0 ma) (by decide)
    have q1 : Q m 1 := q_of ma one (by decide) (by unfold gI; simp)
    have q3 : Q (nT m o) (nB m o) := q_of (by have := nT_le m o; omega) (by have := nB_le m o; omega) (nB_pos (by omega)) (n_gcd (by omega))
    have q4 : Q (nT 1 m) (nB 1 m) := q_of (by have := nT_le 1 m; omega) (by have := nB_le 1 m; omega) (nB_pos (by omega)) (n_gcd (by omega))
    obtain ⟨a', b', q', ha⟩ : ∃ a' b', Q a' b' ∧ atI [SV.dat (QD m 1), SV.dat (QD (-m) 1), SV.dat (QD (nT m o) (nB m o)), SV.dat (QD (nT 1 m) (nB 1 m))] u = some (SV.dat (QD a' b')) := by
      have : u = 0 ∨ u = 1 ∨ u = 2 ∨ u = 3 := by omega
      rcases this with rfl | rfl | rfl | rfl
      · exact ⟨_, _, q1, rfl⟩
      · exact ⟨_, _, q1.neg, rfl⟩
      · exact ⟨_, _, q3, rfl⟩
      · exact ⟨_, _, q4, rfl⟩
    have lg := log_of (a := m) (by omega)
    have zl := zL_len (a := m) (by omega)
    have k1 := v_law_read_x (g1 m0 m1)
    have k2 := v_law_read_x (g2 m0 m1)
    have k3 := v_law_read_x (g3 m0 m1)
    refine ⟨a', b', some (.dat (.int m)), some (.dat (.int o)), h4, q', ?_⟩
    simp (disch := (first | omega | (simp only [List.length_append, List.length_cons, List.length_nil]; omega))) [lawB, e1, c, e2, e3, e4, r1, r2, ha, lg, tx_st, l_0, dash, l_1s, addS_ok, k1, k2, k3, okD_z]
  · exact ⟨a, b, none, none, h1, q, by simp [lawB, e1, c]⟩
end Law
set_option Elab.async false
set_option linter.all false
set_option maxRecDepth 100000
set_option maxHeartbeats 8000000
set_option exponentiation.threshold 2000
namespace Law
open PySem PySem.Spec PyProof.Rows L2 Fd TL
theorem odd_x {d : D} (u : Ty) (h : ∀ s, tyR s (RD d) = some u) (h2 : subTy u .str = false) : R_ratio_of [d] = XT := by
  simp [R_ratio_of, m_ratio_of, h, h2]
theorem q01 : Q 0 1 := ⟨by decide, rfl, by decide, by decide⟩
theorem rt01 : rtL 0 1 = [48] := rfl
theorem lawD_ok (e0 x3 x4 x5 : Option SV) {a b : Int} (q : Q a b) (h : Hand) : ∃ s', lawD ⟨[e0, some .hand, some (.dat (QD a b)), x3, x4, x5, none, none], [], some h⟩ = .ok (.rt (RB true)) s' := by
  have ha := Nat.lt_trans q.a400 (show 10 ^ 300 < 10 ^ 400 by decide)
  have hb := Nat.lt_trans q.b400 (show 10 ^ 300 < 10 ^ 400 by decide)
  have t1 := v_law_text ha hb
  have t2 := v_rt ha hb
  have t3 := ro_back q
  have o1 := okD_st (rtL_ok a b)
  obtain ⟨i, h1, e1, i0, i1⟩ := take_ex (n := 22) h (lg9 (by decide))
  obtain ⟨j, rfl⟩ := Int.eq_ofNat_of_zero_le i0
  obtain ⟨d, od, sd, rd⟩ := v_spoilt q (i := j) (by omega)
  have qa : Q a 1 := ⟨by decide, by unfold gI; simp, q.ha, by decide⟩
  have t4 := v_law_read_r (ro_back qa)
  rw [show rtL a 1 = zL a from rfl] at t4
  obtain ⟨k, h2, e2, k0, k1⟩ := take_ex (n := 6) h1 (lg9 (by decide))
  have p1 := v_plain a b a b
  have p2 := v_plain 0 1 0 1
  have r0 := ro_back q01
  have r1 := v_rt (a := 0) (b := 1) (by decide) (by decide)
  rw [rt01] at r0 r1
  generalize hT : rtL a b = T at *
  obtain ⟨y, ya, yd⟩ : ∃ y, atI [SV.dat .non, SV.dat (.int 3), SV.dat (QD a b), SV.dat (.lst [DS T]), SV.dat (.bl true), SV.dat (.tup [DS T])] k = some (SV.dat y) ∧ R_ratio_of [y] = XT := by
    have : k = 0 ∨ k = 1 ∨ k = 2 ∨ k = 3 ∨ k = 4 ∨ k = 5 := by omega
    rcases this with rfl | rfl | rfl | rfl | rfl | rfl <;> exact ⟨_, rfl, odd_x _ (fun s => rfl) rfl⟩
  have yr := v_law_read_x yd
  have lg := log_of ha
  have o0 : okD (DS [48]) = true := by decide +kernel
  refine ⟨⟨[e0, some .hand, some (.dat (QD a b)), x3, x4, x5, some (.dat (DS T)), some (.dat y)], [], some h2⟩, ?_⟩
  simp [lawD, t1, t2, t3, o1, e1, sd, rd, od, t4, e2, p1, p2, r0, r1, ya, yr, at20, at21, lg, tx_st, okD_z, l_0, o0]
theorem law_holds : ∀ h, ∃ s', m_law (startL 8 h) = .ok (.rt (RB true)) s' := by
  intro h
  obtain ⟨a, b, h1, e1, b1, b2, b0, g⟩ := v_wide_ratio h
  have q : Q a b := q_of (Nat.lt_trans b1 (by decide)) (Nat.lt_trans b2 (by decide)) b0 g
  obtain ⟨a', b', x3, x4, h2, q', e2⟩ := lawB_ok none q h1
  obtain ⟨x5, h3, e3⟩ := lawC_ok none x3 x4 (QD a' b') h2
  obtain ⟨s', e4⟩ := lawD_ok none x3 x4 x5 q' h3
  refine ⟨s', ?_⟩
  simp [m_law_eq, startL, e1, e2, e3, e4]
end Law
set_option Elab.async false
set_option linter.all false
set_option maxRecDepth 100000
set_option maxHeartbeats 4000000
namespace Law
open PySem PySem.Spec PyProof.Rows L2 Fd
theorem mkh_BadRatio {K : PySem.W.Frag} {h : Heap} {mg : Str → Option Value} {ct : Nat → Addr} (KX : K.In h) (G : h.Ns mainGlobals mg) (eC : PySem.W.nsIn K mainGlobals "BadRatio" = some (some (.ref (ct 0))))
    (ga : PySem.W.findIn K (.ref (ct 0)) "__getattribute__" = some (some (.builtin "BaseException.__getattribute__"))) (gg : PySem.W.findIn K (.ref (ct 0)) "__getattr__" = some none) (exC : PySem.W.subIn K (.ref (ct 0)) (.type "BaseException") = some true) (hd : PySem.W.hasDictIn K (ct 0) = true)
    (m0 : PySem.W.exmOne K (.ref (ct 0)) (.ref (ct 0)) = some true) : ErrH K mg ct "BadRatio" 0 (exsOf 1 0) :=
  ⟨⟨ga, gg, exC, hd⟩, PySem.W.mg_of KX G eC, fun c1 b h => by
    match c1, h with
    | 0, h => cases h; exact m0
    | c1 + 1, h => exact absurd h (by unfold exsOf; rw [if_neg (by omega)]; exact fun z => by cases z)⟩
abbrev j_BadRatio : Stmt := i_BadRatio
theorem scx_BadRatio : FdX.ScopeS ["self", "what"] (defScope j_BadRatio) := ⟨rfl, rfl, rfl, by decide +kernel, by decide +kernel, by decide +kernel, freeNames_of (by decide +kernel), by decide +kernel, by decide +kernel⟩
theorem mk_BadRatio {P : Program} {w : World} {K : PySem.W.Frag} {h : Heap} {mg : Str → Option Value} {ct : Nat → Addr} {nm q : Str} {N C fI cda cc : Addr} {bs bm sub : List Value} {sn : List Str} {ab : Bool} {col : Option Bool} {dd od an cdd cld : Option Addr} {m0 m1 m2 m3 m5 : Option Value} {oc kV doc pm ct1 ccl cl : Value} {osl ccs csl : Array (Option Value)} {cvs : Array Value} {file : Str} {tf : Tok} {cdD : ClassData}
    (KX : K.In h) (G : h.Ns mainGlobals mg) (eC : PySem.W.nsIn K mainGlobals "BadRatio" = some (some (.ref C))) (hct : ct 0 = C) (iC : PySem.W.findIn K (.ref C) "__init__" = some (some (.ref fI))) (tI : PySem.W.typeIn K (.ref fI) = some (.type "function"))
    (xL : K.lookup C = some (excClassObj nm q C N bs bm true sn sub ab col dd m0 m1 m2 m3 m5 "ValueError.__new__")) (hbm : PySem.HandSPX.refsVE bm = true) (sa : PySem.W.findIn K (.ref C) "__setattr__" = some (some (.builtin "object.__setattr__")))
    (exC : PySem.W.subIn K (.ref C) (.type "BaseException") = some true) (tC : PySem.W.typeIn K (.ref C) = some (.type "type")) (kC : PySem.W.keepIn K (.ref C) = true)
    (lk : K.lookup fI = some ⟨oc, od, .func (PySem.W.ksFn "__init__" "BadRatio.__init__" (defArgs j_BadRatio) (defBody j_BadRatio) (defScope j_BadRatio) .none kV doc pm an (.ref cda) ct1 cc), osl⟩) (hcd : PySem.W.codeIn K (.ref cda) "BadRatio.__init__" = true)
    (hcode : K.lookup cda = some ⟨ccl, cdd, .fields cvs, ccs⟩) (hvs : cvs[2]? = some (.str file tf)) (hfile : ((P.main.file : Str) == file) = true)
    (hcell : K.lookup cc = some ⟨cl, cld, .cell (some (.ref C)), csl⟩) (hD : PySem.W.clsIn K C = some cdD) (hsub : PySem.W.mroIn K C (.ref C) = some true) (hsuper : PySem.W.nsIn K mainGlobals "super" = some none)
    (htop : (P.main.scope.names.lookup ("super" : Str)).isSome = false) (hop : PySem.W.nsIn K cStatics "thirdparty.any" = some none)
    (hsu : PySem.W.ks_superIn K C C "__init__" = some (some (.builtin "ValueError.__init__"))) (hB : PySem.W.subIn K (.ref C) (.type "ValueError") = some true) (kf : PySem.W.keepIn K (.ref fI) = true)
    (n_what : PySem.W.findIn K (.ref C) "what" = some none) : ∀ base : Heap, ErrX P w K mg base ct "BadRatio" 0 ["what"] := fun base => by
  subst hct
  have T : OexC K (ct 0) := ⟨⟨nm, q, N, bs, bm, sn, sub, ab, col, dd, m0, m1, m2, m3, m5, xL, hbm⟩, sa, exC, tC, kC⟩
  refine ⟨fI, _, ["self", "what"], T, iC, tI, fn_err lk hcd scx_BadRatio rfl rfl T hcode hvs hfile hcell hD hsub (PySem.W.mg_none_of KX G hsuper) htop (by rfl) hop hsu hB rfl (by decide) (by decide) (by decide) (List.forall_mem_cons.mpr ⟨n_what, (fun _ h => nomatch h)⟩)
    (fun A outer s H E => (pak_str (pak_var 1 .nil (pv 1) (by decide)))) (fun A outer s H E => (.cons (pv 0) (pv 1) rfl .nil)), .all ?_, PySem.W.mg_of KX G eC⟩
  exact fun us hl => match us, hl with | [_, _], _ => rfl
theorem all_mk {P : Program} {w : World} {K : PySem.W.Frag} {h : Heap} {mg : Str → Option Value} {fa : Addr} {C_BadRatio : Addr} (KX : K.In h) (G : h.Ns mainGlobals mg) (hfa : mg "law" = some (.ref fa))
    (e_BadRatio : PySem.W.nsIn K mainGlobals "BadRatio" = some (some (.ref C_BadRatio)))
    (z_abs : PySem.W.nsIn K mainGlobals "abs" = some none)
    (z_bool : PySem.W.nsIn K mainGlobals "bool" = some none)
    (z_int : PySem.W.nsIn K mainGlobals "int" = some none)
    (z_isinstance : PySem.W.nsIn K mainGlobals "isinstance" = some none)
    (z_len : PySem.W.nsIn K mainGlobals "len" = some none)
    (z_range : PySem.W.nsIn K mainGlobals "range" = some none)
    (z_str : PySem.W.nsIn K mainGlobals "str" = some none)
    (z_tuple : PySem.W.nsIn K mainGlobals "tuple" = some none)
    (gcd : PySem.W.nsIn K mainGlobals "gcd" = some (some (.builtin "math.gcd")))
    (c_MOST_DIGITS : CsT K mg (ctOf [C_BadRatio]) "MOST_DIGITS" (.int 300))
    (f_lowest_terms : FnT K mg "lowest_terms" s_lowest_terms [])
    (f_ratio_text : FnT K mg "ratio_text" s_ratio_text [])
    (f_read_digits : FnT K mg "read_digits" s_read_digits [])
    (f_ratio_of : FnT K mg "ratio_of" s_ratio_of [])
    (f_law_hand : FnT K mg "_law_hand" s_law_hand [])
    (f_law_take : FnT K mg "_law_take" s_law_take [])
    (f_law_gcd : FnT K mg "_law_gcd" s_law_gcd [])
    (f_law_ratio : FnT K mg "_law_ratio" s_law_ratio [])
    (f_law_wide : FnT K mg "_law_wide" s_law_wide [])
    (f_law_wide_ratio : FnT K mg "_law_wide_ratio" s_law_wide_ratio [])
    (f_law_plain : FnT K mg "_law_plain" s_law_plain [])
    (f_law_text : FnT K mg "_law_text" s_law_text [])
    (f_law_read : FnT K mg "_law_read" s_law_read [])
    (f_law_long : FnT K mg "_law_long" s_law_long [])
    (f_law_spoilt : FnT K mg "_law_spoilt" s_law_spoilt [])
    (x_BadRatio : ∀ base, ErrX P w K mg base (ctOf [C_BadRatio]) "BadRatio" 0 ["what"])
    (h_BadRatio : ErrH K mg (ctOf [C_BadRatio]) "BadRatio" 0 (exsOf 1 0))
    (no_BadRatio_what : PySem.W.findIn K (.ref ((ctOf [C_BadRatio]) 0)) "what" = some none)
    (f_law : FnT K mg "law" s_law []) :
    ∃ fd : FuncData, (∀ (s : Shared) (v : Value), BindsTo s fd ⟨[v], []⟩ [("_law_script", v)]) ∧ ∀ base : Heap, K.In base → base.Ns mainGlobals mg → FnOk P w K mg base (L2.CX P w) 5 fa fd ["_law_script"] (spLaw K) := by
  obtain ⟨f, fd, hm, F⟩ := f_law.ex
  have e := hfa.symm.trans hm
  cases e
  refine ⟨fd, fun s v => ?_, fun base _ _ => ok_law (ct := (ctOf [C_BadRatio])) ⟨PySem.W.mg_none_of KX G z_abs, PySem.W.mg_none_of KX G z_bool, PySem.W.mg_none_of KX G z_int, PySem.W.mg_none_of KX G z_isinstance, PySem.W.mg_none_of KX G z_len, PySem.W.mg_none_of KX G z_range, PySem.W.mg_none_of KX G z_str, PySem.W.mg_none_of KX G z_tuple, PySem.W.mg_of KX G gcd, c_MOST_DIGITS, f_lowest_terms, f_ratio_text, f_read_digits, f_ratio_of, f_law_hand, f_law_take, f_law_gcd, f_law_ratio, f_law_wide, f_law_wide_ratio, f_law_plain, f_law_text, f_law_read, f_law_long, f_law_spoilt, x_BadRatio base, h_BadRatio, no_BadRatio_what⟩ F law_holds⟩
  obtain ⟨oc, od, dV, kV, doc, pm, an, cdv, ct2, osl, rfl, lk, hcd, hD, hK⟩ := F.ex
  rcases hD with ⟨_, rfl⟩ | ⟨z, _⟩
  · exact .of_eq rfl
  · exact absurd rfl z
end Law
open PySem PySem.W PyProof.Rows
set_option maxRecDepth 100000 in
set_option maxHeartbeats 0 in
theorem PySem.Challenge.cw_stillarms_k02_whole_ratio_texts_read_holds : PySem.Challenge.rw_stillarms_k02_whole_ratio_texts_read.Holds := by
  w_on; o_law; k_head; (case hw => w_witness2)
  k_fill
  refine Fd.law_end (l := PySem.Challenge.rw_stillarms_k02_whole_ratio_texts_read) (k := 5) rfl rfl ⟨rfl, by decide, by decide⟩ (fun w h Y => PySem.W.kIn_of Y) ?F
  case F =>
    intro w mg fa h KX G hmg
    refine' Law.all_mk KX G hmg ?e_BadRatio ?z_abs ?z_bool ?z_int ?z_isinstance ?z_len ?z_range ?z_str ?z_tuple ?gcd ?c_MOST_DIGITS ?f_lowest_terms ?f_ratio_text ?f_read_digits ?f_ratio_of ?f_law_hand ?f_law_take ?f_law_gcd ?f_law_ratio ?f_law_wide ?f_law_wide_ratio ?f_law_plain ?f_law_text ?f_law_read ?f_law_long ?f_law_spoilt ?x_BadRatio ?h_BadRatio ?no_BadRatio_what ?f_law
    (case e_BadRatio => k_is)
    (case z_abs => k_is)
    (case z_bool => k_is)
    (case z_int => k_is)
    (case z_isinstance => k_is)
    (case z_len => k_is)
    (case z_range => k_is)
    (case z_str => k_is)
    (case z_tuple => k_is)
    (case gcd => k_is)
    (case c_MOST_DIGITS => refine' Fd.csT_int KX G ?e_c_MOST_DIGITS; (case e_c_MOST_DIGITS => k_is))
    (case f_lowest_terms => refine' Fd.fnT0 KX G ?e_f_lowest_terms ?l_f_lowest_terms ?c_f_lowest_terms ?k_f_lowest_terms; (case e_f_lowest_terms => k_is); (case l_f_lowest_terms => k_is); (case c_f_lowest_terms => k_is); (case k_f_lowest_terms => k_is))
    (case f_ratio_text => refine' Fd.fnT0 KX G ?e_f_ratio_text ?l_f_ratio_text ?c_f_ratio_text ?k_f_ratio_text; (case e_f_ratio_text => k_is); (case l_f_ratio_text => k_is); (case c_f_ratio_text => k_is); (case k_f_ratio_text => k_is))
    (case f_read_digits => refine' Fd.fnT0 KX G ?e_f_read_digits ?l_f_read_digits ?c_f_read_digits ?k_f_read_digits; (case e_f_read_digits => k_is); (case l_f_read_digits => k_is); (case c_f_read_digits => k_is); (case k_f_read_digits => k_is))
    (case f_ratio_of => refine' Fd.fnT0 KX G ?e_f_ratio_of ?l_f_ratio_of ?c_f_ratio_of ?k_f_ratio_of; (case e_f_ratio_of => k_is); (case l_f_ratio_of => k_is); (case c_f_ratio_of => k_is); (case k_f_ratio_of => k_is))
    (case f_law_hand => refine' Fd.fnT0 KX G ?e_f_law_hand ?l_f_law_hand ?c_f_law_hand ?k_f_law_hand; (case e_f_law_hand => k_is); (case l_f_law_hand => k_is); (case c_f_law_hand => k_is); (case k_f_law_hand => k_is))
    (case f_law_take => refine' Fd.fnT0 KX G ?e_f_law_take ?l_f_law_take ?c_f_law_take ?k_f_law_take; (case e_f_law_take => k_is); (case l_f_law_take => k_is); (case c_f_law_take => k_is); (case k_f_law_take => k_is))
    (case f_law_gcd => refine' Fd.fnT0 KX G ?e_f_law_gcd ?l_f_law_gcd ?c_f_law_gcd ?k_f_law_gcd; (case e_f_law_gcd => k_is); (case l_f_law_gcd => k_is); (case c_f_law_gcd => k_is); (case k_f_law_gcd => k_is))
    (case f_law_ratio => refine' Fd.fnT0 KX G ?e_f_law_ratio ?l_f_law_ratio ?c_f_law_ratio ?k_f_law_ratio; (case e_f_law_ratio => k_is); (case l_f_law_ratio => k_is); (case c_f_law_ratio => k_is); (case k_f_law_ratio => k_is))
    (case f_law_wide => refine' Fd.fnT0 KX G ?e_f_law_wide ?l_f_law_wide ?c_f_law_wide ?k_f_law_wide; (case e_f_law_wide => k_is); (case l_f_law_wide => k_is); (case c_f_law_wide => k_is); (case k_f_law_wide => k_is))
    (case f_law_wide_ratio => refine' Fd.fnT0 KX G ?e_f_law_wide_ratio ?l_f_law_wide_ratio ?c_f_law_wide_ratio ?k_f_law_wide_ratio; (case e_f_law_wide_ratio => k_is); (case l_f_law_wide_ratio => k_is); (case c_f_law_wide_ratio => k_is); (case k_f_law_wide_ratio => k_is))
    (case f_law_plain => refine' Fd.fnT0 KX G ?e_f_law_plain ?l_f_law_plain ?c_f_law_plain ?k_f_law_plain; (case e_f_law_plain => k_is); (case l_f_law_plain => k_is); (case c_f_law_plain => k_is); (case k_f_law_plain => k_is))
    (case f_law_text => refine' Fd.fnT0 KX G ?e_f_law_text ?l_f_law_text ?c_f_law_text ?k_f_law_text; (case e_f_law_text => k_is); (case l_f_law_text => k_is); (case c_f_law_text => k_is); (case k_f_law_text => k_is))
    (case f_law_read => refine' Fd.fnT0 KX G ?e_f_law_read ?l_f_law_read ?c_f_law_read ?k_f_law_read; (case e_f_law_read => k_is); (case l_f_law_read => k_is); (case c_f_law_read => k_is); (case k_f_law_read => k_is))
    (case f_law_long => refine' Fd.fnT0 KX G ?e_f_law_long ?l_f_law_long ?c_f_law_long ?k_f_law_long; (case e_f_law_long => k_is); (case l_f_law_long => k_is); (case c_f_law_long => k_is); (case k_f_law_long => k_is))
    (case f_law_spoilt => refine' Fd.fnT0 KX G ?e_f_law_spoilt ?l_f_law_spoilt ?c_f_law_spoilt ?k_f_law_spoilt; (case e_f_law_spoilt => k_is); (case l_f_law_spoilt => k_is); (case c_f_law_spoilt => k_is); (case k_f_law_spoilt => k_is))
    (case x_BadRatio => refine' Law.mk_BadRatio KX G ?eC_x_BadRatio rfl ?iC_x_BadRatio ?tI_x_BadRatio ?xL_x_BadRatio ?hbm_x_BadRatio ?sa_x_BadRatio ?exC_x_BadRatio ?tC_x_BadRatio ?kC_x_BadRatio ?lk_x_BadRatio ?hcd_x_BadRatio ?hcode_x_BadRatio ?hvs_x_BadRatio ?hfile_x_BadRatio ?hcell_x_BadRatio ?hD_x_BadRatio ?hsub_x_BadRatio ?hsuper_x_BadRatio ?htop_x_BadRatio ?hop_x_BadRatio ?hsu_x_BadRatio ?hB_x_BadRatio ?kf_x_BadRatio ?n_what_x_BadRatio; (case eC_x_BadRatio => k_is); (case iC_x_BadRatio => k_is); (case tI_x_BadRatio => k_is); (case xL_x_BadRatio => k_is); (case hbm_x_BadRatio => rfl); (case sa_x_BadRatio => k_is); (case exC_x_BadRatio => k_is); (case tC_x_BadRatio => k_is); (case kC_x_BadRatio => k_is); (case lk_x_BadRatio => k_is); (case hcd_x_BadRatio => k_is); (case hcode_x_BadRatio => k_is); (case hvs_x_BadRatio => rfl); (case hfile_x_BadRatio => rfl); (case hcell_x_BadRatio => k_is); (case hD_x_BadRatio => k_is); (case hsub_x_BadRatio => k_is); (case hsuper_x_BadRatio => k_is); (case htop_x_BadRatio => rfl); (case hop_x_BadRatio => k_is); (case hsu_x_BadRatio => kernel_rfl); (case hB_x_BadRatio => k_is); (case kf_x_BadRatio => k_is); (case n_what_x_BadRatio => k_is))
    (case h_BadRatio => refine' Law.mkh_BadRatio KX G ?eC_h_BadRatio ?ga_h_BadRatio ?gg_h_BadRatio ?exC_h_BadRatio ?hd_h_BadRatio ?m0_h_BadRatio; (case eC_h_BadRatio => k_is); (case ga_h_BadRatio => k_is); (case gg_h_BadRatio => k_is); (case exC_h_BadRatio => k_is); (case hd_h_BadRatio => k_is); (case m0_h_BadRatio => kernel_rfl))
    (case no_BadRatio_what => k_is)
    (case f_law => refine' Fd.fnT0 KX G ?e_f_law ?l_f_law ?c_f_law ?k_f_law; (case e_f_law => k_is); (case l_f_law => k_is); (case c_f_law => k_is); (case k_f_law => k_is))
