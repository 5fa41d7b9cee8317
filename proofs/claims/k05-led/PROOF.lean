import PyProof.Rows.All
import Wide.All
import OpenK.AllK
import Wide.FinOn
import HandS.ForSpec
import HandS.ForMost
import HandS.ExcInit
import KE.KExcSuper
import KE.KSuper
import HandS.ExcSuper
import HandS.Wide
import HandS.CallSlots
import HandS.Defaults
import HandS.IsInst
import HandS.TryOnly
import HandS.Flow
import HandS.Gcd
import HandS.TupAny
import HandS.Deep
import HandS.Style
import HandS.Walk
import HandS.ExcField
import HandS.Text
import HandS.StrMore
import HandS.FStr
import HandS.Iter
import PyProof.InstNe
import HandS.SetBool
import HandS.Strs
import KE.GoesMore
import KE.GoesEnum
import HandS.TupMul
import HandS.Conv
import HandS.Dict
import KE.GoesZip
import HandS.SortInts
import PySem.Challenge.RW_stillarms_k05_whole_other_arms_led_along
set_option Elab.async false
set_option linter.all false
set_option maxRecDepth 100000
set_option maxHeartbeats 4000000
namespace FdX
open PySem PySem.Spec PyProof.Rows L2
/-- the context of an __init__ that says super().__init__ -/
def cxS (CX : CXT) (P : Program) (w : World) (K : PySem.W.Frag) (mg : Str → Option Value) (base : Heap) (N : List Str) (fd : FuncData) (f : Addr) (A : Around) (outer : List Env) (s : Shared) (H : Hp) (E : XK) : Cx where
  prog := P
  w := w
  K := K
  mg := mg
  base := base
  A := A.deeper (callEnv fd s.heap.objs.size f)
  N := N
  s_0 := s
  H_0 := H
  env := callEnv fd s.heap.objs.size f
  outer := outer
  stack := callEnv fd s.heap.objs.size f :: outer
  ex := []
  calm := true
  fn := fun _ => false
  pn := []
  xe := fun e s' => wpAny (model P w) (A.deeper (callEnv fd s.heap.objs.size f)) (leaving (callEnv fd s.heap.objs.size f) e) (fun _ s'' => CX outer H s E e s'') (fun e' s'' => CX outer H s E e' s'') s'
abbrev fnS (name qual : Str) (params : Arguments) (body : List Stmt) (scope : Scope) (dV kV doc pm : Value) (an : Option Addr) (cdv ct : Value) (cc : Addr) : FuncData := PySem.W.ksFn name qual params body scope dV kV doc pm an cdv ct cc
structure ScopeS (ps : List Str) (sc : Scope) : Prop where
  kind : sc.kind = .function
  co : sc.isCoroutine = false
  gen : sc.isGenerator = false
  nd : ps.Nodup
  par : ∀ x ∈ ps, sc.names.lookup x = some .local
  nocell : ∀ y ∈ sc.names, y.2 ≠ .cell
  free : ∀ x, sc.names.lookup x = some .free → x = "__class__"
  sup : sc.names.lookup ("super" : Str) = some .globalImplicit
  cls : sc.names.lookup ("__class__" : Str) = some .free
section
variable {CX : CXT} {P : Program} {w : World} {K : PySem.W.Frag} {mg : Str → Option Value} {base : Heap} {ps : List Str} {name qual : Str} {params : Arguments} {body : List Stmt} {scope : Scope} {dV kV doc pm cdv ct : Value} {an : Option Addr} {cc f : Addr} {A : Around} {outer : List Env} {s : Shared} {H : Hp} {E : XK} {us : List Value} {vs : List V}
theorem zip_get {v : Value} {i : Nat} {x : Str} : ∀ {ps : List Str} {us : List Value} {i : Nat}, ps.Nodup → ps[i]? = some x → us[i]? = some v → (ps.zip us).reverse.lookup x = some v := by
  intro ps
  induction ps with
  | nil => intro us i _ h _; simp at h
  | cons p ps ih =>
    intro us i nd h1 h2
    cases us with
    | nil => simp at h2
    | cons u us =>
      rw [List.zip_cons_cons, List.reverse_cons, List.lookup_append]
      cases i with
      | zero =>
        simp at h1 h2
        subst h1 h2
        have hn : (ps.zip us).reverse.lookup p = none := by
          rw [List.lookup_eq_none_iff]
          intro q hq
          have hq' : q ∈ ps.zip us := by simpa using hq
          have : q.1 ∈ ps := (List.of_mem_zip hq').1
          have hne : p ≠ q.1 := fun z => (List.nodup_cons.mp nd).1 (z ▸ this)
          simpa using hne
        rw [hn]
        simp [List.lookup]
      | succ i =>
        simp at h1 h2
        rw [ih (List.nodup_cons.mp nd).2 h1 h2]
        rfl
theorem inv_startS (S : ScopeS ps scope) (hd : A.handled = none) (e0 : Env0 P w K mg base A outer s H) (hl : vs.length = ps.length) (r : Vals vs us) (hc : ∃ cl cld v csl, K.lookup cc = some ⟨cl, cld, .cell v, csl⟩)
    {h₀ : Heap} {tk : Nat} (hns : h₀.Ns s.heap.objs.size (fun x => (ps.zip us).reverse.lookup x)) (hk : ∀ b o, s.heap.get? b = some o → h₀.get? b = some o) :
    Inv (cxS CX P w K mg base ps (fnS name qual params body scope dV kV doc pm an cdv ct cc) f A outer s H E) [] (vs.map some) H { s with heap := h₀, toks := tk } := by
  have noA : ∀ b : Addr, b ∉ (cxS CX P w K mg base ps (fnS name qual params body scope dV kV doc pm an cdv ct cc) f A outer s H E).ex := fun b z => absurd (show b ∈ ([] : List Addr) from z) (by simp)
  have KX : K.In s.heap := e0.mod.kin.keeps fun b o e => (e0.bs b o e).1
  obtain ⟨cl, cld, cv, csl, hcl⟩ := hc
  have lookc : ∀ x c, (cxS CX P w K mg base ps (fnS name qual params body scope dV kV doc pm an cdv ct cc) f A outer s H E).env.cells.lookup x = some c → x = "__class__" ∧ c = cc := fun x c h => by
    have h' : List.lookup x [(("__class__" : Str), cc)] = some c := h
    rw [List.lookup_cons] at h'
    split at h'
    · rename_i z
      cases h'
      exact ⟨beq_iff_eq.mp z, rfl⟩
    · cases h'
  have hcc : s.heap.get? cc = some ⟨cl, cld, .cell cv, csl⟩ := KX _ _ hcl
  have hcb : base.get? cc = some ⟨cl, cld, .cell cv, csl⟩ := e0.mod.kin _ _ hcl
  refine ⟨⟨e0.mod, S.kind, rfl, rfl, Nat.le_refl _, fun y z c h1 h2 => by rw [(lookc y c h1).1, (lookc z c h2).1], fun y hy => ?_, fun y c hf _ => (Bool.noConfusion hf), fun _ => hd, Around.frames_deeper e0.frames, .inr ⟨rfl, rfl⟩, fun b z => absurd z (noA b), e0.bs, e0.bsz, fun b _ _ => noA b, fun b z => absurd z (noA b), e0.funs, e0.frf⟩,
    rfl, e0.bare, Un.kept hk, ⟨_, hns, fun i y v h1 h2 h3 => ?_⟩, fun y c h => ?_, e0.hok.fresh (Nat.le_refl _), fun y c h => ?_, fun p hp => absurd (show p ∈ ([] : List (Addr × Obj)) from hp) (by simp), e0.hok.kept hk, ?_⟩
  · have hy : scope.names.lookup y = some .cell ∨ scope.names.lookup y = some .free := hy
    rcases hy with hy | hy
    · exact absurd rfl (S.nocell _ (PySem.mem_of_lookup hy))
    · have := S.free y hy
      subst this
      exact ⟨cc, by show List.lookup _ [(("__class__" : Str), cc)] = some cc; simp [List.lookup]⟩
  · have ha : vs[i]? = some v := by
      rw [List.getElem?_map] at h2
      cases e : vs[i]? with
      | none => rw [e] at h2; cases h2
      | some a => rw [e] at h2; cases h2; rfl
    obtain ⟨u, hu, rv⟩ := r.get ha
    have hp : ps[i]? = some y := h1
    exact ⟨u, rv, .inl ⟨S.par y (List.mem_of_getElem? hp), zip_get (i := i) S.nd hp hu⟩⟩
  · obtain ⟨rfl, rfl⟩ := lookc y c h
    exact ⟨_, _, hk _ _ hcc, rfl⟩
  · obtain ⟨rfl, rfl⟩ := lookc y c h
    exact (e0.bs _ _ hcb).2
  · show (vs.map some).length = ps.length
    simpa using hl
end
/-! ## the call of the wrapper -/
section
open PySem.W
variable {prog : Program} {w : World} {A : Around} {E : Value → Shared → Prop} {h : Heap} {g : Array GenState} {d : Drawn} {t : Nat} {os : OsState}
variable {nm q : Str} {C N : Addr} {bs bm : List Value} {hdct : Bool} {sn : List Str} {sub : List Value} {ab : Bool} {col : Option Bool} {dd : Option Addr} {k0 k1 k2 k3 k5 : Option Value}
theorem call_mw {u e t0 : Addr} {rest : List Value} {Q : Value → Shared → Prop}
    (hC : h.get? C = some (excClassObj nm q C N bs bm hdct sn sub ab col dd k0 k1 k2 k3 k5 "ValueError.__new__")) (he : h.get? e = some (PySem.HandSPX.excO C t0)) (hu : h.get? u = some (kxs_mw "ValueError.__init__" e)) (hrest : rest.length ≤ sizeLine)
    (hq : ∀ h' t1, (∀ b o, b ≠ e → h.get? b = some o → h'.get? b = some o) → h'.get? e = some (PySem.HandSPX.excO C t1) → Q .none ⟨h', g, d, t, os⟩) :
    wpAny (model prog w) A (call (.ref u) rest) Q E ⟨h, g, d, t, os⟩ := by
  refine wpAny_call (codeAny_of_tree ?_)
  show wpAny _ A.in1 (callAny (.ref u) ⟨rest, []⟩) _ _ _
  simp only [callAny]
  refine wpAny_bind (wpAny_load hu ?_)
  simp only [kxs_mw, show (Value.type "method-wrapper" == Value.type "method" || Value.type "method-wrapper" == Value.type "builtin_function_or_method" || Value.type "method-wrapper" == Value.type "method-wrapper") = true by decide, if_true]
  refine W.KFB.if_so (by decide) ?_
  refine wpAny_bind (PySem.ESX.check_bound F.excBase_ValueError hC he rfl ?_)
  refine wpAny_bind (wpAny_pure (wpAny_pure ?_))
  refine ⟨Code.quiet_builtin _ (by decide +kernel), codeAny_builtin F.excBase_ValueError.initEntry ?_⟩
  rw [Around.under_plainId F.excBase_ValueError.init.plain _]
  wp_walk
  refine hq _ h.objs.size (fun b o hb ho => ?_) ?_
  · rw [Heap.get?_update_other _ _ (Ne.symm hb)]
    exact Heap.get?_push_of_some _ ho
  · rw [Heap.get?_update_self _ (Heap.get?_push_of_some _ he) rfl]
    rfl
end

section
open PySem.W
variable {CX : CXT} {P : Program} {w : World} {K : PySem.W.Frag} {mg : Str → Option Value} {base : Heap} {ps : List Str} {name qual : Str} {params : Arguments} {rest : List Stmt} {scope : Scope} {dV kV doc pm ct oc ccl cl : Value} {an od cdd cld : Option Addr} {cc cda f C : Addr} {osl ccs csl : Array (Option Value)} {sp : Sp} {k : Nat}
  {p0 p1 p2 p3 p4 : Pos} {e : Expr} {es : List Expr} {cvs : Array Value} {file : Str} {tf : Tok} {cdD : ClassData} {ar : Arg}
abbrev bodyS (p0 p1 p2 p3 p4 : Pos) (e : Expr) (es : List Expr) (rest : List Stmt) : List Stmt := .Expr (.Call (.Attribute (.Call (.Name "super" p0) [] [] p1) "__init__" p2) (e :: es) [] p3) p4 :: rest
theorem fn_sup (lk : K.lookup f = some ⟨oc, od, .func (fnS name qual params (bodyS p0 p1 p2 p3 p4 e es rest) scope dV kV doc pm an (.ref cda) ct cc), osl⟩) (hcd : codeIn K (.ref cda) qual = true) (S : ScopeS ps scope)
    (har : (params.posonlyargs ++ params.args).head? = some ar) (hps : ps[0]? = some ar.arg) (T : OexC K C)
    (hcode : K.lookup cda = some ⟨ccl, cdd, .fields cvs, ccs⟩) (hvs : cvs[2]? = some (.str file tf)) (hfile : ((P.main.file : Str) == file) = true)
    (hcell : K.lookup cc = some ⟨cl, cld, .cell (some (.ref C)), csl⟩) (hD : clsIn K C = some cdD) (hsub : mroIn K C (.ref C) = some true) (hsuper : mg "super" = none)
    (htop : (P.main.scope.names.lookup ("super" : Str)).isSome = false) (hboot : bootBuiltins "super" = some (.type "super")) (hop : nsIn K cStatics "thirdparty.any" = some none)
    (hsu : ks_superIn K C C "__init__" = some (some (.builtin "ValueError.__init__"))) (hB : subIn K (.ref C) (.type "ValueError") = some true)
    (len : ∀ vs H Q E, sp vs H Q E → vs.length = ps.length)
    (hbody : ∀ (A : Around) (outer : List Env) (s : Shared) (H : Hp) (vs : List V) (Q : VK) (E : XK), Room k (A.deeper (callEnv (fnS name qual params (bodyS p0 p1 p2 p3 p4 e es rest) scope dV kV doc pm an (.ref cda) ct cc) s.heap.objs.size f)) → sp vs H Q E →
      ∃ a vr ta t, vs = .ref a :: vr ∧ H a = some (exo a C none) ∧
        PA (cxS CX P w K mg base ps (fnS name qual params (bodyS p0 p1 p2 p3 p4 e es rest) scope dV kV doc pm an (.ref cda) ct cc) f A outer s H E) (e :: es) ta ∧ ta (vs.map some) H (fun ws H' => H' = H ∧ ws.length ≤ 1000) ∧
        PSs (cxS CX P w K mg base ps (fnS name qual params (bodyS p0 p1 p2 p3 p4 e es rest) scope dV kV doc pm an (.ref cda) ct cc) f A outer s H E) rest t ∧ t { nx := fun _ H' => Q .non H', rt := Q } (vs.map some) H)
    (hm1 : eval (.Call (.Attribute (.Call (.Name "super" p0) [] [] p1) "__init__" p2) (e :: es) [] p3) = fun env => (do
      let ov ← attributeBase (.Call (.Name "super" p0) [] [] p1) "__init__" env (eval (.Call (.Name "super" p0) [] [] p1) env)
      standAt p2.atName
      let (f, first) ← holding [ov] (getMethod ov "__init__" (pure false))
      callWith p3 f first (backTo p3 (starEach (e :: es) env)) []) := by rfl)
    (he : ∀ env, starEach (e :: es) env = (false, eval e env) :: starEach es env := by intro _; rfl) (hpl : ∀ env, (backTo p3 (starEach es env)).any (·.1) = false := by intro _; rfl) :
    FnOk P w K mg base CX (k + 1) f (fnS name qual params (bodyS p0 p1 p2 p3 p4 e es rest) scope dV kV doc pm an (.ref cda) ct cc) ps sp := by
  refine ⟨len, fun A outer s H args us vs Q E hr e0 hb r hsp => ?_⟩
  have hl := len _ _ _ _ hsp
  have KX : K.In s.heap := e0.mod.kin.keeps fun b o e => (e0.bs b o e).1
  have lim : s.heap.NoLimit := e0.mod.nolimit.keeps fun b o e => (e0.bs b o e).1
  refine PySem.ks_codeAny_call_defAt hr.depth (KX _ _ lk) rfl lim (codeRec_of KX hcd) rfl hb S.nocell (fun ⟨n, v⟩ hy => S.par n (List.of_mem_zip hy).1) (fun h₀ hns hk => ?_) S.co S.gen S.kind
  obtain ⟨a, vr, ta, t, rfl, ha, hA, qA, ht, qt⟩ := hbody A outer s H vs Q E (hr.deeper _) hsp
  have I : L2.Inv (cxS CX P w K mg base ps (fnS name qual params (bodyS p0 p1 p2 p3 p4 e es rest) scope dV kV doc pm an (.ref cda) ct cc) f A outer s H E) [] ((V.ref a :: vr).map some) H { s with heap := h₀, toks := s.toks + (ps.zip us).length } :=
    inv_startS S hr.hd e0 hl r ⟨_, _, _, _, hcell⟩ hns hk
  -- the first statement
  refine PySem.ks_wpAt_execs_cons (PySem.ks_wpAt_Expr_any (PySem.ks_wpAt_MethodCall (pl := pure false) ?_ (by rw [hm1])) ?hi ?hs)
  case hi => simp [interactive, callEnv, newEnv, S.kind]
  case hs => rfl
  -- the heap's facts
  have kI := I.kIn
  have hCo : ∃ oD, h₀.get? C = some oD ∧ oD.data = .cls cdD := by
    unfold clsIn at hD
    split at hD
    · rename_i c d cd' sl ho
      cases hD
      exact ⟨_, kI _ _ ho, rfl⟩
    · cases hD
  obtain ⟨oD, hD1, hD2⟩ := hCo
  obtain ⟨t1, hx⟩ := exo_at I.hok ha
  have hxC : a ≠ C := by
    intro z
    rw [z] at hx
    have hx' : h₀.get? C = _ := hx
    rw [hD1] at hx'
    cases hx'
    cases hD2
  have hself : us[0]? = some (.ref a) := by
    cases r with
    | cons q _ => cases q; rfl
  refine PySem.ks_wpAt_super_base S.sup S.cls (by decide) rfl (kI _ _ lk) rfl har rfl (kI _ _ hcode) rfl hvs hfile htop ?_
  obtain ⟨mb, bl1, bl2⟩ := I.mod.blt
  refine ks_loadName_global S.kind S.sup (Calls.loadGlobal_builtin (I.mod.glob.keeps I.bk) hsuper (bl1.keeps I.bk) ((bl2 _ (by decide)).trans hboot) ⟨rfl, ?_⟩)
  refine wpAny_loadName_free S.kind S.cls rfl ⟨_, kI _ _ hcell, rfl⟩ ?_
  refine wpAny_loadName_local S.kind (S.par _ (List.mem_of_getElem? hps)) hns (zip_get (i := 0) S.nd hps hself) ?_
  refine PySem.ks_wpAny_isType_cls hD1 hD2 ⟨rfl, ?_⟩
  refine PySem.ks_wpAny_call_super hD1 hD2 hx rfl (fun c z => by cases z) (looks_mroIn kI hsub) (fun h1 e1 k1 => ?_)
  have I1 := I.kept (h' := h1) (t' := s.toks + (ps.zip us).length) fun b u q => k1 b u q
  have kI1 := I1.kIn
  refine kxs_getMethod kxs_ValueError e1 (looks_opaque kI1 hop) (l₀ := cdD.mro) ?g1 rfl kI1 ?g2 ?g3 hxC (by decide) ?g4
  case g1 => exact fun A Q E s k q => wpAny_bind ((looks_clsIn kI1 hD) A _ E s k (wpAny_pure q))
  case g2 =>
    unfold ks_superIn at hsu
    rw [hD] at hsu
    exact hsu
  case g3 =>
    have ty : Looks (model P w) h1 (typeOf (.ref a)) (.ref C) := fun A Q E s k q => wpAny_typeOf_ref (k _ _ (k1 _ _ hx)) q
    exact ty.andThen (looks_subIn kI1 hB)
  case g4 =>
    refine kxs_callWith (i := "ValueError.__init__") (x := a) (by rw [he]; show (false || (backTo p3 (starEach es _)).any (·.1)) = false; rw [hpl]; rfl) ?_
    have I2 := I1.kept (h' := h1.push (kxs_mw "ValueError.__init__" a)) (t' := s.toks + (ps.zip us).length + 1) fun b u q => Heap.get?_push_of_some _ q
    have hu : (h1.push (kxs_mw "ValueError.__init__" a)).get? h1.objs.size = some (kxs_mw "ValueError.__init__" a) := Heap.get?_push_size _ rfl
    have I3 := I2.pins_of (pins' := [(h1.objs.size, kxs_mw "ValueError.__init__" a)]) fun p hp => by
      have : p = (h1.objs.size, kxs_mw "ValueError.__init__" a) := by simpa using hp
      subst this
      exact ⟨hu, I1.hok.fresh (Nat.le_refl _), Nat.ne_of_gt I1.lt, I1.nofs (Nat.le_refl _), fun v z => by cases z⟩
    rw [he]
    refine Calls.evalArgs_plain ?_
    have hrun := hA.run p3 [(h1.objs.size, kxs_mw "ValueError.__init__" a)] _ _ H _ I3 qA
    rw [he] at hrun
    refine wpAny_mono hrun (fun ws s3 ⟨wvs, H3, I4, rw3, eH, lw⟩ => ?_) fun _ _ z => z
    subst eH
    have hp := I4.pin (h1.objs.size, kxs_mw "ValueError.__init__" a) (by simp [cxS])
    refine ⟨hp.1, ?_⟩
    obtain ⟨nm, q, N, bs, bm, sn, sub, ab, col, dd, k0, k1', k2, k3, k5, hC, hbm⟩ := T.cls
    obtain ⟨t2, hx2⟩ := exo_at I4.hok ha
    obtain ⟨hp3, g3, d3, tk3, os3⟩ := s3
    refine call_mw (I4.kIn _ _ hC) hx2 hp.1 ?_ fun h4 t4 k4 hx4 => ?_
    · show ([] ++ ws).length ≤ sizeLine
      rw [List.nil_append, ← Paired.length rw3, sizeLine_eq]
      omega
    have J := I4.write (t' := tk3) (x := a) (e := a) (o := exo a C none) (by rw [ha]; exact True.intro) (.inl rfl) k4 ⟨_, hx4⟩ (exo_ok hx4)
    have eu : upd H3 a (exo a C none) = H3 := by
      funext b
      by_cases hb : b = a
      · rw [hb, upd_same, ha]
      · rw [upd_ne hb]
    rw [eu] at J
    refine PySem.wpAt_of_wpAny (wpAny_mono (ht.run _ _ _ H3 _ J qt) (fun fl s' hs => ?_) fun e s' hs => hs)
    have fin : ∀ {σ' : L2.St} {H' : Hp} {v : V} {u : Value} {pp}, L2.Inv (cxS CX P w K mg base ps (fnS name qual params (bodyS p0 p1 p2 p3 p4 e es rest) scope dV kV doc pm an (.ref cda) ct cc) f A outer s H3 E) pp σ' H' s' → RelV v u → Q v H' → CE outer P w H3 s Q u s' :=
      fun {σ' H' v u pp} J rv q => ⟨v, H', J.os, J.bare, J.base, J.hok, rv, q⟩
    cases fl with
    | ret u =>
      obtain ⟨v, σ', H', J, rv, q⟩ := hs
      exact fin J rv q
    | next =>
      obtain ⟨σ', H', J, q⟩ := hs
      exact fin (v := V.non) (u := Value.none) J rfl q
    | brk =>
      obtain ⟨_, _, _, q⟩ := hs
      exact False.elim q
    | cont =>
      obtain ⟨_, _, _, q⟩ := hs
      exact False.elim q
end
end FdX
set_option Elab.async false
set_option linter.all false
set_option maxRecDepth 100000
set_option maxHeartbeats 4000000
namespace Fd
open PySem PySem.Spec PyProof.Rows L2

/-! ## data -/
inductive D where
  | non | bl (b : Bool) | int (i : Int) | str (x : Str) | tup (ds : List D) | lst (ds : List D) | obj (c : Nat) (ds : List (Str × D)) | dct (kds : List (Key × D))

/-- a locked list -/
def FzL (K : PySem.W.Frag) (H : Hp) (a : Addr) (xs : List V) : Prop := ∃ o, H a = some (.frz o (.lst xs))
theorem FzL.rd {K : PySem.W.Frag} {H : Hp} {a : Addr} {xs : List V} (h : FzL K H a xs) : Rd H a (.lst xs) := .inr h
theorem FzL.sq {K : PySem.W.Frag} {H : Hp} {a : Addr} {xs : List V} (h : FzL K H a xs) : SqL K H a xs := .inl (.inr h)
def Imm : HO → Prop
  | .tup _ => True
  | .frz _ _ => True
  | .xd _ => True
  | .ins _ _ fs => fs ≠ []
  | _ => False

section
variable (K : PySem.W.Frag) (ct : Nat → Addr)
mutual
inductive RepD (H : Hp) : V → D → Prop
  | non : RepD H .non .non
  | bl (b : Bool) : RepD H (.bl b) (.bl b)
  | int (i : Int) : RepD H (.int i) (.int i)
  | str (x : Str) : RepD H (.str x) (.str x)
  | tup {a : Addr} {vs : List V} {ds : List D} : SqT K H a vs → RepDs H vs ds → RepD H (.ref a) (.tup ds)
  | lst {a : Addr} {vs : List V} {ds : List D} : FzL K H a vs → RepDs H vs ds → RepD H (.ref a) (.lst ds)
  | obj {a dx : Addr} {c : Nat} {fs : List (Str × V)} {ds : List (Str × D)} : H a = some (.ins (ct c) dx fs) → fs ≠ [] → fs.map (·.1) = ds.map (·.1) → RepDs H (fs.map (·.2)) (ds.map (·.2)) → RepD H (.ref a) (.obj c ds)
  | dct {a : Addr} {o : Obj} {kvs : List (Key × V)} {kds : List (Key × D)} : H a = some (.frz o (.dK kvs)) → kvs.map (·.1) = kds.map (·.1) → RepDs H (kvs.map (·.2)) (kds.map (·.2)) → RepD H (.ref a) (.dct kds)
inductive RepDs (H : Hp) : List V → List D → Prop
  | nil : RepDs H [] []
  | cons {v : V} {vs : List V} {d : D} {ds : List D} : RepD H v d → RepDs H vs ds → RepDs H (v :: vs) (d :: ds)
end
end
def KeepI (H H' : Hp) : Prop := ∀ a o, H a = some o → Imm o → H' a = some o
section
variable {K : PySem.W.Frag} {ct : Nat → Addr} {H H' : Hp}
theorem FzL.mono (k : KeepI H H') {a : Addr} {xs : List V} (h : FzL K H a xs) : FzL K H' a xs := by
  obtain ⟨o, h⟩ := h
  exact ⟨o, k _ _ h trivial⟩
theorem sqT_mono (k : KeepI H H') {a : Addr} {xs : List V} (h : SqT K H a xs) : SqT K H' a xs := by
  rcases h with (h | ⟨o, h⟩) | h
  · exact .inl (.inl (k _ _ h trivial))
  · exact .inl (.inr ⟨o, k _ _ h trivial⟩)
  · exact .inr h
mutual
theorem RepD.mono (k : KeepI H H') : ∀ {v : V} {d : D}, RepD K ct H v d → RepD K ct H' v d
  | _, _, .non => .non
  | _, _, .bl b => .bl b
  | _, _, .int i => .int i
  | _, _, .str x => .str x
  | _, _, .tup h r => .tup (sqT_mono k h) (RepDs.mono k r)
  | _, _, .lst h r => .lst (h.mono k) (RepDs.mono k r)
  | _, _, .obj h z e r => .obj (k _ _ h z) z e (RepDs.mono k r)
  | _, _, .dct h e r => .dct (k _ _ h trivial) e (RepDs.mono k r)
theorem RepDs.mono (k : KeepI H H') : ∀ {vs : List V} {ds : List D}, RepDs K ct H vs ds → RepDs K ct H' vs ds
  | _, _, .nil => .nil
  | _, _, .cons r t => .cons (RepD.mono k r) (RepDs.mono k t)
end
theorem RepDs.length {vs : List V} {ds : List D} (r : RepDs K ct H vs ds) : vs.length = ds.length := by
  induction ds generalizing vs with
  | nil => cases r; rfl
  | cons d ds ih => cases r with | cons _ t => simp [ih t]
theorem RepDs.get {vs : List V} {ds : List D} (r : RepDs K ct H vs ds) : ∀ {i : Nat} {d : D}, ds[i]? = some d → ∃ v, vs[i]? = some v ∧ RepD K ct H v d := by
  induction ds generalizing vs with
  | nil => intro i d h; simp at h
  | cons d ds ih =>
    cases r with
    | cons q t =>
      intro i d' h
      cases i with
      | zero => simp at h; subst h; exact ⟨_, rfl, q⟩
      | succ i => simp at h; obtain ⟨v, e, q'⟩ := ih t h; exact ⟨v, by simpa using e, q'⟩
theorem RepDs.append {vs us : List V} {ds es : List D} (r : RepDs K ct H vs ds) (q : RepDs K ct H us es) : RepDs K ct H (vs ++ us) (ds ++ es) := by
  induction ds generalizing vs with
  | nil => cases r; exact q
  | cons d ds ih => cases r with | cons h t => exact .cons h (ih t)
end

/-! ## states -/
inductive SV where
  | dat (d : D) | ref (k : Nat) | hand
inductive RV where
  | sv (x : SV) | new (xs : List SV)
structure Hand where
  great : List Int
  mixed : Int
  cnt : Int
/-- the special object of a state: the law's hand, or the object that an __init__ is making (its class, its fields) -/
inductive Hd where
  | hand (h : Hand) | me (c : Nat) (fs : List (Str × D))
instance : Coe Hand Hd := ⟨Hd.hand⟩
structure S where
  env : List (Option SV)
  mem : List (Option (List SV))
  hd : Option Hd
structure Exn where
  c : Nat
  fs : List (Str × D)
inductive Out (α : Type) where
  | ok (a : α) (s : S) | exc (x : Exn) (s : S) | bad
def Out.post {α : Type} (o : Out α) (P : α → S → Prop) (E : Exn → S → Prop) : Prop := match o with
  | .ok a s => P a s
  | .exc x s => E x s
  | .bad => False
theorem Out.post.imp {α : Type} {o : Out α} {P P' : α → S → Prop} {E E' : Exn → S → Prop} (h : o.post P E) (hp : ∀ a s, P a s → P' a s) (he : ∀ x s, E x s → E' x s) : o.post P' E' := by
  cases o with
  | ok a s => exact hp a s h
  | exc x s => exact he x s h
  | bad => exact h
abbrev M (α : Type) := S → Out α
def pur {α : Type} (a : α) : M α := fun s => .ok a s
def bnd {α β : Type} (m : M α) (f : α → M β) : M β := fun s => match m s with
  | .ok a s' => f a s'
  | .exc x s' => .exc x s'
  | .bad => .bad
def stuck {α : Type} : M α := fun _ => .bad
theorem post_bnd {α β : Type} {m : M α} {f : α → M β} {s : S} {P : β → S → Prop} {E : Exn → S → Prop} (h : (bnd m f s).post P E) : (m s).post (fun a s1 => (f a s1).post P E) E := by
  unfold bnd at h
  cases e : m s with
  | ok a s' => rw [e] at h; exact h
  | exc x s' => rw [e] at h; exact h
  | bad => rw [e] at h; exact h

/-! ## what stands for a state -/
structure G where
  kp : Nat → Addr
  ah : Addr
  g : Addr
def Live (s : S) (k : Nat) : Prop := ∃ xs, s.mem[k]? = some (some xs)
theorem Live.lt {s : S} {k : Nat} (h : Live s k) : k < s.mem.length := by
  obtain ⟨xs, h⟩ := h
  exact (List.getElem?_eq_some_iff.mp h).1
def Own (γ : G) (s : S) (a : Addr) : Prop := (∃ k, Live s k ∧ γ.kp k = a) ∨ (s.hd ≠ none ∧ (a = γ.ah ∨ a = γ.g))
def HandAt (γ : G) (H : Hp) (h : Hand) : Prop := H γ.ah = some (.lst [.ref γ.g, .int h.mixed, .int h.cnt]) ∧ H γ.g = some (.lst (h.great.map V.int))
/-- an object in the making: its own object, its dict -/
def meA (a C dx : Addr) : Heap → Prop := fun h => h.get? a = some (PySem.W.instObj C dx)
def meD (dx : Addr) (fs : List (Str × V)) : Heap → Prop := fun h => fs.length ≤ 1000 ∧ ∃ mA, h.Ns1 dx mA ∧ (∀ f, RelO (fs.lookup f) (mA f)) ∧ PySem.Within mA (fs.map (·.1))
section
variable (K : PySem.W.Frag) (ct : Nat → Addr)
def MeAt (γ : G) (H : Hp) (c : Nat) (ds : List (Str × D)) : Prop := ∃ fs : List (Str × V), H γ.ah = some (.ext (meA γ.ah (ct c) γ.g)) ∧ H γ.g = some (.ext (meD γ.g fs)) ∧ γ.g ≠ γ.ah ∧ fs.map (·.1) = ds.map (·.1) ∧ RepDs K ct H (fs.map (·.2)) (ds.map (·.2))
def RepHd (γ : G) (H : Hp) : Hd → Prop
  | .hand h => HandAt γ H h
  | .me c ds => MeAt K ct γ H c ds
def RepS (γ : G) (n : Nat) (H : Hp) (v : V) : SV → Prop
  | .dat d => RepD K ct H v d
  | .ref k => k < n ∧ v = .ref (γ.kp k)
  | .hand => v = .ref γ.ah
structure Rep (γ : G) (H : Hp) (σ : L2.St) (s : S) : Prop where
  len : σ.length = s.env.length
  env : ∀ (i : Nat) x, s.env[i]? = some (some x) → ∃ v, σ[i]? = some (some v) ∧ RepS K ct γ s.mem.length H v x
  mem : ∀ (k : Nat) xs, s.mem[k]? = some (some xs) → ∃ vs, H (γ.kp k) = some (.lst vs) ∧ Paired (RepS K ct γ s.mem.length H) vs xs
  inj : ∀ j k, Live s j → Live s k → γ.kp j = γ.kp k → j = k
  hd : ∀ h, s.hd = some h → RepHd K ct γ H h
  hdk : s.hd ≠ none → ∀ k, Live s k → γ.kp k ≠ γ.ah ∧ γ.kp k ≠ γ.g
structure Step (γ γ' : G) (s s' : S) (H H' : Hp) : Prop where
  keep : ∀ a o, H a = some o → ¬ Own γ s a → H' a = some o
  own : ∀ a, Own γ' s' a → Own γ s a ∨ H a = none
  imm : KeepI H H'
  there : ∀ a, H a ≠ none → H' a ≠ none
  kp : ∀ k, k < s.mem.length → γ'.kp k = γ.kp k
  len : s.mem.length ≤ s'.mem.length
  ah : γ'.ah = γ.ah
  fresh : ∀ k, s.mem.length ≤ k → k < s'.mem.length → H (γ'.kp k) = none
def RepR (γ : G) (s : S) (H0 H : Hp) (v : V) : RV → Prop
  | .sv x => RepS K ct γ s.mem.length H v x
  | .new xs => ∃ a vs, v = .ref a ∧ H0 a = none ∧ H a = some (.lst vs) ∧ ¬ Own γ s a ∧ Paired (RepS K ct γ s.mem.length H) vs xs
/-- an exception: its class, its own dict -/
def RepX (H : Hp) (x : Exn) (cl : Value) (d : Option Addr) : Prop := cl = .ref (ct x.c) ∧ ((x.fs = [] ∧ d = none) ∨ ∃ dx fs, d = some dx ∧ H dx = some (.xd fs) ∧ fs.map (·.1) = x.fs.map (·.1) ∧ RepDs K ct H (fs.map (·.2)) (x.fs.map (·.2)))
end
section
variable {K : PySem.W.Frag} {ct : Nat → Addr} {γ γ1 γ2 : G} {s s1 s2 : S} {H H1 H2 : Hp} {σ : L2.St}
theorem KeepI.refl : KeepI H H := fun _ _ e _ => e
theorem KeepI.trans (a : KeepI H H1) (b : KeepI H1 H2) : KeepI H H2 := fun x o e i => b x o (a x o e i) i
theorem Step.refl : Step γ γ s s H H := ⟨fun _ _ e _ => e, fun _ h => .inl h, KeepI.refl, fun _ z => z, fun _ _ => rfl, Nat.le_refl _, rfl, fun _ h1 h2 => absurd h2 (Nat.not_lt.mpr h1)⟩
theorem Step.trans (a : Step γ γ1 s s1 H H1) (b : Step γ1 γ2 s1 s2 H1 H2) : Step γ γ2 s s2 H H2 where
  keep := fun x o e n => b.keep x o (a.keep x o e n) fun z => by
    rcases a.own x z with q | q
    · exact n q
    · rw [q] at e; cases e
  own := fun x z => by
    rcases b.own x z with q | q
    · exact a.own x q
    · by_cases n : Own γ s x
      · exact .inl n
      · right
        cases e : H x with
        | none => rfl
        | some o => rw [a.keep x o e n] at q; cases q
  imm := a.imm.trans b.imm
  there := fun x z => b.there x (a.there x z)
  kp := fun k h => (b.kp k (Nat.lt_of_lt_of_le h a.len)).trans (a.kp k h)
  len := Nat.le_trans a.len b.len
  ah := b.ah.trans a.ah
  fresh := fun k h1 h2 => by
    by_cases h : k < s1.mem.length
    · rw [b.kp k h]; exact a.fresh k h1 h
    · have q := b.fresh k (Nat.not_lt.mp h) h2
      cases e : H (γ2.kp k) with
      | none => rfl
      | some o => exact absurd q (a.there _ (by rw [e]; exact fun z => by cases z))
theorem RepS.mono (t : Step γ γ1 s s1 H H1) {v : V} {x : SV} (h : RepS K ct γ s.mem.length H v x) : RepS K ct γ1 s1.mem.length H1 v x := by
  cases x with
  | dat d => exact RepD.mono t.imm h
  | ref k => exact ⟨Nat.lt_of_lt_of_le h.1 t.len, by rw [t.kp k h.1]; exact h.2⟩
  | hand => show v = .ref γ1.ah; rw [t.ah]; exact h
theorem RepSs.mono (t : Step γ γ1 s s1 H H1) {vs : List V} {xs : List SV} (h : Paired (RepS K ct γ s.mem.length H) vs xs) : Paired (RepS K ct γ1 s1.mem.length H1) vs xs := Paired.mapP h fun _ _ r => r.mono t
theorem RepR.mono {H0 : Hp} (t : Step γ γ1 s s1 H H1) {v : V} {r : RV} (h : RepR K ct γ s H0 H v r) : RepR K ct γ1 s1 H0 H1 v r := by
  cases r with
  | sv x => exact RepS.mono t h
  | new xs =>
    obtain ⟨a, vs, rfl, e0, e, n, p⟩ := h
    refine ⟨a, vs, rfl, e0, t.keep a _ e n, fun z => ?_, RepSs.mono t p⟩
    rcases t.own a z with q | q
    · exact n q
    · rw [q] at e; cases e
theorem free_of {H H1 : Hp} (t : ∀ a, H a ≠ none → H1 a ≠ none) {a : Addr} (e : H1 a = none) : H a = none := by
  cases q : H a with
  | none => rfl
  | some o => exact absurd e (t a (by rw [q]; exact fun z => by cases z))
theorem RepR.base {Ha Hb : Hp} (t : ∀ a, Ha a ≠ none → Hb a ≠ none) {v : V} {r : RV} (h : RepR K ct γ s Hb H v r) : RepR K ct γ s Ha H v r := by
  cases r with
  | sv x => exact h
  | new xs =>
    obtain ⟨a, vs, rfl, e0, e, n, p⟩ := h
    exact ⟨a, vs, rfl, free_of t e0, e, n, p⟩
theorem hd_two (R : Rep K ct γ H σ s) {h : Hd} (e : s.hd = some h) : ∃ o u, H γ.ah = some o ∧ H γ.g = some u ∧ ¬ Imm o ∧ ¬ Imm u := by
  have q := R.hd h e
  cases h with
  | hand h => exact ⟨_, _, q.1, q.2, (fun z => z), (fun z => z)⟩
  | me c ds =>
    obtain ⟨fs, q1, q2, _⟩ := q
    exact ⟨_, _, q1, q2, (fun z => z), (fun z => z)⟩
theorem Rep.own_some (R : Rep K ct γ H σ s) {a : Addr} (h : Own γ s a) : ∃ o, H a = some o ∧ ¬ Imm o := by
  rcases h with ⟨k, ⟨xs, e⟩, rfl⟩ | ⟨n, h⟩
  · obtain ⟨vs, q, _⟩ := R.mem k xs e
    exact ⟨_, q, fun z => z⟩
  · cases e : s.hd with
    | none => exact absurd e n
    | some hh =>
      obtain ⟨o, u, q1, q2, i1, i2⟩ := hd_two R e
      rcases h with rfl | rfl
      · exact ⟨_, q1, i1⟩
      · exact ⟨_, q2, i2⟩
theorem Rep.imm_notOwn (R : Rep K ct γ H σ s) {a : Addr} {o : HO} (e : H a = some o) (i : Imm o) : ¬ Own γ s a := fun z => by
  obtain ⟨u, q, n⟩ := R.own_some z
  rw [q] at e; cases e; exact n i
theorem keepI_new {p : Addr} {o : HO} (h : H p = none) : KeepI H (upd H p o) := fun a u e _ => by
  rw [upd_ne (ne_of_none e h)]; exact e
/-- a new object that is not owned -/
theorem there_upd {p : Addr} {o : HO} : ∀ a, H a ≠ none → upd H p o a ≠ none := fun a z => by
  unfold upd
  split
  · exact fun q => by cases q
  · exact z
theorem Step.laid {p : Addr} {o : HO} (h : H p = none) : Step γ γ s s H (upd H p o) :=
  ⟨fun a u e _ => by rw [upd_ne (ne_of_none e h)]; exact e, fun _ z => .inl z, keepI_new h, there_upd, fun _ _ => rfl, Nat.le_refl _, rfl, fun _ h1 h2 => absurd h2 (Nat.not_lt.mpr h1)⟩
theorem HandAt.mono {h : Hand} (e1 : ∀ a o, H a = some o → (a = γ.ah ∨ a = γ.g) → H1 a = some o) (x : HandAt γ H h) : HandAt γ H1 h := ⟨e1 _ _ x.1 (.inl rfl), e1 _ _ x.2 (.inr rfl)⟩
theorem RepHd.mono {h : Hd} (e1 : ∀ a o, H a = some o → (a = γ.ah ∨ a = γ.g) → H1 a = some o) (ki : KeepI H H1) (x : RepHd K ct γ H h) : RepHd K ct γ H1 h := by
  cases h with
  | hand h => exact HandAt.mono e1 x
  | me c ds =>
    obtain ⟨fs, q1, q2, q3, q4, q5⟩ := x
    exact ⟨fs, e1 _ _ q1 (.inl rfl), e1 _ _ q2 (.inr rfl), q3, q4, RepDs.mono ki q5⟩
/-- all is kept -/
theorem Rep.kept (R : Rep K ct γ H σ s) (k : ∀ a o, H a = some o → H1 a = some o) : Rep K ct γ H1 σ s := by
  have st : Step γ γ s s H H1 := ⟨fun a o e _ => k a o e, fun _ z => .inl z, fun a o e _ => k a o e, fun a z q => z (by cases e : H a with | none => rfl | some o => rw [k a o e] at q; cases q), fun _ _ => rfl, Nat.le_refl _, rfl, fun _ h1 h2 => absurd h2 (Nat.not_lt.mpr h1)⟩
  refine ⟨R.len, fun i x e => ?_, fun k' xs e => ?_, R.inj, fun h e => ?_, R.hdk⟩
  · obtain ⟨v, q, r⟩ := R.env i x e
    exact ⟨v, q, r.mono st⟩
  · obtain ⟨vs, q, r⟩ := R.mem k' xs e
    exact ⟨vs, k _ _ q, RepSs.mono st r⟩
  · exact RepHd.mono (fun a o q _ => k a o q) (fun a o e _ => k a o e) (R.hd h e)
theorem Rep.laid (R : Rep K ct γ H σ s) {p : Addr} {o : HO} (h : H p = none) : Rep K ct γ (upd H p o) σ s := R.kept fun a u e => by rw [upd_ne (ne_of_none e h)]; exact e
theorem Rep.notOwn_free (R : Rep K ct γ H σ s) {p : Addr} (h : H p = none) : ¬ Own γ s p := fun z => by
  obtain ⟨u, q, _⟩ := R.own_some z
  rw [h] at q; cases q
end

/-! ## judgements -/
section
variable (K : PySem.W.Frag) (ct : Nat → Addr)
def GoodX (W : WX) (σ : L2.St) (γ : G) (s : S) (H : Hp) (x : Exn) (s' : S) : Prop := ∀ cl d γ' H', Step γ γ' s s' H H' → Rep K ct γ' H' σ s' → RepX K ct H' x cl d → W cl d σ H'
def Good (W : WX) (σ : L2.St) (γ : G) (s : S) (H : Hp) (o : Out RV) (Q : VK) : Prop :=
  o.post (fun r s' => ∀ v γ' H', Step γ γ' s s' H H' → Rep K ct γ' H' σ s' → RepR K ct γ' s' H H' v r → Q v H') (GoodX K ct W σ γ s H)
def GoodT (W : WX) (σ : L2.St) (γ : G) (s : S) (H : Hp) (o : Out Bool) (Q : Bool → Hp → Prop) : Prop :=
  o.post (fun b s' => ∀ γ' H', Step γ γ' s s' H H' → Rep K ct γ' H' σ s' → Q b H') (GoodX K ct W σ γ s H)
def GoodA (W : WX) (σ : L2.St) (γ : G) (s : S) (H : Hp) (o : Out (List SV)) (Q : List V → Hp → Prop) : Prop :=
  o.post (fun xs s' => ∀ vs γ' H', Step γ γ' s s' H H' → Rep K ct γ' H' σ s' → Paired (RepS K ct γ' s'.mem.length H') vs xs → Q vs H') (GoodX K ct W σ γ s H)
inductive Fl where
  | nx | bk | ct | rt (r : RV)
def GoodXS (W : WX) (γ : G) (s : S) (H : Hp) (x : Exn) (s' : S) : Prop := ∀ cl d σ' γ' H', Step γ γ' s s' H H' → Rep K ct γ' H' σ' s' → RepX K ct H' x cl d → W cl d σ' H'
def GoodF (γ : G) (s : S) (H : Hp) (N : Ends) (f : Fl) (s' : S) : Prop := match f with
  | .nx => ∀ σ' γ' H', Step γ γ' s s' H H' → Rep K ct γ' H' σ' s' → N.nx σ' H'
  | .bk => ∀ σ' γ' H', Step γ γ' s s' H H' → Rep K ct γ' H' σ' s' → N.bk σ' H'
  | .ct => ∀ σ' γ' H', Step γ γ' s s' H H' → Rep K ct γ' H' σ' s' → N.ct σ' H'
  | .rt r => ∀ v σ' γ' H', Step γ γ' s s' H H' → Rep K ct γ' H' σ' s' → RepR K ct γ' s' H H' v r → N.rt v H'
def GoodS (W : WX) (γ : G) (s : S) (H : Hp) (o : Out Fl) (N : Ends) : Prop := o.post (GoodF K ct γ s H N) (GoodXS K ct W γ s H)
end
structure ED (X : Cx) (ct : Nat → Addr) (W : WX) (e : Expr) (m : M RV) : Prop where
  ex : ∃ t, PE X e t ∧ ∀ σ H γ s Q, Rep X.K ct γ H σ s → Good X.K ct W σ γ s H (m s) Q → t σ H Q
structure TD (X : Cx) (ct : Nat → Addr) (W : WX) (e : Expr) (m : M Bool) : Prop where
  ex : ∃ t, PT X e t ∧ ∀ σ H γ s Q, Rep X.K ct γ H σ s → GoodT X.K ct W σ γ s H (m s) Q → t σ H Q
structure AD (X : Cx) (ct : Nat → Addr) (W : WX) (es : List Expr) (m : M (List SV)) : Prop where
  ex : ∃ t, PA X es t ∧ ∀ σ H γ s Q, Rep X.K ct γ H σ s → GoodA X.K ct W σ γ s H (m s) Q → t σ H Q
structure SD (X : Cx) (ct : Nat → Addr) (W : WX) (st : Stmt) (m : M Fl) : Prop where
  ex : ∃ t, PS X st t ∧ ∀ N σ H γ s, Rep X.K ct γ H σ s → GoodS X.K ct W γ s H (m s) N → t N σ H
structure SDs (X : Cx) (ct : Nat → Addr) (W : WX) (st : List Stmt) (m : M Fl) : Prop where
  ex : ∃ t, PSs X st t ∧ ∀ N σ H γ s, Rep X.K ct γ H σ s → GoodS X.K ct W γ s H (m s) N → t N σ H
section
variable {K : PySem.W.Frag} {ct : Nat → Addr} {W : WX} {γ γ1 : G} {s s1 : S} {H H1 : Hp} {σ : L2.St}
theorem GoodX.step {x : Exn} {s' : S} (t : Step γ γ1 s s1 H H1) (h : GoodX K ct W σ γ s H x s') : GoodX K ct W σ γ1 s1 H1 x s' := fun cl d γ' H' t' => h cl d γ' H' (t.trans t')
theorem GoodXS.step {x : Exn} {s' : S} (t : Step γ γ1 s s1 H H1) (h : GoodXS K ct W γ s H x s') : GoodXS K ct W γ1 s1 H1 x s' := fun cl d σ' γ' H' t' => h cl d σ' γ' H' (t.trans t')
theorem GoodXS.at {x : Exn} {s' : S} (h : GoodXS K ct W γ s H x s') : GoodX K ct W σ γ s H x s' := fun cl d γ' H' t' => h cl d σ γ' H' t'
theorem Good.step {o : Out RV} {Q : VK} (t : Step γ γ1 s s1 H H1) (h : Good K ct W σ γ s H o Q) : Good K ct W σ γ1 s1 H1 o Q := Out.post.imp h (fun r s' q v γ' H' t' R' r' => q v γ' H' (t.trans t') R' (r'.base t.there)) fun x s' q => q.step t
theorem GoodT.step {o : Out Bool} {Q : Bool → Hp → Prop} (t : Step γ γ1 s s1 H H1) (h : GoodT K ct W σ γ s H o Q) : GoodT K ct W σ γ1 s1 H1 o Q := Out.post.imp h (fun r s' q γ' H' t' => q γ' H' (t.trans t')) fun x s' q => q.step t
theorem GoodA.step {o : Out (List SV)} {Q : List V → Hp → Prop} (t : Step γ γ1 s s1 H H1) (h : GoodA K ct W σ γ s H o Q) : GoodA K ct W σ γ1 s1 H1 o Q := Out.post.imp h (fun r s' q v γ' H' t' => q v γ' H' (t.trans t')) fun x s' q => q.step t
theorem GoodF.step {f : Fl} {s' : S} {N : Ends} (t : Step γ γ1 s s1 H H1) (h : GoodF K ct γ s H N f s') : GoodF K ct γ1 s1 H1 N f s' := by
  cases f with
  | nx => exact fun σ' γ' H' t' => h σ' γ' H' (t.trans t')
  | bk => exact fun σ' γ' H' t' => h σ' γ' H' (t.trans t')
  | ct => exact fun σ' γ' H' t' => h σ' γ' H' (t.trans t')
  | rt r => exact fun v σ' γ' H' t' R' r' => h v σ' γ' H' (t.trans t') R' (r'.base t.there)
theorem GoodS.step {o : Out Fl} {N : Ends} (t : Step γ γ1 s s1 H H1) (h : GoodS K ct W γ s H o N) : GoodS K ct W γ1 s1 H1 o N := Out.post.imp h (fun f s' q => q.step t) fun x s' q => q.step t
end
end Fd
set_option Elab.async false
set_option linter.all false
set_option maxRecDepth 100000
set_option maxHeartbeats 4000000
namespace Fd
open PySem PySem.Spec PyProof.Rows L2
section
variable {K : PySem.W.Frag} {ct : Nat → Addr} {W : WX} {γ γ1 : G} {s s1 : S} {H H1 : Hp} {σ : L2.St} {β : Type}
theorem Good.imp {o : Out RV} {Q Q' : VK} (h : Good K ct W σ γ s H o Q) (f : ∀ v H, Q v H → Q' v H) : Good K ct W σ γ s H o Q' := Out.post.imp h (fun _ _ q v γ' H' t' R r => f _ _ (q v γ' H' t' R r)) fun _ _ q => q
/-- an expression first -/
theorem use_e {m : M RV} {f : RV → M β} {P : β → S → Prop} {E : Exn → S → Prop} {Q : VK} (h : (bnd m f s).post P E) (hE : ∀ x s', E x s' → GoodX K ct W σ γ s H x s')
    (k : ∀ r s1 v γ1 H1, Step γ γ1 s s1 H H1 → Rep K ct γ1 H1 σ s1 → RepR K ct γ1 s1 H H1 v r → (f r s1).post P E → Q v H1) : Good K ct W σ γ s H (m s) Q :=
  Out.post.imp (post_bnd h) (fun r s1 q v γ1 H1 t R r' => k r s1 v γ1 H1 t R r' q) hE
theorem use_t {m : M Bool} {f : Bool → M β} {P : β → S → Prop} {E : Exn → S → Prop} {Q : Bool → Hp → Prop} (h : (bnd m f s).post P E) (hE : ∀ x s', E x s' → GoodX K ct W σ γ s H x s')
    (k : ∀ b s1 γ1 H1, Step γ γ1 s s1 H H1 → Rep K ct γ1 H1 σ s1 → (f b s1).post P E → Q b H1) : GoodT K ct W σ γ s H (m s) Q :=
  Out.post.imp (post_bnd h) (fun r s1 q γ1 H1 t R => k r s1 γ1 H1 t R q) hE
theorem use_a {m : M (List SV)} {f : List SV → M β} {P : β → S → Prop} {E : Exn → S → Prop} {Q : List V → Hp → Prop} (h : (bnd m f s).post P E) (hE : ∀ x s', E x s' → GoodX K ct W σ γ s H x s')
    (k : ∀ xs s1 vs γ1 H1, Step γ γ1 s s1 H H1 → Rep K ct γ1 H1 σ s1 → Paired (RepS K ct γ1 s1.mem.length H1) vs xs → (f xs s1).post P E → Q vs H1) : GoodA K ct W σ γ s H (m s) Q :=
  Out.post.imp (post_bnd h) (fun r s1 q v γ1 H1 t R r' => k r s1 v γ1 H1 t R r' q) hE
theorem good_pur {r : RV} {Q : VK} (q : ∀ v γ' H', Step γ γ' s s H H' → Rep K ct γ' H' σ s → RepR K ct γ' s H H' v r → Q v H') : Good K ct W σ γ s H (pur r s) Q := q
end

/-! ## pure data in lists -/
def datL : List SV → Option (List D)
  | [] => some []
  | .dat d :: r => match datL r with
    | some ds => some (d :: ds)
    | none => none
  | _ :: _ => none
theorem datL_map (ds : List D) : datL (ds.map SV.dat) = some ds := by
  induction ds with
  | nil => rfl
  | cons d ds ih => simp [datL, ih]
section
variable {K : PySem.W.Frag} {ct : Nat → Addr} {W : WX} {γ γ1 : G} {s s1 : S} {H H1 : Hp} {σ : L2.St}
theorem datL_rep {n : Nat} : ∀ {xs : List SV} {ds : List D} {vs : List V}, datL xs = some ds → Paired (RepS K ct γ n H) vs xs → RepDs K ct H vs ds := by
  intro xs
  induction xs with
  | nil => intro ds vs e h; cases h; cases e; exact .nil
  | cons x xs ih =>
    intro ds vs e h
    cases h with
    | cons q t =>
      cases x with
      | dat d =>
        unfold datL at e
        cases h : datL xs with
        | none => rw [h] at e; cases e
        | some es => rw [h] at e; cases e; exact .cons q (ih h t)
      | ref _ => cases e
      | hand => cases e
theorem rep_map {n : Nat} : ∀ {ds : List D} {vs : List V}, RepDs K ct H vs ds → Paired (RepS K ct γ n H) vs (ds.map SV.dat) := by
  intro ds
  induction ds with
  | nil => intro vs h; cases h; exact .nil
  | cons d ds ih => intro vs h; cases h with | cons r t => exact .cons r (ih t)

/-! ## locking: a list becomes data -/
def substR (k : Nat) (ds : List D) : Option SV → Option SV
  | some (.ref j) => if j = k then some (.dat (.lst ds)) else some (.ref j)
  | x => x
def frz : RV → M RV
  | .sv (.dat d) => pur (.sv (.dat d))
  | .sv (.ref k) => fun s => match s.mem[k]? with
    | some (some xs) => match datL xs with
      | some ds => .ok (.sv (.dat (.lst ds))) { s with mem := s.mem.set k none, env := s.env.map (substR k ds) }
      | none => .bad
    | _ => .bad
  | .sv .hand => stuck
  | .new xs => fun s => match datL xs with
    | some ds => .ok (.sv (.dat (.lst ds))) s
    | none => .bad
end
def tFz (t : TE) : TE := fun σ H Q => t σ H fun v H1 => Q v H1 ∨ ∃ a vs, v = .ref a ∧ H1 a = some (.lst vs) ∧ ∀ o, Q v (upd H1 a (.frz o (.lst vs)))
theorem pe_fz {X : Cx} {e : Expr} {t : TE} (h : PE X e t) : PE X e (tFz t) := ⟨fun pins s σ H Q I hw =>
  thn (h.run pins s σ H _ I hw) fun u s1 ⟨v, H1, I1, r1, q1⟩ => by
    rcases q1 with q | ⟨a, vs, rfl, ea, q⟩
    · exact ⟨v, H1, I1, r1, q⟩
    · obtain ⟨o, I2⟩ := I1.lock ea trivial
      exact ⟨_, _, I2, r1, q o⟩⟩
section
variable {K : PySem.W.Frag} {ct : Nat → Addr} {W : WX} {γ γ1 : G} {s s1 : S} {H H1 : Hp} {σ : L2.St}
/-- what is not owned is locked -/
theorem step_lockN {a : Addr} {vs : List V} {o : Obj} (e : H a = some (.lst vs)) (s0 : S) (γ0 : G) (H0 : Hp) (t : Step γ0 γ s0 s H0 H) (n0 : H0 a = none) : Step γ0 γ s0 s H0 (upd H a (.frz o (.lst vs))) := by
  refine ⟨fun x u ex n => ?_, t.own, fun x u ex i => ?_, fun x z => ?_, t.kp, t.len, t.ah, t.fresh⟩
  · rw [upd_ne (ne_of_none ex n0)]; exact t.keep x u ex n
  · rw [upd_ne (ne_of_none ex n0)]; exact t.imm x u ex i
  · exact there_upd x (t.there x z)
theorem rep_lockN (R : Rep K ct γ H σ s) {a : Addr} {vs : List V} {o : Obj} (e : H a = some (.lst vs)) (n : ¬ Own γ s a) : Rep K ct γ (upd H a (.frz o (.lst vs))) σ s := by
  have ki : KeepI H (upd H a (.frz o (.lst vs))) := fun x u ex i => by
    rw [upd_ne]
    · exact ex
    · rintro rfl; rw [e] at ex; cases ex; exact i
  have m1 : ∀ {v x}, RepS K ct γ s.mem.length H v x → RepS K ct γ s.mem.length (upd H a (.frz o (.lst vs))) v x := fun {v x} r => by
    cases x with
    | dat d => exact RepD.mono ki r
    | ref k => exact r
    | hand => exact r
  refine ⟨R.len, fun i x ex => ?_, fun k xs ex => ?_, R.inj, fun h ex => ?_, R.hdk⟩
  · obtain ⟨v, q, r⟩ := R.env i x ex
    exact ⟨v, q, m1 r⟩
  · obtain ⟨us, q, r⟩ := R.mem k xs ex
    refine ⟨us, ?_, Paired.mapP r fun _ _ z => m1 z⟩
    rw [upd_ne]
    · exact q
    · rintro rfl; exact n (.inl ⟨k, ⟨xs, ex⟩, rfl⟩)
  · refine RepHd.mono (fun b u q hb => ?_) ki (R.hd h ex)
    rw [upd_ne]
    · exact q
    · rintro rfl; exact n (.inr ⟨by rw [ex]; exact (fun z => by cases z), hb⟩)
end
section
variable {X : Cx} {ct : Nat → Addr} {W : WX} {e : Expr} {m : M RV}
theorem ed_frz (h : ED X ct W e m) : ED X ct W e (bnd m frz) := by
  obtain ⟨t, pt, rt⟩ := h.ex
  refine ⟨_, pe_fz pt, fun σ H γ s Q R h => ?_⟩
  refine rt σ H γ s _ R (use_e h (fun _ _ z => z) fun r s1 v γ1 H1 t1 R1 r1 g => ?_)
  cases r with
  | sv x =>
    cases x with
    | dat d => exact .inl (g v γ1 H1 t1 R1 r1)
    | hand => exact False.elim g
    | ref k =>
      right
      have r1' : k < s1.mem.length ∧ v = .ref (γ1.kp k) := r1
      obtain ⟨hk, rfl⟩ := r1'
      unfold frz at g
      cases e1 : s1.mem[k]? with
      | none => simp only [e1] at g; exact False.elim g
      | some o1 =>
        cases o1 with
        | none => simp only [e1] at g; exact False.elim g
        | some xs =>
          simp only [e1] at g
          cases e2 : datL xs with
          | none => simp only [e2] at g; exact False.elim g
          | some ds =>
            simp only [e2] at g
            obtain ⟨vs, ek, rp⟩ := R1.mem k xs e1
            refine ⟨γ1.kp k, vs, rfl, ek, fun o => ?_⟩
            have lk : Live s1 k := ⟨xs, e1⟩
            have live : ∀ j, Live { s1 with mem := s1.mem.set k none, env := s1.env.map (substR k ds) } j → Live s1 j ∧ j ≠ k := fun j ⟨ys, ey⟩ => by
              by_cases hj : k = j
              · subst hj
                have ey' : (s1.mem.set k none)[k]? = some (some ys) := ey
                rw [List.getElem?_set_self hk] at ey'; cases ey'
              · have ey' : (s1.mem.set k none)[j]? = some (some ys) := ey
                rw [List.getElem?_set_ne hj] at ey'
                exact ⟨⟨ys, ey'⟩, fun z => hj z.symm⟩
            have ki : KeepI H1 (upd H1 (γ1.kp k) (.frz o (.lst vs))) := fun x u ex i => by
              rw [upd_ne]
              · exact ex
              · rintro rfl; rw [ek] at ex; cases ex; exact i
            have st : Step γ1 γ1 s1 { s1 with mem := s1.mem.set k none, env := s1.env.map (substR k ds) } H1 (upd H1 (γ1.kp k) (.frz o (.lst vs))) := by
              refine ⟨fun x u ex n => ?_, fun x z => ?_, ki, fun x z => there_upd x z, fun _ _ => rfl, by simp, rfl, fun j h1 h2 => by simp at h2; omega⟩
              · rw [upd_ne]
                · exact ex
                · rintro rfl; exact n (.inl ⟨k, lk, rfl⟩)
              · rcases z with ⟨j, lj, rfl⟩ | z
                · exact .inl (.inl ⟨j, (live j lj).1, rfl⟩)
                · exact .inl (.inr z)
            have dk : RepD X.K ct (upd H1 (γ1.kp k) (.frz o (.lst vs))) (.ref (γ1.kp k)) (.lst ds) := .lst ⟨o, upd_same⟩ (RepDs.mono ki (datL_rep e2 rp))
            refine g _ γ1 _ (t1.trans st) ⟨by simpa using R1.len, fun i x ex => ?_, fun j ys ey => ?_, fun i j li lj => R1.inj i j (live i li).1 (live j lj).1, fun h eh => ?_, fun z j lj => R1.hdk z j (live j lj).1⟩ dk
            · have ex' : (s1.env.map (substR k ds))[i]? = some (some x) := ex
              rw [List.getElem?_map] at ex'
              cases e3 : s1.env[i]? with
              | none => rw [e3] at ex'; cases ex'
              | some y =>
                rw [e3] at ex'
                have ex2 : substR k ds y = some x := Option.some.inj ex'
                cases y with
                | none => cases ex2
                | some y =>
                  obtain ⟨v, q, r⟩ := R1.env i y e3
                  refine ⟨v, q, ?_⟩
                  cases y with
                  | dat d => cases ex2; exact RepD.mono ki r
                  | hand => cases ex2; exact r
                  | ref j =>
                    unfold substR at ex2
                    obtain ⟨r1, rfl⟩ := r
                    by_cases hj : j = k
                    · simp only [hj, if_true] at ex2
                      cases ex2
                      rw [hj]
                      exact dk
                    · simp only [hj, if_false] at ex2
                      cases ex2
                      exact ⟨by simpa using r1, rfl⟩
            · obtain ⟨lj, nj⟩ := live j ⟨ys, ey⟩
              have ey' : (s1.mem.set k none)[j]? = some (some ys) := ey
              rw [List.getElem?_set_ne (Ne.symm nj)] at ey'
              obtain ⟨us, q, r⟩ := R1.mem j ys ey'
              refine ⟨us, ?_, Paired.mapP r fun _ _ z => z.mono st⟩
              rw [upd_ne]
              · exact q
              · exact fun z => nj (R1.inj j k lj lk z)
            · have eh' : s1.hd = some h := eh
              refine RepHd.mono (fun b u q hb => ?_) ki (R1.hd h eh')
              rw [upd_ne]
              · exact q
              · rintro rfl
                have := R1.hdk (by rw [eh']; exact fun z => by cases z) k lk
                rcases hb with z | z
                · exact this.1 z
                · exact this.2 z
  | new xs =>
    right
    unfold frz at g
    cases e2 : datL xs with
    | none => simp only [e2] at g; exact False.elim g
    | some ds =>
      simp only [e2] at g
      obtain ⟨a, vs, rfl, e0, ea, na, rp⟩ := r1
      refine ⟨a, vs, rfl, ea, fun o => ?_⟩
      have ki : KeepI H1 (upd H1 a (.frz o (.lst vs))) := fun x u ex i => by
        rw [upd_ne]
        · exact ex
        · rintro rfl; rw [ea] at ex; cases ex; exact i
      exact g _ γ1 _ (step_lockN ea s γ H t1 e0) (rep_lockN R1 ea na) (.lst ⟨o, upd_same⟩ (RepDs.mono ki (datL_rep e2 rp)))

/-! ## a new list becomes the state's own -/
def own : RV → M RV
  | .sv x => pur (.sv x)
  | .new xs => fun s => .ok (.sv (.ref s.mem.length)) { s with mem := s.mem ++ [some xs] }
theorem ed_own (h : ED X ct W e m) : ED X ct W e (bnd m own) := by
  obtain ⟨t, pt, rt⟩ := h.ex
  refine ⟨_, pt, fun σ H γ s Q R h => ?_⟩
  refine rt σ H γ s _ R (use_e h (fun _ _ z => z) fun r s1 v γ1 H1 t1 R1 r1 g => ?_)
  cases r with
  | sv x => exact g v γ1 H1 t1 R1 r1
  | new xs =>
    obtain ⟨a, vs, rfl, e0, ea, na, rp⟩ := r1
    let γ2 : G := { γ1 with kp := fun j => if j = s1.mem.length then a else γ1.kp j }
    let s2 : S := { s1 with mem := s1.mem ++ [some xs] }
    have kp1 : ∀ k, k < s1.mem.length → γ2.kp k = γ1.kp k := fun k h => if_neg (Nat.ne_of_lt h)
    have kp2 : γ2.kp s1.mem.length = a := if_pos rfl
    have live : ∀ k, Live s2 k → (Live s1 k ∧ γ2.kp k = γ1.kp k) ∨ (k = s1.mem.length ∧ γ2.kp k = a) := fun k ⟨ys, ey⟩ => by
      have ey' : (s1.mem ++ [some xs])[k]? = some (some ys) := ey
      by_cases hk : k < s1.mem.length
      · rw [List.getElem?_append_left hk] at ey'
        exact .inl ⟨⟨ys, ey'⟩, kp1 k hk⟩
      · have hk2 : k < (s1.mem ++ [some xs]).length := (List.getElem?_eq_some_iff.mp ey').1
        simp at hk2
        have : k = s1.mem.length := by omega
        exact .inr ⟨this, by rw [this]; exact kp2⟩
    have own2 : ∀ x, Own γ2 s2 x → Own γ1 s1 x ∨ x = a := fun x z => by
      rcases z with ⟨k, lk, rfl⟩ | z
      · rcases live k lk with ⟨l, q⟩ | ⟨_, q⟩
        · exact .inl (.inl ⟨k, l, q.symm⟩)
        · exact .inr q
      · exact .inl (.inr z)
    have st : Step γ γ2 s s2 H H1 := by
      refine ⟨t1.keep, fun x z => ?_, t1.imm, t1.there, fun k hk => (kp1 k (Nat.lt_of_lt_of_le hk t1.len)).trans (t1.kp k hk), by show s.mem.length ≤ (s1.mem ++ [some xs]).length; have := t1.len; simp; omega, t1.ah, fun k h1 h2 => ?_⟩
      rcases own2 x z with z | z
      · exact t1.own x z
      · rw [z]; exact .inr e0
      · have h3 : k < (s1.mem ++ [some xs]).length := h2
        simp at h3
        by_cases hk : k < s1.mem.length
        · rw [kp1 k hk]; exact t1.fresh k h1 hk
        · have : k = s1.mem.length := by omega
          rw [this, kp2]; exact e0
    have m1 : ∀ {v x}, RepS X.K ct γ1 s1.mem.length H1 v x → RepS X.K ct γ2 s2.mem.length H1 v x := fun {v x} r => by
      cases x with
      | dat d => exact r
      | ref k => exact ⟨by show k < (s1.mem ++ [some xs]).length; have := r.1; simp; omega, by rw [kp1 k r.1]; exact r.2⟩
      | hand => exact r
    refine g _ γ2 H1 st ⟨R1.len, fun i x ex => ?_, fun k ys ey => ?_, fun i j li lj eij => ?_, fun h eh => R1.hd h eh, fun z k lk => ?_⟩ ⟨by show s1.mem.length < (s1.mem ++ [some xs]).length; simp, by rw [kp2]⟩
    · obtain ⟨v, q, r⟩ := R1.env i x ex
      exact ⟨v, q, m1 r⟩
    · have ey' : (s1.mem ++ [some xs])[k]? = some (some ys) := ey
      by_cases hk : k < s1.mem.length
      · rw [List.getElem?_append_left hk] at ey'
        obtain ⟨us, q, r⟩ := R1.mem k ys ey'
        exact ⟨us, by rw [kp1 k hk]; exact q, Paired.mapP r fun _ _ z => m1 z⟩
      · have hk2 : k < (s1.mem ++ [some xs]).length := (List.getElem?_eq_some_iff.mp ey').1
        simp at hk2
        have hk3 : k = s1.mem.length := by omega
        subst hk3
        simp at ey'
        subst ey'
        exact ⟨vs, by rw [kp2]; exact ea, Paired.mapP rp fun _ _ z => m1 z⟩
    · rcases live i li with ⟨l1, q1⟩ | ⟨l1, q1⟩ <;> rcases live j lj with ⟨l2, q2⟩ | ⟨l2, q2⟩
      · exact R1.inj i j l1 l2 (by rw [← q1, ← q2]; exact eij)
      · exact absurd (.inl ⟨i, l1, by rw [← q1, eij, q2]⟩) na
      · exact absurd (.inl ⟨j, l2, by rw [← q2, ← eij, q1]⟩) na
      · rw [l1, l2]
    · rcases live k lk with ⟨l1, q1⟩ | ⟨l1, q1⟩
      · rw [q1]; exact R1.hdk z k l1
      · rw [q1]
        exact ⟨fun y => na (.inr ⟨z, .inl y⟩), fun y => na (.inr ⟨z, .inr y⟩)⟩
end
end Fd
set_option Elab.async false
set_option linter.all false
set_option maxRecDepth 100000
set_option maxHeartbeats 4000000
namespace Fd
open PySem PySem.Spec PyProof.Rows L2
abbrev RD (d : D) : RV := .sv (.dat d)
abbrev RI (i : Int) : RV := .sv (.dat (.int i))
abbrev RB (b : Bool) : RV := .sv (.dat (.bl b))
abbrev RT (ds : List D) : RV := .sv (.dat (.tup ds))
abbrev RS (x : Str) : RV := .sv (.dat (.str x))
abbrev RN : RV := .sv (.dat .non)

/-! ## data for == -/
mutual
def D.py : D → PyData
  | .non => .none
  | .bl b => .bool b
  | .int i => .int i
  | .str x => .str x
  | .tup ds => .tuple (D.pys ds)
  | .lst ds => .list (D.pys ds)
  | .obj _ _ => .dict []
  | .dct _ => .dict []
def D.pys : List D → List PyData
  | [] => []
  | d :: ds => D.py d :: D.pys ds
end
def okD (d : D) : Bool := SeqAt.shaped d.py
def eqD (d e : D) : Bool := PyData.eqv d.py e.py
theorem lim_ok {n : Nat} (h : n ≤ 100000) : n ≤ sizeLine := Nat.le_trans h (by decide)
section
variable {K : PySem.W.Frag} {ct : Nat → Addr} {W : WX} {γ γ1 : G} {s s1 : S} {H H0 H1 : Hp} {σ : L2.St}
mutual
theorem dp_of : ∀ (d : D) {v : V}, d.py.canLay0 = true → RepD K ct H v d → Dp K H v d.py
  | .non, _, _, .non => .non
  | .bl b, _, _, .bl _ => .bl b
  | .int i, _, _, .int _ => .int i
  | .str x, _, _, .str _ => .str x
  | .tup ds, _, h, .tup q r => by
    have h' : PyData.canLayAll0 (D.pys ds) = true := by simpa [D.py, PyData.canLay0] using h
    have := dps_of ds h' r
    exact .tup q this
  | .lst ds, _, h, .lst q r => by
    have h' : PyData.canLayAll0 (D.pys ds) = true := by simpa [D.py, PyData.canLay0] using h
    have := dps_of ds h' r
    exact .lst q.sq this
  | .obj _ _, _, h, _ => by simp [D.py, PyData.canLay0] at h
  | .dct _, _, h, _ => by simp [D.py, PyData.canLay0] at h
theorem dps_of : ∀ (ds : List D) {vs : List V}, PyData.canLayAll0 (D.pys ds) = true → RepDs K ct H vs ds → DpAll K H vs (D.pys ds)
  | [], _, _, .nil => .nil
  | d :: ds, _, h, .cons r t => by
    have h' : d.py.canLay0 = true ∧ PyData.canLayAll0 (D.pys ds) = true := by simpa [D.pys, PyData.canLayAll0] using h
    exact .cons (dp_of d h'.1 r) (dps_of ds h'.2 t)
end

/-! ## what a value is in a state -/
def deep (s : S) : RV → Option D
  | .sv (.dat d) => some d
  | .sv (.ref k) => match s.mem[k]? with
    | some (some xs) => match datL xs with
      | some ds => some (.lst ds)
      | none => none
    | _ => none
  | .sv .hand => none
  | .new xs => match datL xs with
    | some ds => some (.lst ds)
    | none => none
def seqL (s : S) : RV → Option (List SV)
  | .sv (.dat (.lst ds)) => some (ds.map SV.dat)
  | .sv (.ref k) => match s.mem[k]? with
    | some (some xs) => some xs
    | _ => none
  | .new xs => some xs
  | _ => none
theorem seqL_rd (R : Rep K ct γ H σ s) {r : RV} {v : V} {xs : List SV} (e : seqL s r = some xs) (q : RepR K ct γ s H0 H v r) : ∃ a vs, v = .ref a ∧ Rd H a (.lst vs) ∧ Paired (RepS K ct γ s.mem.length H) vs xs := by
  cases r with
  | new ys =>
    obtain ⟨a, vs, rfl, _, ea, _, p⟩ := q
    cases e
    exact ⟨a, vs, rfl, .inl ea, p⟩
  | sv x =>
    cases x with
    | hand => cases e
    | ref k =>
      have q' : k < s.mem.length ∧ v = .ref (γ.kp k) := q
      unfold seqL at e
      cases h : s.mem[k]? with
      | none => simp only [h] at e; cases e
      | some o =>
        cases o with
        | none => simp only [h] at e; cases e
        | some ys =>
          simp only [h] at e
          cases e
          obtain ⟨vs, ek, p⟩ := R.mem k _ h
          exact ⟨_, vs, q'.2, .inl ek, p⟩
    | dat d =>
      cases d with
      | lst ds =>
        cases e
        have q' : RepD K ct H v (.lst ds) := q
        cases q' with
        | lst hq r => exact ⟨_, _, rfl, hq.rd, rep_map r⟩
      | _ => cases e
theorem seqL_rep (R : Rep K ct γ H σ s) {r : RV} {v : V} {xs : List SV} (e : seqL s r = some xs) (q : RepR K ct γ s H0 H v r) : ∃ a vs, v = .ref a ∧ SqL K H a vs ∧ Paired (RepS K ct γ s.mem.length H) vs xs := by
  obtain ⟨a, vs, e1, h, p⟩ := seqL_rd R e q
  exact ⟨a, vs, e1, .inl h, p⟩
theorem tup_rep {v : V} {ds : List D} (q : RepR K ct γ s H0 H v (RT ds)) : ∃ a vs, v = .ref a ∧ SqT K H a vs ∧ RepDs K ct H vs ds := by
  have q' : RepD K ct H v (.tup ds) := q
  cases q' with
  | tup hq r => exact ⟨_, _, rfl, hq, r⟩
theorem deep_dp (R : Rep K ct γ H σ s) {r : RV} {v : V} {d : D} (e : deep s r = some d) (c : d.py.canLay0 = true) (q : RepR K ct γ s H0 H v r) : Dp K H v d.py := by
  have fin : ∀ {xs : List SV} {ds : List D}, seqL s r = some xs → datL xs = some ds → d = .lst ds → Dp K H v d.py := fun {xs ds} e1 e2 e3 => by
    obtain ⟨a, vs, rfl, hq, p⟩ := seqL_rep R e1 q
    subst e3
    have h' : PyData.canLayAll0 (D.pys ds) = true := by simpa [D.py, PyData.canLay0] using c
    exact .lst hq (dps_of ds h' (datL_rep e2 p))
  cases r with
  | new ys =>
    unfold deep at e
    cases h : datL ys with
    | none => simp only [h] at e; cases e
    | some ds => simp only [h] at e; cases e; exact fin rfl h rfl
  | sv x =>
    cases x with
    | hand => cases e
    | dat d' => cases e; exact dp_of _ c q
    | ref k =>
      unfold deep at e
      cases h : s.mem[k]? with
      | none => simp only [h] at e; cases e
      | some o =>
        cases o with
        | none => simp only [h] at e; cases e
        | some ys =>
          simp only [h] at e
          cases h2 : datL ys with
          | none => simp only [h2] at e; cases e
          | some ds => simp only [h2] at e; cases e; exact fin (by unfold seqL; simp only [h]) h2 rfl
theorem rep_int {v : V} {i : Int} (q : RepR K ct γ s H0 H v (RI i)) : v = .int i := by
  have q' : RepD K ct H v (.int i) := q
  cases q'; rfl
theorem rep_str {v : V} {x : Str} (q : RepR K ct γ s H0 H v (RS x)) : v = .str x := by
  have q' : RepD K ct H v (.str x) := q
  cases q'; rfl
theorem rep_bl {v : V} {b : Bool} (q : RepR K ct γ s H0 H v (RB b)) : v = .bl b := by
  have q' : RepD K ct H v (.bl b) := q
  cases q'; rfl
/-- a new list, a new tuple -/
theorem good_new {xs : List SV} {vs : List V} {Q : VK} (R : Rep K ct γ H σ s) (p : Paired (RepS K ct γ s.mem.length H) vs xs) (g : Good K ct W σ γ s H (.ok (.new xs) s) Q) : ∀ a, H a = none → Q (.ref a) (upd H a (.lst vs)) := fun a ha =>
  g _ γ _ (Step.laid ha) (R.laid ha) ⟨a, vs, rfl, ha, upd_same, R.notOwn_free ha, RepSs.mono (Step.laid ha) p⟩
theorem good_tup {ds : List D} {vs : List V} {Q : VK} (R : Rep K ct γ H σ s) (p : RepDs K ct H vs ds) (g : Good K ct W σ γ s H (.ok (RT ds) s) Q) : ∀ a, H a = none → Q (.ref a) (upd H a (.tup vs)) := fun a ha =>
  g _ γ _ (Step.laid ha) (R.laid ha) (.tup (SqT.of upd_same) (RepDs.mono (keepI_new ha) p))
theorem good_ok {r : RV} {v : V} {Q : VK} (R : Rep K ct γ H σ s) (q : RepR K ct γ s H H v r) (g : Good K ct W σ γ s H (.ok r s) Q) : Q v H := g v γ H Step.refl R q
theorem RepDs.appendS {vs us : List V} {xs ys : List SV} {n : Nat} (r : Paired (RepS K ct γ n H) vs xs) (q : Paired (RepS K ct γ n H) us ys) : Paired (RepS K ct γ n H) (vs ++ us) (xs ++ ys) := by
  induction r with
  | nil => exact q
  | cons h t ih => exact .cons h ih
theorem paired_get {n : Nat} : ∀ {xs : List SV} {vs : List V} {i : Nat} {x : SV}, Paired (RepS K ct γ n H) vs xs → xs[i]? = some x → ∃ v, vs[i]? = some v ∧ RepS K ct γ n H v x := by
  intro xs
  induction xs with
  | nil => intro vs i x _ e; simp at e
  | cons y ys ih =>
    intro vs i x h e
    cases h with
    | cons r t =>
      cases i with
      | zero => simp at e; subst e; exact ⟨_, rfl, r⟩
      | succ i => simp at e; obtain ⟨v, q, r'⟩ := ih t e; exact ⟨v, by simpa using q, r'⟩
theorem atI_rep {n : Nat} {xs : List SV} {vs : List V} {i : Int} {x : SV} (p : Paired (RepS K ct γ n H) vs xs) (e : atI xs i = some x) : ∃ v, atI vs i = some v ∧ RepS K ct γ n H v x := by
  unfold atI at e ⊢
  have hl : vs.length = xs.length := Paired.length p
  rw [hl]
  cases h : ixN xs.length i with
  | none => rw [h] at e; cases e
  | some j => rw [h] at e; exact paired_get p e
end

/-! ## names, constants -/
def getV (i : Nat) : M RV := fun s => match s.env[i]? with
  | some (some x) => .ok (.sv x) s
  | _ => .bad
section
variable {X : Cx} {ct : Nat → Addr} {W : WX} {pos : Pos}
theorem ed_name (i : Nat) {x : Str} (hp : PE X (.Name x pos) (tVar i)) : ED X ct W (.Name x pos) (getV i) := by
  refine ⟨_, hp, fun σ H γ s Q R h => ?_⟩
  unfold getV at h
  cases e : s.env[i]? with
  | none => simp only [e] at h; exact False.elim h
  | some o =>
    cases o with
    | none => simp only [e] at h; exact False.elim h
    | some y =>
      simp only [e] at h
      obtain ⟨v, q, r⟩ := R.env i y e
      exact ⟨v, q, good_ok (r := .sv y) R r h⟩
theorem ed_c {e : Expr} {v : V} {d : D} (hp : PE X e (tC v)) (hd : ∀ H, RepD X.K ct H v d) : ED X ct W e (pur (RD d)) :=
  ⟨_, hp, fun σ H γ s Q R h => good_ok (r := RD d) R (hd H) h⟩
theorem ed_int {i : Int} {j : Nat} : ED X ct W (.Constant (.int i) j pos) (pur (RI i)) := ed_c pe_int fun _ => .int i
theorem ed_bl {b : Bool} {j : Nat} : ED X ct W (.Constant (.bool b) j pos) (pur (RB b)) := ed_c pe_bl fun _ => .bl b
theorem ed_non {j : Nat} : ED X ct W (.Constant .none j pos) (pur RN) := ed_c pe_non fun _ => .non
theorem ed_str {x : Str} {j : Nat} : ED X ct W (.Constant (.str x) j pos) (pur (RS x)) := ed_c pe_str fun _ => .str x

/-! ## two operands -/
def BinOk (X : Cx) (ct : Nat → Addr) (r : R2) (f : RV → RV → M RV) : Prop := ∀ (W : WX) (σ : L2.St) (γ : G) (s : S) (H Ha Hb : Hp) (x y : V) (r1 r2 : RV) (Q : VK), Rep X.K ct γ H σ s → RepR X.K ct γ s Ha H x r1 → RepR X.K ct γ s Hb H y r2 → Good X.K ct W σ γ s H (f r1 r2 s) Q → r x y H Q
def UnOk (X : Cx) (ct : Nat → Addr) (r : V → Hp → VK → Prop) (f : RV → M RV) : Prop := ∀ (W : WX) (σ : L2.St) (γ : G) (s : S) (H Ha : Hp) (x : V) (r1 : RV) (Q : VK), Rep X.K ct γ H σ s → RepR X.K ct γ s Ha H x r1 → Good X.K ct W σ γ s H (f r1 s) Q → r x H Q
def m2 (ma mb : M RV) (f : RV → RV → M RV) : M RV := bnd ma fun x => bnd mb fun y => f x y
theorem sem2 {r : R2} {f : RV → RV → M RV} (hf : BinOk X ct r f) {ta tb : TE} {ma mb : M RV} (ra : ∀ σ H γ s Q, Rep X.K ct γ H σ s → Good X.K ct W σ γ s H (ma s) Q → ta σ H Q) (rb : ∀ σ H γ s Q, Rep X.K ct γ H σ s → Good X.K ct W σ γ s H (mb s) Q → tb σ H Q)
    {σ : L2.St} {H : Hp} {γ : G} {s : S} {Q : VK} (R : Rep X.K ct γ H σ s) (h : Good X.K ct W σ γ s H (m2 ma mb f s) Q) : tOp r ta tb σ H Q := by
  refine ra σ H γ s _ R (use_e h (fun _ _ z => z) fun r1 s1 v γ1 H1 t1 R1 q1 g1 => ?_)
  have g1' : Good X.K ct W σ γ1 s1 H1 (bnd mb (fun y => f r1 y) s1) Q := Good.step t1 g1
  refine rb σ H1 γ1 s1 _ R1 (use_e g1' (fun _ _ z => z) fun r2 s2 u γ2 H2 t2 R2 q2 g2 => ?_)
  exact hf W σ γ2 s2 H2 _ _ v u r1 r2 Q R2 (q1.mono t2) q2 (Good.step t2 g2)
variable {a b : Expr} {ma mb : M RV}
theorem ed_bin {op : Operator} {r : R2} {f : RV → RV → M RV} (ho : OpR X (binaryOp op) r) (hf : BinOk X ct r f) (ha : ED X ct W a ma) (hb : ED X ct W b mb) : ED X ct W (.BinOp a op b pos) (m2 ma mb f) := by
  obtain ⟨ta, pa, ra⟩ := ha.ex
  obtain ⟨tb, pb, rb⟩ := hb.ex
  exact ⟨_, pe_op ho pa pb, fun σ H γ s Q R h => sem2 hf ra rb R h⟩
theorem ed_cmp {op : CmpOp} {r : R2} {f : RV → RV → M RV} (ho : OpR X (compareOp op) r) (hf : BinOk X ct r f) (ha : ED X ct W a ma) (hb : ED X ct W b mb) (hm : behindInMarks op b = false) : ED X ct W (.Compare a [op] [b] pos) (m2 ma mb f) := by
  obtain ⟨ta, pa, ra⟩ := ha.ex
  obtain ⟨tb, pb, rb⟩ := hb.ex
  exact ⟨_, pe_cmpR ho pa pb hm, fun σ H γ s Q R h => sem2 hf ra rb R h⟩
theorem ed_ix {r : R2} {f : RV → RV → M RV} (ho : IxR X r) (hf : BinOk X ct r f) (ha : ED X ct W a ma) (hb : ED X ct W b mb) (hs : PlainIx b) : ED X ct W (.Subscript a b pos) (m2 ma mb f) := by
  obtain ⟨ta, pa, ra⟩ := ha.ex
  obtain ⟨tb, pb, rb⟩ := hb.ex
  exact ⟨_, pe_ix ho pa pb hs, fun σ H γ s Q R h => sem2 hf ra rb R h⟩
theorem ed_un {op : UnaryOp} {r : V → Hp → VK → Prop} {f : RV → M RV} (ho : UnR X (unaryOp op) r) (hf : UnOk X ct r f) (ha : ED X ct W a ma) : ED X ct W (.UnaryOp op a pos) (bnd ma f) := by
  obtain ⟨ta, pa, ra⟩ := ha.ex
  refine ⟨_, pe_un ho pa, fun σ H γ s Q R h => ?_⟩
  refine ra σ H γ s _ R (use_e h (fun _ _ z => z) fun r1 s1 v γ1 H1 t1 R1 q1 g1 => ?_)
  exact hf W σ γ1 s1 H1 _ v r1 Q R1 q1 (Good.step t1 g1)

/-! ## ints -/
def int2 (g : Int → Int → RV) : RV → RV → M RV
  | .sv (.dat (.int i)), .sv (.dat (.int j)) => pur (g i j)
  | _, _ => stuck
def int2g (C : Int → Int → Bool) (g : Int → Int → RV) : RV → RV → M RV
  | .sv (.dat (.int i)), .sv (.dat (.int j)) => fun s => if C i j = true then .ok (g i j) s else .bad
  | _, _ => stuck
theorem int2_ok {g : Int → Int → V} {g' : Int → Int → RV} (hg : ∀ i j K ct γ s H, RepR K ct γ s H H (g i j) (g' i j)) : BinOk X ct (rI0 g) (int2 g') := by
  intro W σ γ s H Ha Hb x y r1 r2 Q R q1 q2 h
  unfold int2 at h
  split at h
  · rename_i i j
    exact ⟨i, j, rep_int q1, rep_int q2, good_ok R (hg ..) h⟩
  · exact False.elim h
theorem int2g_ok {C : Int → Int → Prop} {Cb : Int → Int → Bool} {g : Int → Int → V} {g' : Int → Int → RV} (hC : ∀ i j, Cb i j = true → C i j) (hg : ∀ i j K ct γ s H, RepR K ct γ s H H (g i j) (g' i j)) : BinOk X ct (rI C g) (int2g Cb g') := by
  intro W σ γ s H Ha Hb x y r1 r2 Q R q1 q2 h
  unfold int2g at h
  split at h
  · rename_i i j
    by_cases c : Cb i j = true
    · rw [if_pos c] at h
      exact ⟨i, j, rep_int q1, rep_int q2, hC i j c, good_ok R (hg ..) h⟩
    · rw [if_neg c] at h
      exact False.elim h
  · exact False.elim h
theorem repI {K : PySem.W.Frag} {ct : Nat → Addr} {γ : G} {s : S} {H : Hp} (i : Int) : RepR K ct γ s H H (.int i) (RI i) := RepD.int i
theorem repB {K : PySem.W.Frag} {ct : Nat → Addr} {γ : G} {s : S} {H : Hp} (i : Bool) : RepR K ct γ s H H (.bl i) (RB i) := RepD.bl i
def subM : RV → RV → M RV := int2 fun i j => RI (i - j)
def ltM : RV → RV → M RV := int2 fun i j => RB (decide (i < j))
def leM : RV → RV → M RV := int2 fun i j => RB (decide (i ≤ j))
def gtM : RV → RV → M RV := int2 fun i j => RB (decide (j < i))
def geM : RV → RV → M RV := int2 fun i j => RB (decide (j ≤ i))
theorem ed_sub (ha : ED X ct W a ma) (hb : ED X ct W b mb) : ED X ct W (.BinOp a .Sub b pos) (m2 ma mb subM) := ed_bin op_sub (int2_ok fun i j _ _ _ _ _ => repI _) ha hb
theorem ed_lt (ha : ED X ct W a ma) (hb : ED X ct W b mb) : ED X ct W (.Compare a [.Lt] [b] pos) (m2 ma mb ltM) := ed_cmp op_lt (int2_ok fun i j _ _ _ _ _ => repB _) ha hb (nomark _)
theorem ed_le (ha : ED X ct W a ma) (hb : ED X ct W b mb) : ED X ct W (.Compare a [.LtE] [b] pos) (m2 ma mb leM) := ed_cmp op_le (int2_ok fun i j _ _ _ _ _ => repB _) ha hb (nomark _)
theorem ed_gt (ha : ED X ct W a ma) (hb : ED X ct W b mb) : ED X ct W (.Compare a [.Gt] [b] pos) (m2 ma mb gtM) := ed_cmp op_gt (int2_ok fun i j _ _ _ _ _ => repB _) ha hb (nomark _)
theorem ed_ge (ha : ED X ct W a ma) (hb : ED X ct W b mb) : ED X ct W (.Compare a [.GtE] [b] pos) (m2 ma mb geM) := ed_cmp op_ge (int2_ok fun i j _ _ _ _ _ => repB _) ha hb (nomark _)
def negM : RV → M RV
  | .sv (.dat (.int i)) => pur (RI (-i))
  | _ => stuck
theorem ed_neg (ha : ED X ct W a ma) : ED X ct W (.UnaryOp .USub a pos) (bnd ma negM) := by
  refine ed_un un_neg (fun W σ γ s H Ha x r1 Q R q1 h => ?_) ha
  unfold negM at h
  split at h
  · rename_i i
    exact ⟨i, rep_int q1, good_ok R (repI _) h⟩
  · exact False.elim h
/-! * // % ** -/
def mulC (i j : Int) : Bool := decide (i.natAbs.log2 + j.natAbs.log2 < 100000000)
def divC (i j : Int) : Bool := decide (j ≠ 0 ∧ j.natAbs.log2 < 9000)
def modC (_ j : Int) : Bool := decide (j ≠ 0)
def powC (i j : Int) : Bool := decide (0 ≤ j ∧ j ≤ 1000 ∧ i.natAbs < 2 ^ 64)
theorem mulC_ok {i j : Int} (h : mulC i j = true) : IntMulOk i j := by
  have b : ∀ x : Int, Builtin.Int.intBits x ≤ x.natAbs.log2 + 1 := fun x => by
    unfold Builtin.Int.intBits
    split <;> omega
  have h1 := b i
  have h2 := b j
  have h3 : i.natAbs.log2 + j.natAbs.log2 < 100000000 := of_decide_eq_true h
  have e : bitsLine = 134217728 := by decide
  unfold IntMulOk
  intro z
  rw [Bool.and_eq_true] at z
  have z2 := z.2
  unfold Builtin.Int.intTooBig at z2
  have z3 := of_decide_eq_true z2
  rw [e] at z3
  omega
theorem op_mulF : OpR X (binaryOp .Mult) (rI IntMulOk fun i j => .int (i * j)) := opI fun _ _ _ _ _ _ _ hc q => mul_int q hc
theorem op_divF : OpR X (binaryOp .FloorDiv) (rI (fun _ j => j ≠ 0 ∧ j.natAbs.log2 < 9000) fun i j => .int (i.fdiv j)) := opI fun i j _ _ _ _ _ hc q => floordiv_int hc.1 q (.inl (PyProof.noPylong_of_log2 hc.2))
def mulI : RV → RV → M RV := int2g mulC fun i j => RI (i * j)
def divM : RV → RV → M RV := int2g divC fun i j => RI (i.fdiv j)
def modM : RV → RV → M RV := int2g modC fun i j => RI (i.fmod j)
def powM : RV → RV → M RV := int2g powC fun i j => RI (i ^ j.toNat)
theorem ed_mulI (ha : ED X ct W a ma) (hb : ED X ct W b mb) : ED X ct W (.BinOp a .Mult b pos) (m2 ma mb mulI) := ed_bin op_mulF (int2g_ok (fun i j h => mulC_ok h) fun i j _ _ _ _ _ => repI _) ha hb
theorem ed_div (ha : ED X ct W a ma) (hb : ED X ct W b mb) : ED X ct W (.BinOp a .FloorDiv b pos) (m2 ma mb divM) := ed_bin op_divF (int2g_ok (fun i j h => of_decide_eq_true h) fun i j _ _ _ _ _ => repI _) ha hb
theorem ed_mod (ha : ED X ct W a ma) (hb : ED X ct W b mb) : ED X ct W (.BinOp a .Mod b pos) (m2 ma mb modM) := ed_bin op_modN (int2g_ok (fun i j h => of_decide_eq_true h) fun i j _ _ _ _ _ => repI _) ha hb
theorem ed_pow (ha : ED X ct W a ma) (hb : ED X ct W b mb) : ED X ct W (.BinOp a .Pow b pos) (m2 ma mb powM) := ed_bin op_pow (int2g_ok (fun i j h => by
  have := of_decide_eq_true h
  exact ⟨this.1, by omega, this.2.2⟩) fun i j _ _ _ _ _ => repI _) ha hb
end
end Fd
set_option Elab.async false
set_option linter.all false
set_option maxRecDepth 100000
set_option maxHeartbeats 4000000
namespace Fd
open PySem PySem.Spec PyProof.Rows L2
/-! ## truth -/
def trB (s : S) : RV → Option Bool
  | .sv (.dat .non) => some false
  | .sv (.dat (.bl b)) => some b
  | .sv (.dat (.int i)) => some (i != 0)
  | .sv (.dat (.str x)) => if x.length ≤ 100000 then some ((x.length : Int) != 0) else none
  | .sv (.dat (.tup ds)) => some (!ds.isEmpty)
  | r => match seqL s r with
    | some xs => some (!xs.isEmpty)
    | none => none
def truthM (r : RV) : M Bool := fun s => match trB s r with
  | some b => .ok b s
  | none => .bad
section
variable {K : PySem.W.Frag} {ct : Nat → Addr} {W : WX} {γ γ1 : G} {s s1 : S} {H H0 H1 : Hp} {σ : L2.St}
theorem isEmpty_rep {n : Nat} {vs : List V} {xs : List SV} (p : Paired (RepS K ct γ n H) vs xs) : (!xs.isEmpty) = !vs.isEmpty := by cases p <;> rfl
theorem isEmpty_reps {vs : List V} {ds : List D} (p : RepDs K ct H vs ds) : (!ds.isEmpty) = !vs.isEmpty := by cases p <;> rfl
theorem trB_rep (R : Rep K ct γ H σ s) {r : RV} {v : V} {b : Bool} (e : trB s r = some b) (q : RepR K ct γ s H0 H v r) : TruV K v H b := by
  have fin : ∀ {xs : List SV}, seqL s r = some xs → b = !xs.isEmpty → TruV K v H b := fun {xs} e1 e2 => by
    obtain ⟨a, vs, rfl, hq, p⟩ := seqL_rep R e1 q
    exact .inl ⟨vs, hq, by rw [e2]; exact isEmpty_rep p⟩
  have fin2 : (match seqL s r with | some xs => some (!xs.isEmpty) | none => none) = some b → TruV K v H b := fun e2 => by
    cases h : seqL s r with
    | none => rw [h] at e2; cases e2
    | some xs => rw [h] at e2; cases e2; exact fin h rfl
  cases r with
  | new xs => exact fin2 e
  | sv x =>
    cases x with
    | hand => exact fin2 e
    | ref k => exact fin2 e
    | dat d =>
      cases d with
      | non => cases e; have q' : RepD K ct H v .non := q; cases q'; rfl
      | bl c => cases e; rw [rep_bl q]; rfl
      | int i => cases e; rw [rep_int q]; rfl
      | str y =>
        rw [rep_str q]
        unfold trB at e
        by_cases h : y.length ≤ 100000
        · simp only [h, if_true] at e
          cases e
          exact ⟨lim_ok h, rfl⟩
        · simp only [h, if_false] at e
          cases e
      | tup ds =>
        cases e
        obtain ⟨a, vs, rfl, hq, p⟩ := tup_rep q
        exact .inr (.inl ⟨vs, hq, isEmpty_reps p⟩)
      | lst ds => exact fin2 e
      | obj c ds => exact fin2 e
      | dct kds => exact fin2 e
end
section
variable {X : Cx} {ct : Nat → Addr} {W : WX} {pos : Pos} {a b e : Expr} {ma mb m : M RV} {rest : List Expr}
theorem td_truth (h : ED X ct W e m) (he : ∀ whole, isTrue e X.env whole = (do let v ← whole; standAt e.pos; holding [v] (truthy v)) := by intro _; rfl) : TD X ct W e (bnd m truthM) := by
  obtain ⟨t, pt, rt⟩ := h.ex
  refine ⟨_, pt_truth pt he, fun σ H γ s Q R h => ?_⟩
  refine rt σ H γ s _ R (use_e h (fun _ _ z => z) fun r s1 v γ1 H1 t1 R1 r1 g => ?_)
  unfold truthM at g
  cases h1 : trB s1 r with
  | none => simp only [h1] at g; exact False.elim g
  | some c => simp only [h1] at g; exact ⟨c, trB_rep R1 h1 r1, g γ1 H1 t1 R1⟩
def asB : RV → M Bool
  | .sv (.dat (.bl b)) => pur b
  | _ => stuck
theorem td_cmp {op : CmpOp} {r : R2} {f : RV → RV → M RV} (ho : OpR X (compareOp op) r) (hf : BinOk X ct r f) (ha : ED X ct W a ma) (hb : ED X ct W b mb) (hm : behindInMarks op b = false) : TD X ct W (.Compare a [op] [b] pos) (bnd (m2 ma mb f) asB) := by
  obtain ⟨ta, pa, ra⟩ := ha.ex
  obtain ⟨tb, pb, rb⟩ := hb.ex
  refine ⟨_, pt_cmpR ho pa pb hm, fun σ H γ s Q R h => ?_⟩
  have h' : Good X.K ct W σ γ s H (m2 ma mb f s) (fun x H' => ∃ k, x = .bl k ∧ Q k H') := use_e h (fun _ _ z => z) fun r s1 v γ1 H1 t1 R1 r1 g => by
    unfold asB at g
    split at g
    · exact ⟨_, rep_bl r1, g γ1 H1 t1 R1⟩
    · exact False.elim g
  exact sem2 hf ra rb R h'
/-! ## and, or, not as tests -/
structure WD (X : Cx) (ct : Nat → Addr) (W : WX) (e : Expr) (m : M Bool) : Prop where
  ex : ∃ t, PW X e t ∧ ∀ σ H γ s Q, Rep X.K ct γ H σ s → GoodT X.K ct W σ γ s H (m s) Q → t σ H Q
variable {ta tb : M Bool}
theorem WD.td (h : WD X ct W e ta) : TD X ct W e ta := by
  obtain ⟨t, p, r⟩ := h.ex
  exact ⟨t, p.pt, r⟩
theorem wd_and1 (h : TD X ct W a ta) : WD X ct W (.BoolOp .And [a] pos) ta := by
  obtain ⟨t, p, r⟩ := h.ex
  exact ⟨t, pw_and1 p, r⟩
theorem wd_or1 (h : TD X ct W a ta) : WD X ct W (.BoolOp .Or [a] pos) ta := by
  obtain ⟨t, p, r⟩ := h.ex
  exact ⟨t, pw_or1 p, r⟩
def andT (ta tb : M Bool) : M Bool := bnd ta fun b => if b = true then tb else pur false
def orT (ta tb : M Bool) : M Bool := bnd ta fun b => if b = true then pur true else tb
theorem wd_and (ha : TD X ct W a ta) (hb : WD X ct W (.BoolOp .And (b :: rest) pos) tb) : WD X ct W (.BoolOp .And (a :: b :: rest) pos) (andT ta tb) := by
  obtain ⟨t, p, r⟩ := ha.ex
  obtain ⟨t2, p2, r2⟩ := hb.ex
  refine ⟨_, pw_and p p2, fun σ H γ s Q R h => ?_⟩
  refine r σ H γ s _ R (use_t h (fun _ _ z => z) fun b s1 γ1 H1 t1 R1 g => ?_)
  cases b with
  | true => exact r2 σ H1 γ1 s1 Q R1 (GoodT.step t1 g)
  | false => exact g γ1 H1 t1 R1
theorem wd_or (ha : TD X ct W a ta) (hb : WD X ct W (.BoolOp .Or (b :: rest) pos) tb) : WD X ct W (.BoolOp .Or (a :: b :: rest) pos) (orT ta tb) := by
  obtain ⟨t, p, r⟩ := ha.ex
  obtain ⟨t2, p2, r2⟩ := hb.ex
  refine ⟨_, pw_or p p2, fun σ H γ s Q R h => ?_⟩
  refine r σ H γ s _ R (use_t h (fun _ _ z => z) fun b s1 γ1 H1 t1 R1 g => ?_)
  cases b with
  | true => exact g γ1 H1 t1 R1
  | false => exact r2 σ H1 γ1 s1 Q R1 (GoodT.step t1 g)
def notT (ta : M Bool) : M Bool := bnd ta fun b => pur (!b)
theorem td_not (h : TD X ct W a ta) : TD X ct W (.UnaryOp .Not a pos) (notT ta) := by
  obtain ⟨t, p, r⟩ := h.ex
  refine ⟨_, pt_not p, fun σ H γ s Q R h => ?_⟩
  exact r σ H γ s _ R (use_t h (fun _ _ z => z) fun b s1 γ1 H1 t1 R1 g => g γ1 H1 t1 R1)
/-! ## .. as values -/
def orV (ma mb : M RV) : M RV := bnd ma fun x s => match trB s x with
  | some true => .ok x s
  | some false => mb s
  | none => .bad
def andV (ma mb : M RV) : M RV := bnd ma fun x s => match trB s x with
  | some true => mb s
  | some false => .ok x s
  | none => .bad
def notM (r : RV) : M RV := fun s => match trB s r with
  | some b => .ok (RB (!b)) s
  | none => .bad
theorem ed_one {op : BoolOp} (h : ED X ct W a ma) : ED X ct W (.BoolOp op [a] pos) ma := by
  obtain ⟨t, p, r⟩ := h.ex
  exact ⟨t, pe_one p, r⟩
theorem ed_or (ha : ED X ct W a ma) (hb : ED X ct W (.BoolOp .Or (b :: rest) pos) mb) : ED X ct W (.BoolOp .Or (a :: b :: rest) pos) (orV ma mb) := by
  obtain ⟨t, p, r⟩ := ha.ex
  obtain ⟨t2, p2, r2⟩ := hb.ex
  refine ⟨_, pe_orT p p2, fun σ H γ s Q R h => ?_⟩
  refine r σ H γ s _ R (use_e h (fun _ _ z => z) fun x s1 v γ1 H1 t1 R1 q1 g => ?_)
  cases h1 : trB s1 x with
  | none => simp only [h1] at g; exact False.elim g
  | some c =>
    simp only [h1] at g
    refine ⟨c, trB_rep R1 h1 q1, ?_⟩
    cases c with
    | true => exact g v γ1 H1 t1 R1 q1
    | false => exact r2 σ H1 γ1 s1 Q R1 (Good.step t1 g)
theorem ed_and (ha : ED X ct W a ma) (hb : ED X ct W (.BoolOp .And (b :: rest) pos) mb) : ED X ct W (.BoolOp .And (a :: b :: rest) pos) (andV ma mb) := by
  obtain ⟨t, p, r⟩ := ha.ex
  obtain ⟨t2, p2, r2⟩ := hb.ex
  refine ⟨_, pe_andT p p2, fun σ H γ s Q R h => ?_⟩
  refine r σ H γ s _ R (use_e h (fun _ _ z => z) fun x s1 v γ1 H1 t1 R1 q1 g => ?_)
  cases h1 : trB s1 x with
  | none => simp only [h1] at g; exact False.elim g
  | some c =>
    simp only [h1] at g
    refine ⟨c, trB_rep R1 h1 q1, ?_⟩
    cases c with
    | true => exact r2 σ H1 γ1 s1 Q R1 (Good.step t1 g)
    | false => exact g v γ1 H1 t1 R1 q1
theorem ed_not (ha : ED X ct W a ma) : ED X ct W (.UnaryOp .Not a pos) (bnd ma notM) := by
  obtain ⟨t, p, r⟩ := ha.ex
  refine ⟨_, pe_notT p, fun σ H γ s Q R h => ?_⟩
  refine r σ H γ s _ R (use_e h (fun _ _ z => z) fun x s1 v γ1 H1 t1 R1 q1 g => ?_)
  unfold notM at g
  cases h1 : trB s1 x with
  | none => simp only [h1] at g; exact False.elim g
  | some c =>
    simp only [h1] at g
    exact ⟨c, trB_rep R1 h1 q1, g _ γ1 H1 t1 R1 (repB _)⟩
def ifE (tc : M Bool) (ma mb : M RV) : M RV := bnd tc fun b => if b = true then ma else mb
theorem ed_if {c : Expr} (hc : TD X ct W c ta) (ha : ED X ct W a ma) (hb : ED X ct W b mb) : ED X ct W (.IfExp c a b pos) (ifE ta ma mb) := by
  obtain ⟨t, p, r⟩ := hc.ex
  obtain ⟨t1, p1, r1⟩ := ha.ex
  obtain ⟨t2, p2, r2⟩ := hb.ex
  refine ⟨_, pe_ifExp p p1 p2, fun σ H γ s Q R h => ?_⟩
  refine r σ H γ s _ R (use_t h (fun _ _ z => z) fun b s1 γ1 H1 t1 R1 g => ?_)
  cases b with
  | true => exact r1 σ H1 γ1 s1 Q R1 (Good.step t1 g)
  | false => exact r2 σ H1 γ1 s1 Q R1 (Good.step t1 g)
/-! ## comparisons of data -/
def cmpC (i j : Int) : Bool := true
def eqM (x y : RV) : M RV := fun s => match deep s x, deep s y with
  | some d, some e => if okD d = true then if okD e = true then .ok (RB (eqD d e)) s else .bad else .bad
  | _, _ => .bad
def neM (x y : RV) : M RV := fun s => match deep s x, deep s y with
  | some d, some e => if okD d = true then if okD e = true then .ok (RB (!eqD d e)) s else .bad else .bad
  | _, _ => .bad
theorem eqM_ok : BinOk X ct (rEqD X.K) eqM := by
  intro W σ γ s H Ha Hb x y r1 r2 Q R q1 q2 h
  unfold eqM at h
  cases e1 : deep s r1 with
  | none => simp only [e1] at h; exact False.elim h
  | some d =>
    cases e2 : deep s r2 with
    | none => simp only [e1, e2] at h; exact False.elim h
    | some e =>
      simp only [e1, e2] at h
      by_cases o1 : okD d = true
      · by_cases o2 : okD e = true
        · rw [if_pos o1, if_pos o2] at h
          exact ⟨_, _, deep_dp R e1 (SeqAt.canLay_of_shaped o1) q1, deep_dp R e2 (SeqAt.canLay_of_shaped o2) q2, o1, o2, good_ok R (repB _) h⟩
        · rw [if_pos o1, if_neg o2] at h; exact False.elim h
      · rw [if_neg o1] at h; exact False.elim h
theorem neM_ok : BinOk X ct (rNeD X.K) neM := by
  intro W σ γ s H Ha Hb x y r1 r2 Q R q1 q2 h
  unfold neM at h
  cases e1 : deep s r1 with
  | none => simp only [e1] at h; exact False.elim h
  | some d =>
    cases e2 : deep s r2 with
    | none => simp only [e1, e2] at h; exact False.elim h
    | some e =>
      simp only [e1, e2] at h
      by_cases o1 : okD d = true
      · by_cases o2 : okD e = true
        · rw [if_pos o1, if_pos o2] at h
          exact ⟨_, _, deep_dp R e1 (SeqAt.canLay_of_shaped o1) q1, deep_dp R e2 (SeqAt.canLay_of_shaped o2) q2, o1, o2, good_ok R (repB _) h⟩
        · rw [if_pos o1, if_neg o2] at h; exact False.elim h
      · rw [if_neg o1] at h; exact False.elim h
/-- x in list -/
def inC (neg : Bool) (x y : RV) : M RV := fun s => match deep s x, deep s y with
  | some d, some (.lst es) => if okD d = true then if okD (.lst es) = true then .ok (RB (if neg then !(es.any fun z => eqD z d) else es.any fun z => eqD z d)) s else .bad else .bad
  | _, _ => .bad
theorem pys_any (es : List D) (d : D) : (D.pys es).any (fun z => PyData.eqv z d.py) = es.any fun z => eqD z d := by
  induction es with
  | nil => rfl
  | cons e es ih => simp only [D.pys, List.any_cons, ih]; rfl
theorem inC_ok : BinOk X ct (rInD X.K) (inC false) := by
  intro W σ γ s H Ha Hb x y r1 r2 Q R q1 q2 h
  unfold inC at h
  split at h
  · rename_i d es e1 e2
    by_cases o1 : okD d = true
    · by_cases o2 : okD (.lst es) = true
      · rw [if_pos o1, if_pos o2] at h
        have o2' : SeqAt.shaped (.list (D.pys es)) = true := by simpa [okD, D.py] using o2
        have k := deep_dp R e2 (SeqAt.canLay_of_shaped o2) q2
        have k' : Dp X.K H y (.list (D.pys es)) := by simpa [D.py] using k
        refine ⟨d.py, D.pys es, deep_dp R e1 (SeqAt.canLay_of_shaped o1) q1, k', o1, o2', ?_⟩
        rw [pys_any]
        exact good_ok R (repB _) h
      · rw [if_pos o1, if_neg o2] at h; exact False.elim h
    · rw [if_neg o1] at h; exact False.elim h
  · exact False.elim h
theorem notInC_ok : BinOk X ct (rNotInD X.K) (inC true) := by
  intro W σ γ s H Ha Hb x y r1 r2 Q R q1 q2 h
  unfold inC at h
  split at h
  · rename_i d es e1 e2
    by_cases o1 : okD d = true
    · by_cases o2 : okD (.lst es) = true
      · rw [if_pos o1, if_pos o2] at h
        have o2' : SeqAt.shaped (.list (D.pys es)) = true := by simpa [okD, D.py] using o2
        have k := deep_dp R e2 (SeqAt.canLay_of_shaped o2) q2
        have k' : Dp X.K H y (.list (D.pys es)) := by simpa [D.py] using k
        refine ⟨d.py, D.pys es, deep_dp R e1 (SeqAt.canLay_of_shaped o1) q1, k', o1, o2', ?_⟩
        rw [pys_any]
        exact good_ok R (repB _) h
      · rw [if_pos o1, if_neg o2] at h; exact False.elim h
    · rw [if_neg o1] at h; exact False.elim h
  · exact False.elim h
/-- is None, is not None; is True .. of bools alone -/
def isN : RV → M RV
  | .sv (.dat .non) => pur (RB true)
  | .sv (.dat _) => pur (RB false)
  | .new _ => pur (RB false)
  | .sv (.ref _) => pur (RB false)
  | .sv .hand => pur (RB false)
def isNM (x y : RV) : M RV := match y with
  | .sv (.dat .non) => isN x
  | _ => stuck
def notNM (x y : RV) : M RV := match y with
  | .sv (.dat .non) => bnd (isN x) fun r => match r with
    | .sv (.dat (.bl b)) => pur (RB (!b))
    | _ => stuck
  | _ => stuck
theorem isN_rep {K : PySem.W.Frag} {ct : Nat → Addr} {γ : G} {s : S} {H0 H : Hp} {v : V} {r : RV} (q : RepR K ct γ s H0 H v r) : isN r s = .ok (RB (decide (v = .non))) s := by
  cases r with
  | new xs => obtain ⟨a, vs, rfl, _⟩ := q; rfl
  | sv x =>
    cases x with
    | hand => have q' : v = .ref γ.ah := q; subst q'; rfl
    | ref k => have q' : k < s.mem.length ∧ v = .ref (γ.kp k) := q; rw [q'.2]; rfl
    | dat d =>
      have q' : RepD K ct H v d := q
      cases q' <;> rfl
theorem rep_non {K : PySem.W.Frag} {ct : Nat → Addr} {γ : G} {s : S} {H0 H : Hp} {v : V} (q : RepR K ct γ s H0 H v RN) : v = .non := by
  have q' : RepD K ct H v .non := q
  cases q'; rfl
theorem isNM_ok : BinOk X ct (fun x y H Q => y = .non ∧ Q (.bl (decide (x = .non))) H) isNM := by
  intro W σ γ s H Ha Hb x y r1 r2 Q R q1 q2 h
  unfold isNM at h
  split at h
  · rw [isN_rep q1] at h
    exact ⟨rep_non q2, good_ok R (repB _) h⟩
  · exact False.elim h
theorem notNM_ok : BinOk X ct (fun x y H Q => y = .non ∧ Q (.bl (!decide (x = .non))) H) notNM := by
  intro W σ γ s H Ha Hb x y r1 r2 Q R q1 q2 h
  unfold notNM at h
  split at h
  · unfold bnd at h
    rw [isN_rep q1] at h
    exact ⟨rep_non q2, good_ok R (repB _) h⟩
  · exact False.elim h
end
end Fd
set_option Elab.async false
set_option linter.all false
set_option maxRecDepth 100000
set_option maxHeartbeats 4000000
namespace Fd
open PySem PySem.Spec PyProof.Rows L2
section
variable {X : Cx} {ct : Nat → Addr} {W : WX} {pos : Pos} {a b e : Expr} {ma mb m : M RV} {rest es : List Expr}
theorem ed_eq (hu : X.A.units + 64 < cLine) (ha : ED X ct W a ma) (hb : ED X ct W b mb) : ED X ct W (.Compare a [.Eq] [b] pos) (m2 ma mb eqM) := ed_cmp (op_eqD hu) eqM_ok ha hb (nomark _)
theorem ed_ne (hu : X.A.units + 64 < cLine) (ha : ED X ct W a ma) (hb : ED X ct W b mb) : ED X ct W (.Compare a [.NotEq] [b] pos) (m2 ma mb neM) := ed_cmp (op_neD hu) neM_ok ha hb (nomark _)
theorem ed_in (hu : X.A.units + 65 < cLine) (ha : ED X ct W a ma) (hb : ED X ct W b mb) (hm : behindInMarks .In b = false) : ED X ct W (.Compare a [.In] [b] pos) (m2 ma mb (inC false)) := ed_cmp (op_inD hu) inC_ok ha hb hm
theorem ed_notin (hu : X.A.units + 65 < cLine) (ha : ED X ct W a ma) (hb : ED X ct W b mb) (hm : behindInMarks .NotIn b = false) : ED X ct W (.Compare a [.NotIn] [b] pos) (m2 ma mb (inC true)) := ed_cmp (op_notInD hu) notInC_ok ha hb hm
theorem ed_isN (ha : ED X ct W a ma) (hb : ED X ct W b mb) : ED X ct W (.Compare a [.Is] [b] pos) (m2 ma mb isNM) := ed_cmp op_isN isNM_ok ha hb (nomark _)
theorem ed_notN (ha : ED X ct W a ma) (hb : ED X ct W b mb) : ED X ct W (.Compare a [.IsNot] [b] pos) (m2 ma mb notNM) := ed_cmp op_notN notNM_ok ha hb (nomark _)
/-- is not of bools -/
def notBM : RV → RV → M RV
  | .sv (.dat (.bl x)), .sv (.dat (.bl y)) => pur (RB (!decide (x = y)))
  | _, _ => stuck
theorem ed_notB (ha : ED X ct W a ma) (hb : ED X ct W b mb) : ED X ct W (.Compare a [.IsNot] [b] pos) (m2 ma mb notBM) := by
  refine ed_cmp op_notBl (fun W σ γ s H Ha Hb x y r1 r2 Q R q1 q2 h => ?_) ha hb (nomark _)
  unfold notBM at h
  split at h
  · exact ⟨_, _, rep_bl q1, rep_bl q2, good_ok R (repB _) h⟩
  · exact False.elim h
theorem td_eq (hu : X.A.units + 64 < cLine) (ha : ED X ct W a ma) (hb : ED X ct W b mb) : TD X ct W (.Compare a [.Eq] [b] pos) (bnd (m2 ma mb eqM) asB) := td_cmp (op_eqD hu) eqM_ok ha hb (nomark _)
theorem td_ne (hu : X.A.units + 64 < cLine) (ha : ED X ct W a ma) (hb : ED X ct W b mb) : TD X ct W (.Compare a [.NotEq] [b] pos) (bnd (m2 ma mb neM) asB) := td_cmp (op_neD hu) neM_ok ha hb (nomark _)
theorem td_in (hu : X.A.units + 65 < cLine) (ha : ED X ct W a ma) (hb : ED X ct W b mb) (hm : behindInMarks .In b = false) : TD X ct W (.Compare a [.In] [b] pos) (bnd (m2 ma mb (inC false)) asB) := td_cmp (op_inD hu) inC_ok ha hb hm
theorem td_notin (hu : X.A.units + 65 < cLine) (ha : ED X ct W a ma) (hb : ED X ct W b mb) (hm : behindInMarks .NotIn b = false) : TD X ct W (.Compare a [.NotIn] [b] pos) (bnd (m2 ma mb (inC true)) asB) := td_cmp (op_notInD hu) notInC_ok ha hb hm
theorem td_lt (ha : ED X ct W a ma) (hb : ED X ct W b mb) : TD X ct W (.Compare a [.Lt] [b] pos) (bnd (m2 ma mb ltM) asB) := td_cmp op_lt (int2_ok fun i j _ _ _ _ _ => repB _) ha hb (nomark _)
theorem td_le (ha : ED X ct W a ma) (hb : ED X ct W b mb) : TD X ct W (.Compare a [.LtE] [b] pos) (bnd (m2 ma mb leM) asB) := td_cmp op_le (int2_ok fun i j _ _ _ _ _ => repB _) ha hb (nomark _)
theorem td_gt (ha : ED X ct W a ma) (hb : ED X ct W b mb) : TD X ct W (.Compare a [.Gt] [b] pos) (bnd (m2 ma mb gtM) asB) := td_cmp op_gt (int2_ok fun i j _ _ _ _ _ => repB _) ha hb (nomark _)
theorem td_ge (ha : ED X ct W a ma) (hb : ED X ct W b mb) : TD X ct W (.Compare a [.GtE] [b] pos) (bnd (m2 ma mb geM) asB) := td_cmp op_ge (int2_ok fun i j _ _ _ _ _ => repB _) ha hb (nomark _)
theorem td_isN (ha : ED X ct W a ma) (hb : ED X ct W b mb) : TD X ct W (.Compare a [.Is] [b] pos) (bnd (m2 ma mb isNM) asB) := td_cmp op_isN isNM_ok ha hb (nomark _)
theorem td_notN (ha : ED X ct W a ma) (hb : ED X ct W b mb) : TD X ct W (.Compare a [.IsNot] [b] pos) (bnd (m2 ma mb notNM) asB) := td_cmp op_notN notNM_ok ha hb (nomark _)
theorem td_notB (ha : ED X ct W a ma) (hb : ED X ct W b mb) : TD X ct W (.Compare a [.IsNot] [b] pos) (bnd (m2 ma mb notBM) asB) := by
  refine td_cmp op_notBl (fun W σ γ s H Ha Hb x y r1 r2 Q R q1 q2 h => ?_) ha hb (nomark _)
  unfold notBM at h
  split at h
  · exact ⟨_, _, rep_bl q1, rep_bl q2, good_ok R (repB _) h⟩
  · exact False.elim h

/-! ## + -/
def rCatR : R2 := fun x y H Q => ∃ l b xs zs, x = .ref l ∧ y = .ref b ∧ Rd H l (.lst xs) ∧ Rd H b (.lst zs) ∧ xs.length + zs.length ≤ sizeLine ∧ ∀ p, H p = none → Q (.ref p) (upd H p (.lst (xs ++ zs)))
theorem op_catR : OpR X (binaryOp .Add) rCatR := by
  intro pins s σ H x y v u Q I rx ry h
  obtain ⟨l, b, xs, zs, rfl, rfl, hH, hB, hz, q⟩ := h
  cases rx
  cases ry
  obtain ⟨z, its, n, r, e⟩ := hH.ok I.hok
  obtain ⟨z2, its2, n2, r2, e2⟩ := hB.ok I.hok
  have hl := r.length
  have hl2 := r2.length
  refine PySem.P.add_list e e2 ?_ (by rw [List.size_toArray, List.size_toArray]; omega)
  have ea : its.toArray ++ its2.toArray = (its ++ its2).toArray := by simp
  rw [ea]
  exact ⟨.ref _, _, I.lnew (t' := s.toks) (r.append r2) (by rw [List.length_append]; omega), rfl, q _ I.fresh⟩
def rAddF (K : PySem.W.Frag) : R2 := fun x y H Q => (rI0 fun i j => .int (i + j)) x y H Q ∨ ((∃ i j, x = .str i ∧ y = .str j ∧ i.length + j.length ≤ sizeLine ∧ Q (.str (i ++ j)) H) ∨ (rCatA K x y H Q ∨ rCatR x y H Q))
theorem op_addF : OpR X (binaryOp .Add) (rAddF X.K) := op_add.or (op_add_str.or (op_catA.or op_catR))
def addM : RV → RV → M RV
  | .sv (.dat (.int i)), .sv (.dat (.int j)) => pur (RI (i + j))
  | .sv (.dat (.str x)), .sv (.dat (.str y)) => fun s => if x.length + y.length ≤ 100000 then .ok (RS (x ++ y)) s else .bad
  | .sv (.dat (.tup x)), .sv (.dat (.tup y)) => fun s => if x.length + y.length ≤ 100000 then .ok (RT (x ++ y)) s else .bad
  | x, y => fun s => match seqL s x, seqL s y with
    | some xs, some ys => if xs.length + ys.length ≤ 100000 then .ok (.new (xs ++ ys)) s else .bad
    | _, _ => .bad
theorem addM_ok : BinOk X ct (rAddF X.K) addM := by
  intro W σ γ s H Ha Hb x y r1 r2 Q R q1 q2 h
  unfold addM at h
  split at h
  · rename_i i j
    exact .inl ⟨i, j, rep_int q1, rep_int q2, good_ok R (repI _) h⟩
  · rename_i z1 z2
    by_cases c : z1.length + z2.length ≤ 100000
    · rw [if_pos c] at h
      exact .inr (.inl ⟨z1, z2, rep_str q1, rep_str q2, lim_ok c, good_ok (r := RS _) R (RepD.str _) h⟩)
    · rw [if_neg c] at h; exact False.elim h
  · rename_i z1 z2
    by_cases c : z1.length + z2.length ≤ 100000
    · rw [if_pos c] at h
      obtain ⟨p1, vs1, rfl, h1, w1⟩ := tup_rep q1
      obtain ⟨p2, vs2, rfl, h2, w2⟩ := tup_rep q2
      refine .inr (.inr (.inl ⟨p1, p2, vs1, vs2, rfl, rfl, h1, h2, by rw [w1.length, w2.length]; exact lim_ok c, fun e1 => ?_, fun e1 e2 => ?_, fun _ _ => good_tup R (RepDs.append w1 w2) h⟩))
      · have e3 : z1 = [] := by
          have := w1.length; rw [e1] at this; exact List.length_eq_zero_iff.mp this.symm
        rw [e3, List.nil_append] at h
        exact good_ok (r := RT z2) R (RepD.tup h2 w2) h
      · have e3 : z2 = [] := by
          have := w2.length; rw [e2] at this; exact List.length_eq_zero_iff.mp this.symm
        rw [e3, List.append_nil] at h
        exact good_ok (r := RT z1) R (RepD.tup h1 w1) h
    · rw [if_neg c] at h; exact False.elim h
  · dsimp only at h
    split at h
    · rename_i xs ys e1 e2
      by_cases c : xs.length + ys.length ≤ 100000
      · rw [if_pos c] at h
        obtain ⟨p1, vs1, rfl, h1, w1⟩ := seqL_rd R e1 q1
        obtain ⟨p2, vs2, rfl, h2, w2⟩ := seqL_rd R e2 q2
        exact .inr (.inr (.inr ⟨p1, p2, vs1, vs2, rfl, rfl, h1, h2, by rw [Paired.length w1, Paired.length w2]; exact lim_ok c, good_new R (RepDs.appendS w1 w2) h⟩))
      · rw [if_neg c] at h; exact False.elim h
    · exact False.elim h
theorem ed_add (ha : ED X ct W a ma) (hb : ED X ct W b mb) : ED X ct W (.BinOp a .Add b pos) (m2 ma mb addM) := ed_bin op_addF addM_ok ha hb

/-! ## x[i] -/
def ixM : RV → RV → M RV
  | .sv (.dat (.tup ds)), .sv (.dat (.int i)) => fun s => match atI ds i with
    | some d => .ok (RD d) s
    | none => .bad
  | .sv (.dat (.str z)), .sv (.dat (.int i)) => fun s => if z.length ≤ 100000 then match atI z.cps.toList i with
    | some c => .ok (RS ⟨#[c]⟩) s
    | none => .bad
    else .bad
  | x, .sv (.dat (.int i)) => fun s => match seqL s x with
    | some xs => match atI xs i with
      | some y => .ok (.sv y) s
      | none => .bad
    | none => .bad
  | _, _ => stuck
theorem atI_repD {K : PySem.W.Frag} {H : Hp} {ds : List D} {vs : List V} {i : Int} {d : D} (p : RepDs K ct H vs ds) (e : atI ds i = some d) : ∃ v, atI vs i = some v ∧ RepD K ct H v d := by
  unfold atI at e ⊢
  rw [p.length]
  cases h : ixN ds.length i with
  | none => rw [h] at e; cases e
  | some j => rw [h] at e; exact p.get e
theorem ixM_ok : BinOk X ct (rIx X.K) ixM := by
  intro W σ γ s H Ha Hb x y r1 r2 Q R q1 q2 h
  unfold ixM at h
  split at h
  · rename_i ds i
    cases e : atI ds i with
    | none => simp only [e] at h; exact False.elim h
    | some d =>
      simp only [e] at h
      obtain ⟨p1, vs1, rfl, h1, w1⟩ := tup_rep q1
      obtain ⟨v, ev, rv⟩ := atI_repD w1 e
      exact .inr (.inl ⟨p1, vs1, i, v, rfl, rep_int q2, h1, ev, good_ok (r := RD d) R rv h⟩)
  · rename_i z i
    by_cases c : z.length ≤ 100000
    · rw [if_pos c] at h
      cases e : atI z.cps.toList i with
      | none => simp only [e] at h; exact False.elim h
      | some d =>
        simp only [e] at h
        exact .inr (.inr ⟨z, i, d, rep_str q1, rep_int q2, lim_ok c, e, good_ok (r := RS _) R (RepD.str _) h⟩)
    · rw [if_neg c] at h; exact False.elim h
  · rename_i i _ _
    cases e1 : seqL s r1 with
    | none => simp only [e1] at h; exact False.elim h
    | some xs =>
      simp only [e1] at h
      cases e : atI xs i with
      | none => simp only [e] at h; exact False.elim h
      | some d =>
        simp only [e] at h
        obtain ⟨p1, vs1, rfl, h1, w1⟩ := seqL_rep R e1 q1
        obtain ⟨v, ev, rv⟩ := atI_rep w1 e
        exact .inl ⟨p1, vs1, i, v, rfl, rep_int q2, h1, ev, good_ok (r := .sv d) R rv h⟩
  · exact False.elim h
theorem ed_sub1 (ha : ED X ct W a ma) (hb : ED X ct W b mb) (hs : PlainIx b := by intro _ _; rfl) : ED X ct W (.Subscript a b pos) (m2 ma mb ixM) := ed_ix ix_seq ixM_ok ha hb hs

/-! ## slices -/
def OD (X : Cx) (ct : Nat → Addr) (W : WX) (e : Option Expr) (m : M (Option Int)) : Prop := ∃ t, PO X e t ∧ ∀ σ H γ s Q, Rep X.K ct γ H σ s →
  (m s).post (fun o s' => ∀ γ' H', Step γ γ' s s' H H' → Rep X.K ct γ' H' σ s' → Q o H') (GoodX X.K ct W σ γ s H) → t σ H Q
theorem od_none : OD X ct W none (pur none) := ⟨_, po_none, fun σ H γ s Q R h => h γ H Step.refl R⟩
def asI : RV → M (Option Int)
  | .sv (.dat (.int i)) => pur (some i)
  | _ => stuck
theorem od_some (h : ED X ct W e m) : OD X ct W (some e) (bnd m asI) := by
  obtain ⟨t, p, r⟩ := h.ex
  refine ⟨_, po_some p, fun σ H γ s Q R h => ?_⟩
  refine r σ H γ s _ R (use_e h (fun _ _ z => z) fun x s1 v γ1 H1 t1 R1 q1 g => ?_)
  unfold asI at g
  split at g
  · exact ⟨_, rep_int q1, g γ1 H1 t1 R1⟩
  · exact False.elim g
def cutD {α : Type} (xs : List α) (lo hi : Option Int) : List α := (xs.drop (HT.sIx xs.length 0 lo)).take (HT.sIx xs.length xs.length hi - HT.sIx xs.length 0 lo)
def slM (x : RV) (lo hi : Option Int) : M RV := match x with
  | .sv (.dat (.tup ds)) => pur (RT (cutD ds lo hi))
  | x => fun s => match seqL s x with
    | some xs => .ok (.new (cutD xs lo hi)) s
    | none => .bad
def m3 (m : M RV) (ml mh : M (Option Int)) : M RV := bnd m fun x => bnd ml fun lo => bnd mh fun hi => slM x lo hi
theorem Paired.takeS {α β : Type} {F : α → β → Prop} : ∀ {l₁ : List α} {l₂ : List β} (n : Nat), Paired F l₁ l₂ → Paired F (l₁.take n) (l₂.take n)
  | _, _, 0, _ => by simp; exact .nil
  | _, _, n + 1, .nil => by simp; exact .nil
  | _, _, n + 1, .cons r t => by simp; exact .cons r (Paired.takeS n t)
theorem Paired.dropS {α β : Type} {F : α → β → Prop} : ∀ {l₁ : List α} {l₂ : List β} (n : Nat), Paired F l₁ l₂ → Paired F (l₁.drop n) (l₂.drop n)
  | _, _, 0, h => by simpa using h
  | _, _, n + 1, .nil => by simp; exact .nil
  | _, _, n + 1, .cons r t => by simp; exact Paired.dropS n t
theorem RepDs.take {K : PySem.W.Frag} {H : Hp} (n : Nat) : ∀ {vs : List V} {ds : List D}, RepDs K ct H vs ds → RepDs K ct H (vs.take n) (ds.take n) := by
  induction n with
  | zero => intro vs ds h; simp; exact .nil
  | succ n ih => intro vs ds h; cases ds with
    | nil => cases h; simp; exact .nil
    | cons d ds => cases h with | cons r t => simp; exact .cons r (ih t)
theorem RepDs.drop {K : PySem.W.Frag} {H : Hp} (n : Nat) : ∀ {vs : List V} {ds : List D}, RepDs K ct H vs ds → RepDs K ct H (vs.drop n) (ds.drop n) := by
  induction n with
  | zero => intro vs ds h; simpa using h
  | succ n ih => intro vs ds h; cases ds with
    | nil => cases h; simp; exact .nil
    | cons d ds => cases h with | cons r t => simp; exact ih t
theorem use_o {K : PySem.W.Frag} {β : Type} {σ : L2.St} {γ : G} {s : S} {H : Hp} {m : M (Option Int)} {f : Option Int → M β} {P : β → S → Prop} {E : Exn → S → Prop} {Q : Option Int → Hp → Prop} (h : (bnd m f s).post P E) (hE : ∀ x s', E x s' → GoodX K ct W σ γ s H x s')
    (k : ∀ b s1 γ1 H1, Step γ γ1 s s1 H H1 → Rep K ct γ1 H1 σ s1 → (f b s1).post P E → Q b H1) : (m s).post (fun o s' => ∀ γ' H', Step γ γ' s s' H H' → Rep K ct γ' H' σ s' → Q o H') (GoodX K ct W σ γ s H) :=
  Out.post.imp (post_bnd h) (fun r s1 q γ1 H1 t R => k r s1 γ1 H1 t R q) hE
theorem ed_slice {lo hi : Option Expr} {ml mh : M (Option Int)} {p2 : Pos} (h : ED X ct W e m) (hl : OD X ct W lo ml) (hh : OD X ct W hi mh) : ED X ct W (.Subscript e (.Slice lo hi none p2) pos) (m3 m ml mh) := by
  obtain ⟨t, p, r⟩ := h.ex
  obtain ⟨tl, pl, rl⟩ := hl
  obtain ⟨th, ph, rh⟩ := hh
  refine ⟨_, pe_slice (sl_tupA.or sl_list) p pl ph, fun σ H γ s Q R h => ?_⟩
  refine r σ H γ s _ R (use_e h (fun _ _ z => z) fun x s1 v γ1 H1 t1 R1 q1 g => ?_)
  refine rl σ H1 γ1 s1 _ R1 (use_o (Good.step t1 g) (fun _ _ z => z) fun o1 s2 γ2 H2 t2 R2 g2 => ?_)
  refine rh σ H2 γ2 s2 _ R2 (use_o (Good.step t2 g2) (fun _ _ z => z) fun o2 s3 γ3 H3 t3 R3 g3 => ?_)
  have g4 : Good X.K ct W σ γ3 s3 H3 (slM x o1 o2 s3) Q := Good.step t3 g3
  have q3 := (q1.mono t2).mono t3
  unfold slM at g4
  split at g4
  · rename_i ds
    obtain ⟨p1, vs1, rfl, h1, w1⟩ := tup_rep q3
    have hl := w1.length
    refine .inl ⟨p1, vs1, rfl, h1, fun c => ?_, fun _ => ?_⟩
    · have e1 : cutD ds o1 o2 = ds := by
        unfold cutD
        rw [hl] at c
        rw [c.1, c.2]
        simp
      have g5 : Good X.K ct W σ γ3 s3 H3 (.ok (RT (cutD ds o1 o2)) s3) Q := g4
      rw [e1] at g5
      exact good_ok (r := RT ds) R3 (RepD.tup h1 w1) g5
    · have e2 : cutV vs1 o1 o2 = (vs1.drop (HT.sIx ds.length 0 o1)).take (HT.sIx ds.length ds.length o2 - HT.sIx ds.length 0 o1) := by unfold cutV; rw [hl]
      rw [e2]
      exact good_tup R3 (RepDs.take _ (RepDs.drop _ w1)) g4
  · cases e1 : seqL s3 x with
    | none => simp only [e1] at g4; exact False.elim g4
    | some xs =>
      simp only [e1] at g4
      obtain ⟨p1, vs1, rfl, h1, w1⟩ := seqL_rep R3 e1 q3
      have hl := Paired.length w1
      have e2 : cutV vs1 o1 o2 = (vs1.drop (HT.sIx xs.length 0 o1)).take (HT.sIx xs.length xs.length o2 - HT.sIx xs.length 0 o1) := by unfold cutV; rw [hl]
      refine .inr ⟨p1, vs1, rfl, h1, ?_⟩
      rw [e2]
      exact good_new R3 (Paired.takeS _ (Paired.dropS _ w1)) g4

/-! ## arguments, displays -/
variable {mA : M (List SV)}
def consA (m : M RV) (mA : M (List SV)) : M (List SV) := bnd m fun x => match x with
  | .sv x => bnd mA fun xs => pur (x :: xs)
  | .new _ => stuck
theorem ad_nil : AD X ct W [] (pur []) := ⟨_, pa_nil, fun σ H γ s Q R h => h [] γ H Step.refl R .nil⟩
theorem ad_cons (h : ED X ct W e m) (hr : AD X ct W es mA) (hs : starEach (e :: es) X.env = (false, eval e X.env) :: starEach es X.env := by rfl) : AD X ct W (e :: es) (consA m mA) := by
  obtain ⟨t, p, r⟩ := h.ex
  obtain ⟨t2, p2, r2⟩ := hr.ex
  refine ⟨_, pa_cons p p2 hs, fun σ H γ s Q R h => ?_⟩
  refine r σ H γ s _ R (use_e h (fun _ _ z => z) fun x s1 v γ1 H1 t1 R1 q1 g => ?_)
  cases x with
  | new xs => exact False.elim g
  | sv x =>
    refine r2 σ H1 γ1 s1 _ R1 (use_a (GoodA.step t1 g) (fun _ _ z => z) fun xs s2 vs γ2 H2 t2 R2 q2 g2 => ?_)
    exact g2 (v :: vs) γ2 H2 t2 R2 (.cons (RepS.mono t2 q1) q2)
def tupM (xs : List SV) : M RV := fun s => match datL xs with
  | some ds => if ds.length ≤ 1000 then .ok (RT ds) s else .bad
  | none => .bad
def lstM (xs : List SV) : M RV := fun s => if xs.length ≤ 1000 then .ok (.new xs) s else .bad
theorem ed_tup {x1} (h : AD X ct W es mA) : ED X ct W (.Tuple es x1 pos) (bnd mA tupM) := by
  obtain ⟨t, p, r⟩ := h.ex
  refine ⟨_, pe_tup p, fun σ H γ s Q R h => ?_⟩
  refine r σ H γ s _ R (use_a h (fun _ _ z => z) fun xs s1 vs γ1 H1 t1 R1 q1 g => ?_)
  unfold tupM at g
  cases e1 : datL xs with
  | none => simp only [e1] at g; exact False.elim g
  | some ds =>
    simp only [e1] at g
    have w := datL_rep e1 q1
    by_cases c : ds.length ≤ 1000
    · rw [if_pos c] at g
      exact ⟨lim_ok (by rw [w.length]; omega), good_tup R1 w (Good.step t1 g)⟩
    · rw [if_neg c] at g; exact False.elim g
theorem ed_lst (h : AD X ct W es mA) : ED X ct W (.List es pos) (bnd mA lstM) := by
  obtain ⟨t, p, r⟩ := h.ex
  refine ⟨_, pe_lst p, fun σ H γ s Q R h => ?_⟩
  refine r σ H γ s _ R (use_a h (fun _ _ z => z) fun xs s1 vs γ1 H1 t1 R1 q1 g => ?_)
  unfold lstM at g
  by_cases c : xs.length ≤ 1000
  · rw [if_pos c] at g
    exact ⟨lim_ok (by rw [Paired.length q1]; omega), good_new R1 q1 (Good.step t1 g)⟩
  · rw [if_neg c] at g; exact False.elim g
end
end Fd
set_option Elab.async false
set_option linter.all false
set_option maxRecDepth 100000
set_option maxHeartbeats 4000000
namespace Fd
open PySem PySem.Spec PyProof.Rows L2
/-! ## arguments of built-ins: any values -/
section
variable (K : PySem.W.Frag) (ct : Nat → Addr)
def GoodB (W : WX) (σ : L2.St) (γ : G) (s : S) (H : Hp) (o : Out (List RV)) (Q : List V → Hp → Prop) : Prop :=
  o.post (fun xs s' => ∀ vs γ' H', Step γ γ' s s' H H' → Rep K ct γ' H' σ s' → Paired (RepR K ct γ' s' H H') vs xs → Q vs H') (GoodX K ct W σ γ s H)
end
structure BD (X : Cx) (ct : Nat → Addr) (W : WX) (es : List Expr) (m : M (List RV)) : Prop where
  ex : ∃ t, PA X es t ∧ ∀ σ H γ s Q, Rep X.K ct γ H σ s → GoodB X.K ct W σ γ s H (m s) Q → t σ H Q
section
variable {X : Cx} {ct : Nat → Addr} {W : WX} {pos : Pos} {a b e : Expr} {ma mb m : M RV} {rest es : List Expr} {mB : M (List RV)} {mA : M (List SV)}
def consB (m : M RV) (mB : M (List RV)) : M (List RV) := bnd m fun x => bnd mB fun xs => pur (x :: xs)
theorem bd_nil : BD X ct W [] (pur []) := ⟨_, pa_nil, fun σ H γ s Q R h => h [] γ H Step.refl R .nil⟩
theorem bd_cons (h : ED X ct W e m) (hr : BD X ct W es mB) (hs : starEach (e :: es) X.env = (false, eval e X.env) :: starEach es X.env := by rfl) : BD X ct W (e :: es) (consB m mB) := by
  obtain ⟨t, p, r⟩ := h.ex
  obtain ⟨t2, p2, r2⟩ := hr.ex
  refine ⟨_, pa_cons p p2 hs, fun σ H γ s Q R h => ?_⟩
  refine r σ H γ s _ R (use_e h (fun _ _ z => z) fun x s1 v γ1 H1 t1 R1 q1 g => ?_)
  refine r2 σ H1 γ1 s1 _ R1 (Out.post.imp (post_bnd g) (fun xs s2 g2 vs γ2 H2 t2 R2 q2 => ?_) fun x s2 z => GoodX.step t1 z)
  exact g2 (v :: vs) γ2 H2 (t1.trans t2) R2 (.cons (q1.mono t2) (Paired.mapP q2 fun _ _ z => z.base t1.there))
def CallOk (X : Cx) (ct : Nat → Addr) (r : List V → Hp → VK → Prop) (f : List RV → M RV) : Prop := ∀ (W : WX) (σ : L2.St) (γ : G) (s : S) (H Ha : Hp) (vs : List V) (rs : List RV) (Q : VK), Rep X.K ct γ H σ s → Paired (RepR X.K ct γ s Ha H) vs rs → Good X.K ct W σ γ s H (f rs s) Q → r vs H Q
/-- a call of a built-in: hp is «fun _ h => pe_callB .. h» -/
theorem ed_blt {c : Expr} {r : List V → Hp → VK → Prop} {f : List RV → M RV} (hp : ∀ t, PA X es t → PE X c (tCB r t)) (hf : CallOk X ct r f) (h : BD X ct W es mB) : ED X ct W c (bnd mB f) := by
  obtain ⟨t, p, rr⟩ := h.ex
  refine ⟨_, hp t p, fun σ H γ s Q R h => ?_⟩
  refine rr σ H γ s _ R (Out.post.imp (post_bnd h) (fun xs s1 g vs γ1 H1 t1 R1 q1 => ?_) fun _ _ z => z)
  exact hf W σ γ1 s1 H1 _ vs xs Q R1 q1 (Good.step t1 g)
/-! len -/
def lenM : List RV → M RV
  | [.sv (.dat (.str z))] => fun s => if z.length ≤ 100000 then .ok (RI z.length) s else .bad
  | [.sv (.dat (.tup ds))] => pur (RI ds.length)
  | [x] => fun s => match seqL s x with
    | some xs => .ok (RI xs.length) s
    | none => .bad
  | _ => stuck
def rLen (K : PySem.W.Frag) : List V → Hp → VK → Prop := fun xs H Q => ∃ x n, xs = [x] ∧ LenV K x H n ∧ Q (.int n) H
theorem lenM_ok : CallOk X ct (rLen X.K) lenM := by
  intro W σ γ s H Ha vs rs Q R q h
  unfold lenM at h
  split at h
  · rename_i z
    cases q with
    | cons q1 q2 =>
      cases q2
      by_cases c : z.length ≤ 100000
      · rw [if_pos c] at h
        exact ⟨_, z.length, rfl, by rw [rep_str q1]; exact ⟨lim_ok c, rfl⟩, good_ok R (repI _) h⟩
      · rw [if_neg c] at h; exact False.elim h
  · rename_i ds
    cases q with
    | cons q1 q2 =>
      cases q2
      obtain ⟨p1, vs1, rfl, h1, w1⟩ := tup_rep q1
      exact ⟨_, ds.length, rfl, .inr ⟨vs1, h1, w1.length.symm⟩, good_ok R (repI _) h⟩
  · rename_i x _ _
    cases q with
    | cons q1 q2 =>
      cases q2
      cases e1 : seqL s x with
      | none => simp only [e1] at h; exact False.elim h
      | some xs =>
        simp only [e1] at h
        obtain ⟨p1, vs1, rfl, h1, w1⟩ := seqL_rep R e1 q1
        exact ⟨_, xs.length, rfl, .inl ⟨vs1, h1, (Paired.length w1).symm⟩, good_ok R (repI _) h⟩
  · exact False.elim h
/-! abs, int, gcd, max, min of ints -/
def absM : List RV → M RV
  | [.sv (.dat (.int i))] => pur (RI (if i < 0 then -i else i))
  | _ => stuck
theorem absM_ok : CallOk X ct (fun xs H Q => ∃ i, xs = [.int i] ∧ Q (.int (if i < 0 then -i else i)) H) absM := by
  intro W σ γ s H Ha vs rs Q R q h
  unfold absM at h
  split at h
  · cases q with
    | cons q1 q2 =>
      cases q2
      exact ⟨_, by rw [rep_int q1], good_ok R (repI _) h⟩
  · exact False.elim h
def intM : List RV → M RV
  | [.sv (.dat (.int i))] => pur (RI i)
  | [.sv (.dat (.bl b))] => pur (RI (if b then 1 else 0))
  | _ => stuck
theorem intM_ok : CallOk X ct (fun xs H Q => (∃ i, xs = [.int i] ∧ Q (.int i) H) ∨ ∃ k, xs = [.bl k] ∧ Q (.int (if k then 1 else 0)) H) intM := by
  intro W σ γ s H Ha vs rs Q R q h
  unfold intM at h
  split at h
  · cases q with
    | cons q1 q2 =>
      cases q2
      exact .inl ⟨_, by rw [rep_int q1], good_ok R (repI _) h⟩
  · cases q with
    | cons q1 q2 =>
      cases q2
      exact .inr ⟨_, by rw [rep_bl q1], good_ok R (repI _) h⟩
  · exact False.elim h
def int2M (g : Int → Int → Int) : List RV → M RV
  | [.sv (.dat (.int i)), .sv (.dat (.int j))] => pur (RI (g i j))
  | _ => stuck
theorem int2M_ok {g : Int → Int → Int} {r : List V → Hp → VK → Prop} (hr : ∀ i j H Q, Q (.int (g i j)) H → r [.int i, .int j] H Q) : CallOk X ct r (int2M g) := by
  intro W σ γ s H Ha vs rs Q R q h
  unfold int2M at h
  split at h
  · cases q with
    | cons q1 q2 =>
      cases q2 with
      | cons q2 q3 =>
        cases q3
        rw [rep_int q1, rep_int q2]
        exact hr _ _ _ _ (good_ok R (repI _) h)
  · exact False.elim h
def gcdM : List RV → M RV := int2M fun a b => ((Nat.gcd a.natAbs b.natAbs : Nat) : Int)
def max2M : List RV → M RV := int2M fun i j => if j > i then j else i
def min2M : List RV → M RV := int2M fun i j => if j < i then j else i
theorem gcdM_ok : CallOk X ct rGcd gcdM := int2M_ok fun i j H Q q => ⟨i, j, rfl, q⟩
theorem max2M_ok : CallOk X ct (fun xs H Q => ∃ i j, xs = [.int i, .int j] ∧ Q (.int (if j > i then j else i)) H) max2M := int2M_ok fun i j H Q q => ⟨i, j, rfl, q⟩
theorem min2M_ok : CallOk X ct (fun xs H Q => ∃ i j, xs = [.int i, .int j] ∧ Q (.int (if j < i then j else i)) H) min2M := int2M_ok fun i j H Q q => ⟨i, j, rfl, q⟩
/-! str of an int -/
def strM : List RV → M RV
  | [.sv (.dat (.int i))] => fun s => if i.natAbs.log2 < 1920 then .ok (RS (toString i)) s else .bad
  | _ => stuck
theorem strM_ok : CallOk X ct (fun xs H Q => ∃ i, xs = [.int i] ∧ i.natAbs.log2 < 1920 ∧ Q (.str (toString i)) H) strM := by
  intro W σ γ s H Ha vs rs Q R q h
  unfold strM at h
  split at h
  · rename_i i
    cases q with
    | cons q1 q2 =>
      cases q2
      by_cases c : i.natAbs.log2 < 1920
      · rw [if_pos c] at h
        exact ⟨_, by rw [rep_int q1], c, good_ok (r := RS _) R (RepD.str _) h⟩
      · rw [if_neg c] at h; exact False.elim h
  · exact False.elim h
/-! list(x), tuple(x) -/
def listM : List RV → M RV
  | [.sv (.dat (.tup ds))] => pur (.new (ds.map SV.dat))
  | [x] => fun s => match seqL s x with
    | some xs => .ok (.new xs) s
    | none => .bad
  | _ => stuck
theorem listM_ok : CallOk X ct (fun xs H Q => ∃ p ys, xs = [.ref p] ∧ (SqL X.K H p ys ∨ SqT X.K H p ys) ∧ ∀ l, H l = none → Q (.ref l) (upd H l (.lst ys))) listM := by
  intro W σ γ s H Ha vs rs Q R q h
  unfold listM at h
  split at h
  · rename_i ds
    cases q with
    | cons q1 q2 =>
      cases q2
      obtain ⟨p1, vs1, rfl, h1, w1⟩ := tup_rep q1
      exact ⟨p1, vs1, rfl, .inr h1, good_new R (rep_map w1) h⟩
  · rename_i x _
    cases q with
    | cons q1 q2 =>
      cases q2
      cases e1 : seqL s x with
      | none => simp only [e1] at h; exact False.elim h
      | some xs =>
        simp only [e1] at h
        obtain ⟨p1, vs1, rfl, h1, w1⟩ := seqL_rep R e1 q1
        exact ⟨p1, vs1, rfl, .inl h1, good_new R w1 h⟩
  · exact False.elim h
def tupleM : List RV → M RV
  | [.sv (.dat (.tup ds))] => pur (RT ds)
  | [x] => fun s => match seqL s x with
    | some xs => match datL xs with
      | some ds => .ok (RT ds) s
      | none => .bad
    | none => .bad
  | _ => stuck
theorem tupleM_ok : CallOk X ct (fun xs H Q => ∃ p ys, xs = [.ref p] ∧ ((SqL X.K H p ys ∧ ∀ l, H l = none → Q (.ref l) (upd H l (.tup ys))) ∨ (SqT X.K H p ys ∧ Q (.ref p) H))) tupleM := by
  intro W σ γ s H Ha vs rs Q R q h
  unfold tupleM at h
  split at h
  · rename_i ds
    cases q with
    | cons q1 q2 =>
      cases q2
      obtain ⟨p1, vs1, rfl, h1, w1⟩ := tup_rep q1
      exact ⟨p1, vs1, rfl, .inr ⟨h1, good_ok (r := RT ds) R (RepD.tup h1 w1) h⟩⟩
  · rename_i x _
    cases q with
    | cons q1 q2 =>
      cases q2
      cases e1 : seqL s x with
      | none => simp only [e1] at h; exact False.elim h
      | some xs =>
        simp only [e1] at h
        cases e2 : datL xs with
        | none => simp only [e2] at h; exact False.elim h
        | some ds =>
          simp only [e2] at h
          obtain ⟨p1, vs1, rfl, h1, w1⟩ := seqL_rep R e1 q1
          exact ⟨p1, vs1, rfl, .inl ⟨h1, good_tup R (datL_rep e2 w1) h⟩⟩
  · exact False.elim h

/-! ## isinstance of built-in types -/
inductive Ty where
  | int | bool | str | tuple | list | dict | none
  deriving DecidableEq
def Ty.nm : Ty → String
  | .int => "int" | .bool => "bool" | .str => "str" | .tuple => "tuple" | .list => "list" | .dict => "dict" | .none => "NoneType"
def subTy : Ty → Ty → Bool
  | .int, .int => true | .bool, .int => true | .bool, .bool => true | .str, .str => true | .tuple, .tuple => true | .list, .list => true | .dict, .dict => true | _, _ => false
theorem kit_sub : ∀ a b : Ty, b ≠ .none → kitB a.nm b.nm = some (subTy a b) := by
  intro a b h
  cases a <;> cases b <;> first | exact absurd rfl h | decide +kernel
def tyR (s : S) : RV → Option Ty
  | .sv (.dat .non) => some .none
  | .sv (.dat (.bl _)) => some .bool
  | .sv (.dat (.int _)) => some .int
  | .sv (.dat (.str _)) => some .str
  | .sv (.dat (.tup _)) => some .tuple
  | .sv (.dat (.dct _)) => some .dict
  | x => match seqL s x with
    | some _ => some .list
    | none => none
theorem tyR_rep {K : PySem.W.Frag} {γ : G} {s : S} {H0 H : Hp} {σ : L2.St} (R : Rep K ct γ H σ s) {r : RV} {v : V} {t : Ty} (e : tyR s r = some t) (q : RepR K ct γ s H0 H v r) : TyX K H v (.type t.nm) := by
  have fin : (match seqL s r with | some _ => some Ty.list | none => none) = some t → TyX K H v (.type t.nm) := fun e2 => by
    cases h : seqL s r with
    | none => rw [h] at e2; cases e2
    | some xs =>
      rw [h] at e2; cases e2
      obtain ⟨p1, vs1, rfl, h1, w1⟩ := seqL_rd R h q
      rcases h1 with h1 | ⟨o, h1⟩
      · exact .base (.lst h1)
      · exact .base (.frz h1)
  cases r with
  | new xs => exact fin e
  | sv x =>
    cases x with
    | hand => exact fin e
    | ref k => exact fin e
    | dat d =>
      cases d with
      | non => cases e; rw [rep_non q]; exact .base .non
      | bl c => cases e; rw [rep_bl q]; exact .base (.bl _)
      | int i => cases e; rw [rep_int q]; exact .base (.int _)
      | str y => cases e; rw [rep_str q]; exact .base (.str _)
      | tup ds =>
        cases e
        obtain ⟨p1, vs1, rfl, h1, w1⟩ := tup_rep q
        rcases h1 with (h1 | ⟨o, h1⟩) | ⟨o, its, n, hk, hc, _⟩
        · exact .base (.tup h1)
        · exact .fTuple h1
        · exact .kTuple hk hc
      | lst ds => exact fin e
      | obj c ds => exact fin e
      | dct kds =>
        cases e
        have q' : RepD K ct H v (.dct kds) := q
        cases q' with
        | dct h1 _ _ => exact .fDict h1

def isiM (t : Ty) (r : RV) : M RV := fun s => match tyR s r with
  | some u => .ok (RB (subTy u t)) s
  | none => .bad
theorem ed_isi {p p2 : Pos} {x : Str} (t : Ty) (ht : t ≠ .none) (hg : Gl X "isinstance") (hm : X.mg "isinstance" = none) (h : ED X ct W e m) (hx : PE X (.Name x p2) (tC (.ty t.nm)))
    (he : starEach [e, .Name x p2] X.env = (false, eval e X.env) :: starEach [.Name x p2] X.env := by rfl) (hpl : (backTo pos (starEach [.Name x p2] X.env)).any (·.1) = false := by rfl)
    (he2 : starEach [.Name x p2] X.env = (false, eval (.Name x p2) X.env) :: starEach [] X.env := by rfl) : ED X ct W (.Call (.Name "isinstance" p) [e, .Name x p2] [] pos) (bnd m (isiM t)) := by
  obtain ⟨te, pe, r⟩ := h.ex
  refine ⟨_, pe_callB call_isi hg hm boot_isinstance (pa_cons pe (pa_cons hx pa_nil he2) he) (he := he) (hpl := hpl), fun σ H γ s Q R h => ?_⟩
  refine r σ H γ s _ R (use_e h (fun _ _ z => z) fun x s1 v γ1 H1 t1 R1 q1 g => ?_)
  unfold isiM at g
  cases e1 : tyR s1 x with
  | none => simp only [e1] at g; exact False.elim g
  | some u =>
    simp only [e1] at g
    exact ⟨v, .ty t.nm, _, .type t.nm, subTy u t, rfl, .ty _, tyR_rep R1 e1 q1, kit_ty (kit_sub u t ht), g _ γ1 H1 t1 R1 (repB _)⟩
/-- isinstance(x, (T, U)) -/
def isiM2 (t t' : Ty) (r : RV) : M RV := fun s => match tyR s r with
  | some u => .ok (RB (subTy u t || subTy u t')) s
  | none => .bad
theorem kitAny2 {K : PySem.W.Frag} {a b c : Ty} (hb : b ≠ .none) (hc : c ≠ .none) : PySem.W.kitAny K (.type a.nm) [.type b.nm, .type c.nm] = some (subTy a b || subTy a c) := by
  have h1 : PySem.W.kitOne K (.type a.nm) (.type b.nm) = some (subTy a b) := kit_ty (kit_sub a b hb)
  have h2 : PySem.W.kitOne K (.type a.nm) (.type c.nm) = some (subTy a c) := kit_ty (kit_sub a c hc)
  unfold PySem.W.kitAny PySem.W.kitAny PySem.W.kitAny
  rw [h1, h2]
  cases subTy a b <;> cases subTy a c <;> rfl
end
end Fd
set_option Elab.async false
set_option linter.all false
set_option maxRecDepth 100000
set_option maxHeartbeats 4000000
namespace Fd
open PySem PySem.Spec PyProof.Rows L2
/-! ## promises -/
inductive Rs where
  | dat (d : D) | new (ds : List D)
inductive Res where
  | ret (r : Rs) | exc (x : Exn) | bad
section
variable (K : PySem.W.Frag) (ct : Nat → Addr)
def RepRes (H H' : Hp) (v : V) : Rs → Prop
  | .dat d => RepD K ct H' v d
  | .new ds => ∃ a vs, v = .ref a ∧ H a = none ∧ H' a = some (.lst vs) ∧ RepDs K ct H' vs ds
def GoodP (H : Hp) (o : Res) (Q : VK) (E : XK) : Prop := match o with
  | .ret r => ∀ v H', Same H H' → RepRes K ct H H' v r → Q v H'
  | .exc x => ∀ cl d H', Same H H' → RepX K ct H' x cl d → E cl d H'
  | .bad => False
def spP (n : Nat) (F : List D → Res) : Sp := fun vs H Q E => vs.length = n ∧ ∃ ds, RepDs K ct H vs ds ∧ GoodP K ct H (F ds) Q E
def HandR (ah g : Addr) (H : Hp) (h : Hand) : Prop := H ah = some (.lst [.ref g, .int h.mixed, .int h.cnt]) ∧ H g = some (.lst (h.great.map V.int))
def RepA (ah : Addr) (H : Hp) (v : V) : SV → Prop
  | .dat d => RepD K ct H v d
  | .hand => v = .ref ah
  | .ref _ => False
def GoodH (ah g : Addr) (H : Hp) (o : Res × Hand) (Q : VK) : Prop := match o with
  | (.ret r, h') => ∀ v H' g', (∀ a o, H a = some o → a ≠ ah → a ≠ g → H' a = some o) → (∀ a, H a ≠ none → H' a ≠ none) → HandR ah g' H' h' → (g' = g ∨ H g' = none) → RepRes K ct H H' v r → (∀ ds, r = .new ds → v ≠ .ref g') → Q v H'
  | _ => False
def spH (n : Nat) (F : List SV → Hand → Res × Hand) : Sp := fun vs H Q _ => vs.length = n ∧ ∃ ah g h xs, HandR ah g H h ∧ Paired (RepA K ct ah H) vs xs ∧ GoodH K ct ah g H (F xs h) Q
end
/-! ## calls of own defs -/
def toRes (r : Res) : M RV := fun s => match r with
  | .ret (.dat d) => .ok (RD d) s
  | .ret (.new ds) => .ok (.new (ds.map SV.dat)) s
  | .exc x => .exc x s
  | .bad => .bad
def callM (n : Nat) (F : List D → Res) (dd : List D) (xs : List SV) : M RV := match datL xs with
  | some ds => if (ds ++ dd).length = n then toRes (F (ds ++ dd)) else stuck
  | none => stuck
def noRef : SV → Bool
  | .ref _ => false
  | _ => true
def callH (n : Nat) (F : List SV → Hand → Res × Hand) (dd : List D) (xs : List SV) : M RV := fun s => match s.hd with
  | some (.hand h) => if (xs ++ dd.map SV.dat).length = n then if xs.all noRef = true then match F (xs ++ dd.map SV.dat) h with
    | (.ret (.dat d), h') => .ok (RD d) { s with hd := some h' }
    | (.ret (.new ds), h') => .ok (.new (ds.map SV.dat)) { s with hd := some h' }
    | _ => .bad
    else .bad else .bad
  | _ => .bad
section
variable {K : PySem.W.Frag} {ct : Nat → Addr} {W : WX} {γ γ1 : G} {s s1 : S} {H H1 : Hp} {σ : L2.St}
theorem step_same (k : Same H H1) : Step γ γ s s H H1 := ⟨fun a o e _ => k a o e, fun _ z => .inl z, fun a o e _ => k a o e, fun a z q => z (by cases e : H a with | none => rfl | some o => rw [k a o e] at q; cases q), fun _ _ => rfl, Nat.le_refl _, rfl, fun _ h1 h2 => absurd h2 (Nat.not_lt.mpr h1)⟩
theorem good_res {r : Res} {Q : VK} (R : Rep K ct γ H σ s) (g : Good K ct W σ γ s H (toRes r s) Q) : GoodP K ct H r Q (WE W σ) := by
  cases r with
  | bad => exact g
  | exc x => exact fun cl d H' k q => g cl d γ H' (step_same k) (R.kept k) q
  | ret r =>
    cases r with
    | dat d => exact fun v H' k q => g v γ H' (step_same k) (R.kept k) q
    | new ds =>
      intro v H' k q
      obtain ⟨a, vs, rfl, e0, e, p⟩ := q
      exact g _ γ H' (step_same k) (R.kept k) ⟨a, vs, rfl, e0, e, R.notOwn_free e0, rep_map p⟩
theorem hand_step (R : Rep K ct γ H σ s) {h h' : Hand} (eh : s.hd = some (.hand h)) {g' : Addr} (k : ∀ a o, H a = some o → a ≠ γ.ah → a ≠ γ.g → H1 a = some o) (th : ∀ a, H a ≠ none → H1 a ≠ none) (hr : HandR γ.ah g' H1 h') (hg : g' = γ.g ∨ H g' = none) :
    Step γ { γ with g := g' } s { s with hd := some h' } H H1 ∧ Rep K ct { γ with g := g' } H1 σ { s with hd := some h' } := by
  have nn : s.hd ≠ none := by rw [eh]; exact fun z => by cases z
  have st : Step γ { γ with g := g' } s { s with hd := some h' } H H1 := by
    refine ⟨fun a o e n => k a o e (fun z => n (.inr ⟨nn, .inl z⟩)) (fun z => n (.inr ⟨nn, .inr z⟩)), fun a z => ?_, fun a o e i => ?_, th, fun _ _ => rfl, Nat.le_refl _, rfl, fun _ h1 h2 => absurd h2 (Nat.not_lt.mpr h1)⟩
    · rcases z with ⟨j, lj, rfl⟩ | ⟨_, z⟩
      · exact .inl (.inl ⟨j, lj, rfl⟩)
      · rcases z with z | z
        · exact .inl (.inr ⟨nn, .inl z⟩)
        · have z' : a = g' := z
          rcases hg with q | q
          · exact .inl (.inr ⟨nn, .inr (z'.trans q)⟩)
          · exact .inr (by rw [z']; exact q)
    · have n := R.imm_notOwn e i
      exact k a o e (fun z => n (.inr ⟨nn, .inl z⟩)) (fun z => n (.inr ⟨nn, .inr z⟩))
  refine ⟨st, R.len, fun i x ex => ?_, fun j ys ey => ?_, R.inj, fun h2 e2 => ?_, fun _ j lj => ?_⟩
  · obtain ⟨v, q, r⟩ := R.env i x ex
    exact ⟨v, q, r.mono st⟩
  · obtain ⟨vs, q, r⟩ := R.mem j ys ey
    have hk := R.hdk nn j ⟨ys, ey⟩
    exact ⟨vs, k _ _ q hk.1 hk.2, RepSs.mono st r⟩
  · have e2' : some (Hd.hand h') = some h2 := e2
    cases e2'
    exact hr
  · have hk := R.hdk nn j lj
    refine ⟨hk.1, ?_⟩
    rcases hg with q | q
    · show γ.kp j ≠ g'
      rw [q]; exact hk.2
    · obtain ⟨ys, ey⟩ := lj
      obtain ⟨vs, q2, _⟩ := R.mem j ys ey
      show γ.kp j ≠ g'
      intro z
      rw [z, q] at q2; cases q2
theorem repA_of {n : Nat} : ∀ {xs : List SV} {vs : List V}, xs.all noRef = true → Paired (RepS K ct γ n H) vs xs → Paired (RepA K ct γ.ah H) vs xs := by
  intro xs
  induction xs with
  | nil => intro vs _ h; cases h; exact .nil
  | cons x xs ih =>
    intro vs a h
    rw [List.all_cons, Bool.and_eq_true] at a
    cases h with
    | cons r t =>
      refine .cons ?_ (ih a.2 t)
      cases x with
      | dat d => exact r
      | hand => exact r
      | ref k => exact absurd a.1 (by simp [noRef])
theorem repA_append {ah : Addr} {vs us : List V} {xs ys : List SV} (r : Paired (RepA K ct ah H) vs xs) (q : Paired (RepA K ct ah H) us ys) : Paired (RepA K ct ah H) (vs ++ us) (xs ++ ys) := by
  induction r with
  | nil => exact q
  | cons h t ih => exact .cons h ih
theorem repA_map {ah : Addr} : ∀ {ds : List D} {vs : List V}, RepDs K ct H vs ds → Paired (RepA K ct ah H) vs (ds.map SV.dat) := by
  intro ds
  induction ds with
  | nil => intro vs h; cases h; exact .nil
  | cons d ds ih => intro vs h; cases h with | cons r t => exact .cons r (ih t)
end
section
variable {X : Cx} {ct : Nat → Addr} {W : WX} {pos p : Pos} {x : Str} {e : Expr} {es : List Expr} {m : M RV} {mA : M (List SV)} {k : Nat} {f : Addr} {fd : FuncData} {ps : List Str} {dvs : List V} {ds : List Value} {dd : List D}
theorem ed_call {F : List D → Res} (FK : FnOk X.prog X.w X.K X.mg X.base (L2.CX X.prog X.w) k f fd ps (spP X.K ct ps.length F)) (hr : Room k X.A) (hg : Gl X x) (hm : X.mg x = some (.ref f)) (hk : PySem.W.keepIn X.K (.ref f) = true) (hb : Binds X.K fd ps ds) (hd : Vals dvs ds) (hdd : ∀ H, RepDs X.K ct H dvs dd)
    (tk : Takes X W) (ha : AD X ct W (e :: es) mA) (hdb : (x == ("__debug__" : Str)) = false := by decide) (he : starEach (e :: es) X.env = (false, eval e X.env) :: starEach es X.env := by rfl) (hpl : (backTo pos (starEach es X.env)).any (·.1) = false := by rfl) :
    ED X ct W (.Call (.Name x p) (e :: es) [] pos) (bnd mA (callM ps.length F dd)) := by
  obtain ⟨t, pt, r⟩ := ha.ex
  refine ⟨_, pe_callSD FK hr hg hm hk hb hd (fun σ => passAt tk σ) pt hdb he hpl, fun σ H γ s Q R h => ?_⟩
  refine r σ H γ s _ R (use_a h (fun _ _ z => z) fun xs s1 vs γ1 H1 t1 R1 q1 g => ?_)
  unfold callM at g
  cases e1 : datL xs with
  | none => simp only [e1] at g; exact False.elim g
  | some es =>
    simp only [e1] at g
    have w := (datL_rep e1 q1).append (hdd H1)
    by_cases c : (es ++ dd).length = ps.length
    · rw [if_pos c] at g
      exact ⟨by rw [w.length]; exact c, _, w, good_res R1 (Good.step t1 g)⟩
    · rw [if_neg c] at g; exact False.elim g
theorem ed_callH {F : List SV → Hand → Res × Hand} (FK : FnOk X.prog X.w X.K X.mg X.base (L2.CX X.prog X.w) k f fd ps (spH X.K ct ps.length F)) (hr : Room k X.A) (hg : Gl X x) (hm : X.mg x = some (.ref f)) (hk : PySem.W.keepIn X.K (.ref f) = true) (hb : Binds X.K fd ps ds) (hd : Vals dvs ds) (hdd : ∀ H, RepDs X.K ct H dvs dd)
    (tk : Takes X W) (ha : AD X ct W (e :: es) mA) (hdb : (x == ("__debug__" : Str)) = false := by decide) (he : starEach (e :: es) X.env = (false, eval e X.env) :: starEach es X.env := by rfl) (hpl : (backTo pos (starEach es X.env)).any (·.1) = false := by rfl) :
    ED X ct W (.Call (.Name x p) (e :: es) [] pos) (bnd mA (callH ps.length F dd)) := by
  obtain ⟨t, pt, r⟩ := ha.ex
  refine ⟨_, pe_callSD FK hr hg hm hk hb hd (fun σ => passAt tk σ) pt hdb he hpl, fun σ H γ s Q R h => ?_⟩
  refine r σ H γ s _ R (use_a h (fun _ _ z => z) fun xs s1 vs γ1 H1 t1 R1 q1 g => ?_)
  unfold callH at g
  cases eh : s1.hd with
  | none => simp only [eh] at g; exact False.elim g
  | some hd0 =>
    cases hd0 with
    | me c0 ds0 => simp only [eh] at g; exact False.elim g
    | hand hh =>
    simp only [eh] at g
    have hA : HandAt γ1 H1 hh := R1.hd _ eh
    by_cases c : (xs ++ dd.map SV.dat).length = ps.length
    · rw [if_pos c] at g
      by_cases c2 : xs.all noRef = true
      · rw [if_pos c2] at g
        have g1 : Good X.K ct W σ γ1 s1 H1 _ Q := Good.step t1 g
        have wl : (vs ++ dvs).length = ps.length := by
          rw [List.length_append] at c ⊢
          rw [Paired.length q1, (hdd H1).length]
          simpa using c
        refine ⟨wl, γ1.ah, γ1.g, hh, _, hA, repA_append (repA_of c2 q1) (repA_map (hdd H1)), ?_⟩
        cases e3 : F (xs ++ dd.map SV.dat) hh with
        | mk o h' =>
          rw [e3] at g1
          cases o with
          | bad => exact False.elim g1
          | exc x => exact False.elim g1
          | ret rr =>
            intro v H' g' k th hr' hg' q nv
            obtain ⟨st, R2⟩ := hand_step R1 eh k th hr' hg'
            cases rr with
            | dat d => exact g1 v _ H' st R2 q
            | new ds =>
              obtain ⟨a, vs, rfl, e0, ea, p⟩ := q
              refine g1 _ _ H' st R2 ⟨a, vs, rfl, e0, ea, fun z => ?_, rep_map p⟩
              rcases z with ⟨j, ⟨ys, ey⟩, rfl⟩ | ⟨_, z⟩
              · obtain ⟨us, q2, _⟩ := R1.mem j ys ey
                rw [q2] at e0; cases e0
              · rcases z with z | z
                · have z' : a = γ1.ah := z
                  rw [z', hA.1] at e0; cases e0
                · have z' : a = g' := z
                  exact nv _ rfl (by rw [z'])
      · rw [if_neg c2] at g; exact False.elim g
    · rw [if_neg c] at g; exact False.elim g

/-! ## statements -/
variable {st : Stmt} {rest sts sts2 : List Stmt} {mf mg : M Fl} {a b : Expr}
def seqF (mf mg : M Fl) : M Fl := bnd mf fun f => match f with
  | .nx => mg
  | f => pur f
theorem goodS_nx {K : PySem.W.Frag} {γ : G} {s : S} {H : Hp} {σ : L2.St} {N : Ends} (R : Rep K ct γ H σ s) (g : GoodS K ct W γ s H (.ok .nx s) N) : N.nx σ H := g σ γ H Step.refl R
theorem sds_nil : SDs X ct W [] (pur .nx) := ⟨_, pss_nil, fun N σ H γ s R h => goodS_nx R h⟩
theorem sds_one (h : SD X ct W st mf) : SDs X ct W [st] mf := by
  obtain ⟨t, p, r⟩ := h.ex
  exact ⟨t, pss_one p, r⟩
theorem use_s {K : PySem.W.Frag} {γ : G} {s : S} {H : Hp} {N : Ends} {u : TS} {mf mg : M Fl} (h : GoodS K ct W γ s H (seqF mf mg s) N)
    (k : ∀ s1 σ1 γ1 H1, Step γ γ1 s s1 H H1 → Rep K ct γ1 H1 σ1 s1 → GoodS K ct W γ1 s1 H1 (mg s1) N → u N σ1 H1) : GoodS K ct W γ s H (mf s) { N with nx := u N } :=
  Out.post.imp (post_bnd h) (fun f s1 q => by
    cases f with
    | nx => exact fun σ1 γ1 H1 t1 R1 => k s1 σ1 γ1 H1 t1 R1 (GoodS.step t1 q)
    | bk => exact q
    | ct => exact q
    | rt r => exact q) fun _ _ z => z
theorem sds_cons (h : SD X ct W st mf) (hr : SDs X ct W rest mg) : SDs X ct W (st :: rest) (seqF mf mg) := by
  obtain ⟨t, p, r⟩ := h.ex
  obtain ⟨t2, p2, r2⟩ := hr.ex
  exact ⟨_, pss_cons p p2, fun N σ H γ s R h => r _ σ H γ s R (use_s h fun s1 σ1 γ1 H1 t1 R1 g => r2 N σ1 H1 γ1 s1 R1 g)⟩
theorem sd_pass : SD X ct W (.Pass pos) (pur .nx) := ⟨_, ps_pass, fun N σ H γ s R h => goodS_nx R h⟩
theorem sd_break : SD X ct W (.Break pos) (pur .bk) := ⟨_, ps_break, fun N σ H γ s R h => h σ γ H Step.refl R⟩
theorem sd_continue : SD X ct W (.Continue pos) (pur .ct) := ⟨_, ps_continue, fun N σ H γ s R h => h σ γ H Step.refl R⟩
def retF (m : M RV) : M Fl := bnd m fun r => pur (.rt r)
theorem sd_ret (h : ED X ct W e m) : SD X ct W (.Return (some e) pos) (retF m) := by
  obtain ⟨t, p, r⟩ := h.ex
  refine ⟨_, ps_ret p, fun N σ H γ s R h => ?_⟩
  exact r σ H γ s _ R (use_e h (fun _ _ z => z.at) fun x s1 v γ1 H1 t1 R1 q1 g => g v σ γ1 H1 t1 R1 q1)
theorem sd_retN : SD X ct W (.Return none pos) (pur (.rt RN)) := ⟨_, ps_retN, fun N σ H γ s R h => h .non σ γ H Step.refl R RepD.non⟩
def dropF (m : M RV) : M Fl := bnd m fun _ => pur .nx
theorem sd_expr (h : ED X ct W e m) (hs : swapsWith e none pos.line X.env = pure false := by rfl) : SD X ct W (.Expr e pos) (dropF m) := by
  obtain ⟨t, p, r⟩ := h.ex
  refine ⟨_, ps_expr p hs, fun N σ H γ s R h => ?_⟩
  exact r σ H γ s _ R (use_e h (fun _ _ z => z.at) fun x s1 v γ1 H1 t1 R1 q1 g => g σ γ1 H1 t1 R1)
def ifF (tc : M Bool) (mf mg : M Fl) : M Fl := bnd tc fun b => if b = true then mf else mg
theorem sd_if {c : Expr} {tc : M Bool} (hc : TD X ct W c tc) (h1 : SDs X ct W sts mf) (h2 : SDs X ct W sts2 mg) : SD X ct W (.If c sts sts2 pos) (ifF tc mf mg) := by
  obtain ⟨t, p, r⟩ := hc.ex
  obtain ⟨t1, p1, r1⟩ := h1.ex
  obtain ⟨t2, p2, r2⟩ := h2.ex
  refine ⟨_, ps_if p p1 p2, fun N σ H γ s R h => ?_⟩
  refine r σ H γ s _ R (use_t h (fun _ _ z => z.at) fun b s1 γ1 H1 t1 R1 g => ?_)
  cases b with
  | true => exact r1 N σ H1 γ1 s1 R1 (GoodS.step t1 g)
  | false => exact r2 N σ H1 γ1 s1 R1 (GoodS.step t1 g)
/-! targets -/
/-- a target: the slots that it may change, what it does with a value -/
structure GD (X : Cx) (ct : Nat → Addr) (e : Expr) (is : List Nat) (f : SV → M Unit) : Prop where
  ex : ∃ t, PG X e t ∧ ∀ σ H γ s v x (Q : L2.St → Hp → Prop), Rep X.K ct γ H σ s → RepS X.K ct γ s.mem.length H v x →
    (f x s).post (fun _ s' => ∀ σ' γ' H', Step γ γ' s s' H H' → Rep X.K ct γ' H' σ' s' → (∀ j, j ∉ is → σ'[j]? = σ[j]?) → σ'.length = σ.length → Q σ' H') (fun _ _ => False) → t v σ H Q
structure GDs (X : Cx) (ct : Nat → Addr) (es : List Expr) (is : List Nat) (f : List SV → M Unit) : Prop where
  ex : ∃ t, PGs X es t ∧ ∀ σ H γ s vs xs (Q : L2.St → Hp → Prop), Rep X.K ct γ H σ s → Paired (RepS X.K ct γ s.mem.length H) vs xs →
    (f xs s).post (fun _ s' => ∀ σ' γ' H', Step γ γ' s s' H H' → Rep X.K ct γ' H' σ' s' → (∀ j, j ∉ is → σ'[j]? = σ[j]?) → σ'.length = σ.length → Q σ' H') (fun _ _ => False) → t vs σ H Q
def setV (i : Nat) (x : SV) : M Unit := fun s => .ok () { s with env := s.env.set i (some x) }
theorem rep_set {K : PySem.W.Frag} {γ : G} {s : S} {H : Hp} {σ : L2.St} (R : Rep K ct γ H σ s) {i : Nat} {v : V} {x : SV} (r : RepS K ct γ s.mem.length H v x) : Rep K ct γ H (σ.set i (some v)) { s with env := s.env.set i (some x) } := by
  refine ⟨by simpa using R.len, fun j y e => ?_, R.mem, R.inj, R.hd, R.hdk⟩
  have e' : (s.env.set i (some x))[j]? = some (some y) := e
  by_cases h : i = j
  · subst h
    have hl : i < s.env.length := by
      have := (List.getElem?_eq_some_iff.mp e').1
      simpa using this
    rw [List.getElem?_set_self hl] at e'
    cases e'
    exact ⟨v, List.getElem?_set_self (by rw [R.len]; exact hl), r⟩
  · rw [List.getElem?_set_ne h] at e'
    obtain ⟨u, q, r'⟩ := R.env j y e'
    exact ⟨u, by rw [List.getElem?_set_ne h]; exact q, r'⟩
theorem step_env {γ : G} {s : S} {H : Hp} {env : List (Option SV)} : Step γ γ s { s with env := env } H H := ⟨fun _ _ e _ => e, fun _ h => .inl h, KeepI.refl, fun _ z => z, fun _ _ => rfl, Nat.le_refl _, rfl, fun _ h1 h2 => absurd h2 (Nat.not_lt.mpr h1)⟩
theorem gd_name {i : Nat} {x : Str} (hp : PG X (.Name x pos) (gName i)) : GD X ct (.Name x pos) [i] (setV i) :=
  ⟨_, hp, fun σ H γ s v x Q R r h => h _ γ H step_env (rep_set R r) (fun j hj => List.getElem?_set_ne (by simpa [eq_comm] using hj)) (by simp)⟩
theorem gds_nil : GDs X ct [] [] (fun xs => match xs with | [] => pur () | _ => stuck) := by
  refine ⟨_, pgs_nil, fun σ H γ s vs xs Q R r h => ?_⟩
  cases xs with
  | nil => cases r; exact ⟨rfl, h σ γ H Step.refl R (fun _ _ => rfl) rfl⟩
  | cons x xs => exact False.elim h
def consG (f : SV → M Unit) (g : List SV → M Unit) (xs : List SV) : M Unit := match xs with
  | [] => stuck
  | x :: xs => bnd (f x) fun _ => g xs
theorem gds_cons {is js : List Nat} {f : SV → M Unit} {g : List SV → M Unit} (h : GD X ct e is f) (hr : GDs X ct es js g) (hs : (assignEach (e :: es) X.env).map (·.2) = assign e X.env :: (assignEach es X.env).map (·.2) := by rfl) : GDs X ct (e :: es) (is ++ js) (consG f g) := by
  obtain ⟨t, p, r⟩ := h.ex
  obtain ⟨t2, p2, r2⟩ := hr.ex
  refine ⟨_, pgs_cons p p2 hs, fun σ H γ s vs xs Q R q h => ?_⟩
  cases xs with
  | nil => exact False.elim h
  | cons x xs =>
    cases q with
    | cons q1 q2 =>
      refine ⟨_, _, rfl, r σ H γ s _ x _ R q1 (Out.post.imp (post_bnd h) (fun _ s1 g σ1 γ1 H1 t1 R1 a1 l1 => ?_) fun _ _ z => z)⟩
      exact r2 σ1 H1 γ1 s1 _ xs Q R1 (RepSs.mono t1 q2) (Out.post.imp g (fun _ s2 k σ2 γ2 H2 t2 R2 a2 l2 => k σ2 γ2 H2 (t1.trans t2) R2 (fun j hj => by
        rw [List.mem_append, not_or] at hj
        rw [a2 j hj.2, a1 j hj.1]) (l2.trans l1)) fun _ _ z => z)
def tupG (g : List SV → M Unit) (n : Nat) (x : SV) : M Unit := match x with
  | .dat (.tup ds) => if ds.length = n then g (ds.map SV.dat) else stuck
  | _ => stuck
theorem gd_tup {is : List Nat} {k n : Nat} {g : List SV → M Unit} (hc : X.calm = true) (h : GDs X ct es is g) (hn : (assignEach es X.env).length = n := by rfl) (hst : (assignEach es X.env).findIdx? (·.1) = none := by rfl) : GD X ct (.Tuple es k pos) is (tupG g n) := by
  obtain ⟨t, p, r⟩ := h.ex
  refine ⟨_, pg_tup hc p hn hst, fun σ H γ s v x Q R q h => ?_⟩
  unfold tupG at h
  split at h
  · rename_i ds
    obtain ⟨a, vs, e1, hq, w⟩ := tup_rep (s := s) (H0 := H) (γ := γ) (show RepR X.K ct γ s H H v (RT ds) from q)
    by_cases c : ds.length = n
    · rw [if_pos c] at h
      exact ⟨a, vs, e1, hq, by rw [w.length]; exact c, r σ H γ s vs _ Q R (rep_map w) h⟩
    · rw [if_neg c] at h; exact False.elim h
  · exact False.elim h
def nxU (u : M Unit) : M Fl := fun s => match u s with
  | .ok _ s' => .ok .nx s'
  | _ => .bad
def asgF (m : M RV) (f : SV → M Unit) : M Fl := bnd m fun r => match r with
  | .sv x => nxU (f x)
  | .new _ => stuck
theorem sd_asg {tg : Expr} {is : List Nat} {f : SV → M Unit} (h : ED X ct W e m) (hg : GD X ct tg is f) (hs : swapsWithSole [tg] e pos.line X.env = pure false := by rfl) (hw : swappedStores [tg] e X.env = pure none := by rfl)
    (h1 : (assignEach [tg] X.env).map (·.2) = [assign tg X.env] := by rfl) : SD X ct W (.Assign [tg] e pos) (asgF m f) := by
  obtain ⟨t, p, r⟩ := h.ex
  obtain ⟨t2, p2, r2⟩ := hg.ex
  refine ⟨_, ps_asg p p2 hs hw h1, fun N σ H γ s R h => ?_⟩
  refine r σ H γ s _ R (use_e h (fun _ _ z => z.at) fun x s1 v γ1 H1 t1 R1 q1 g => ?_)
  cases x with
  | new xs => exact False.elim g
  | sv x =>
    refine r2 σ H1 γ1 s1 v x _ R1 q1 ?_
    have g' : (nxU (f x) s1).post (GoodF X.K ct γ s H N) (GoodXS X.K ct W γ s H) := g
    unfold nxU at g'
    cases e2 : f x s1 with
    | bad => rw [e2] at g'; exact g'
    | exc y s2 => rw [e2] at g'; exact False.elim g'
    | ok u s2 =>
      rw [e2] at g'
      exact fun σ2 γ2 H2 t2 R2 _ _ => g' σ2 γ2 H2 (t1.trans t2) R2
end
end Fd
set_option Elab.async false
set_option linter.all false
set_option maxRecDepth 100000
set_option maxHeartbeats 4000000
namespace Fd
open PySem PySem.Spec PyProof.Rows L2
/-! ## what is walked -/
structure Src where
  items : List SV
  keep : Option (Nat × List SV)
def Src.Ok (src : Src) (s : S) : Prop := match src.keep with
  | none => True
  | some (k, xs) => s.mem[k]? = some (some xs)
structure WalkD (K : PySem.W.Frag) (ct : Nat → Addr) (J : It) (src : Src) (γ : G) (s : S) (H : Hp) : Prop where
  ex : ∃ (Gd : Hp → Prop) (Y : Nat → Hp → V → Hp → Prop), L2.Walk J src.items.length Gd Y ∧
    (∀ γ1 s1 H1 σ1, Step γ γ1 s s1 H H1 → Rep K ct γ1 H1 σ1 s1 → src.Ok s1 → Gd H1) ∧
    (∀ i γ1 s1 H1 σ1 x H2 y, Step γ γ1 s s1 H H1 → Rep K ct γ1 H1 σ1 s1 → src.Ok s1 → src.items[i]? = some y → Y i H1 x H2 → Same H1 H2 ∧ RepS K ct γ1 s1.mem.length H2 x y)
structure ID (X : Cx) (ct : Nat → Addr) (W : WX) (tg iter : Expr) (mi : M Src) : Prop where
  ex : ∃ wi, PI X tg iter wi ∧ ∀ σ H γ s (R : It → Hp → Prop), Rep X.K ct γ H σ s →
    (mi s).post (fun src s' => ∀ γ' H' J, Step γ γ' s s' H H' → Rep X.K ct γ' H' σ s' → WalkD X.K ct J src γ' s' H' → R J H') (GoodX X.K ct W σ γ s H) → wi σ H R
def iSeq (K : PySem.W.Frag) (tl : TE) : TI := fun σ H R => tl σ H fun x H1 => ∃ a, x = .ref a ∧ (((∃ xs, SqL K H1 a xs) ∧ R (Itl K a) H1) ∨ ((∃ xs, SqT K H1 a xs) ∧ R (Itt K a) H1))
theorem pi_seq {X : Cx} {tg l : Expr} {tl : TE} (hl : PE X l tl) : PI X tg l (iSeq X.K tl) := by
  refine ⟨fun pins s σ H R I h => ?_⟩
  refine thn (hl.run pins s σ H _ I h) fun v s1 ⟨x, H1, I1, r1, q1⟩ => ?_
  obtain ⟨a, e, ⟨⟨xs, hq⟩, q⟩ | ⟨⟨xs, hq⟩, q⟩⟩ := q1
  · subst e
    cases r1
    obtain ⟨its, rv, p, hz⟩ := I1.list hq
    refine wpAny_pyIter_list p.isList ?_
    refine ⟨s1.heap.objs.size, [s1.heap.objs.size], _, _, H1, rfl, I1.kept (t' := s1.toks) fun b o e => Heap.get?_push_of_some _ e, turn_list a _, ⟨_, Heap.get?_push_size _ rfl, rfl, rfl⟩, fun b hb => ?_, q⟩
    have e : b = s1.heap.objs.size := by simpa using hb
    subst e
    exact I1.fpOk (Nat.le_refl _) (I1.hok.fresh (Nat.le_refl _))
  · subst e
    cases r1
    obtain ⟨its, rv, p, hz⟩ := I1.tuple hq
    refine wpAny_pyIter_tuple (show s1.heap.IsTuple a its.toArray from p) ?_
    refine ⟨s1.heap.objs.size, [s1.heap.objs.size], _, _, H1, rfl, I1.kept (t' := s1.toks) fun b o e => Heap.get?_push_of_some _ e, turn_tuple a _, ⟨_, Heap.get?_push_size _ rfl, rfl, rfl⟩, fun b hb => ?_, q⟩
    have e : b = s1.heap.objs.size := by simpa using hb
    subst e
    exact I1.fpOk (Nat.le_refl _) (I1.hok.fresh (Nat.le_refl _))
section
variable {X : Cx} {ct : Nat → Addr} {W : WX} {pos : Pos} {a b e tg : Expr} {ma mb m : M RV} {es : List Expr}
/-- a list or a tuple -/
def seqSrc : RV → M Src
  | .sv (.dat (.tup ds)) => pur ⟨ds.map SV.dat, none⟩
  | .sv (.dat (.lst ds)) => pur ⟨ds.map SV.dat, none⟩
  | .new xs => pur ⟨xs, none⟩
  | .sv (.ref k) => fun s => match s.mem[k]? with
    | some (some xs) => .ok ⟨xs, some (k, xs)⟩ s
    | _ => .bad
  | _ => stuck
theorem walkD_list {K : PySem.W.Frag} {γ : G} {s : S} {H : Hp} {a : Addr} {xs : List SV} {kp : Option (Nat × List SV)} (hG : ∀ γ1 s1 H1 σ1, Step γ γ1 s s1 H H1 → Rep K ct γ1 H1 σ1 s1 → (Src.mk xs kp).Ok s1 → ∃ vs, SqL K H1 a vs ∧ Paired (RepS K ct γ1 s1.mem.length H1) vs xs) : WalkD K ct (Itl K a) ⟨xs, kp⟩ γ s H := by
  refine ⟨fun H => ∃ us, SqL K H a us ∧ us.length = xs.length, fun i H x H' => H' = H ∧ ∀ us, SqL K H a us → us[i]? = some x, ⟨?_, ?_, ?_⟩, ?_, ?_⟩
  · rintro i H1 hi ⟨us, hq, hl⟩
    have hi' : i < us.length := by rw [hl]; exact hi
    exact ⟨us, us[i], hq, by simp [hi']⟩
  · rintro H1 ⟨us, hq, hl⟩
    exact ⟨us, hq, Nat.le_of_eq hl⟩
  · intro i H1 x H2 hi _ y
    exact y
  · intro γ1 s1 H1 σ1 st R1 ok
    obtain ⟨vs, hq, p⟩ := hG γ1 s1 H1 σ1 st R1 ok
    exact ⟨vs, hq, Paired.length p⟩
  · rintro i γ1 s1 H1 σ1 x H2 y st R1 ok e ⟨rfl, ex⟩
    obtain ⟨vs, hq, p⟩ := hG γ1 s1 _ σ1 st R1 ok
    obtain ⟨v, ev, rv⟩ := paired_get p e
    rw [ex vs hq] at ev; cases ev
    exact ⟨Same.refl _, rv⟩
theorem walkD_tup {K : PySem.W.Frag} {γ : G} {s : S} {H : Hp} {a : Addr} {vs : List V} {ds : List D} (h : SqT K H a vs) (p : RepDs K ct H vs ds) : WalkD K ct (Itt K a) ⟨ds.map SV.dat, none⟩ γ s H := by
  have p' := rep_map (γ := γ) (n := s.mem.length) p
  refine ⟨_, _, by rw [show (Src.mk (ds.map SV.dat) none).items.length = vs.length from (Paired.length p').symm]; exact walk_tup (xs := vs), fun γ1 s1 H1 σ1 st R1 _ => sqT_mono st.imm h, ?_⟩
  rintro i γ1 s1 H1 σ1 x H2 y st R1 ok e ⟨rfl, ex⟩
  obtain ⟨v, ev, rv⟩ := paired_get p' e
  rw [ev] at ex; cases ex
  exact ⟨Same.refl _, rv.mono st⟩
theorem id_seq (h : ED X ct W e m) : ID X ct W tg e (bnd m seqSrc) := by
  obtain ⟨t, p, r⟩ := h.ex
  refine ⟨_, pi_seq p, fun σ H γ s R0 R h => ?_⟩
  refine r σ H γ s _ R (use_e h (fun _ _ z => z) fun x s1 v γ1 H1 t1 R1 q1 g => ?_)
  unfold seqSrc at g
  split at g
  · rename_i ds
    obtain ⟨p1, vs1, rfl, h1, w1⟩ := tup_rep q1
    exact ⟨p1, rfl, .inr ⟨⟨vs1, h1⟩, g γ1 H1 _ t1 R1 (walkD_tup h1 w1)⟩⟩
  · rename_i ds
    have q' : RepD X.K ct H1 v (.lst ds) := q1
    cases q' with
    | lst hq w1 => exact ⟨_, rfl, .inl ⟨⟨_, hq.sq⟩, g γ1 H1 _ t1 R1 (walkD_list fun γ2 s2 H2 σ2 st R2 _ => ⟨_, (hq.mono st.imm).sq, RepSs.mono st (rep_map w1)⟩)⟩⟩
  · rename_i xs
    obtain ⟨a, vs, rfl, e0, ea, na, rp⟩ := q1
    exact ⟨a, rfl, .inl ⟨⟨vs, SqL.of ea⟩, g γ1 H1 _ t1 R1 (walkD_list fun γ2 s2 H2 σ2 st R2 _ => ⟨vs, SqL.of (st.keep a _ ea na), RepSs.mono st rp⟩)⟩⟩
  · rename_i k
    cases e1 : s1.mem[k]? with
    | none => simp only [e1] at g; exact False.elim g
    | some o =>
      cases o with
      | none => simp only [e1] at g; exact False.elim g
      | some xs =>
        simp only [e1] at g
        have q' : k < s1.mem.length ∧ v = .ref (γ1.kp k) := q1
        obtain ⟨hk, rfl⟩ := q'
        obtain ⟨vs, ek, rp⟩ := R1.mem k xs e1
        refine ⟨_, rfl, .inl ⟨⟨vs, SqL.of ek⟩, g γ1 H1 _ t1 R1 (walkD_list fun γ2 s2 H2 σ2 st R2 ok => ?_)⟩⟩
        have ok' : s2.mem[k]? = some (some xs) := ok
        obtain ⟨us, eu, ru⟩ := R2.mem k xs ok'
        rw [st.kp k hk] at eu
        exact ⟨us, SqL.of eu, ru⟩
  · exact False.elim g
/-- range -/
def rangeL (lo : Int) (n : Nat) : List SV := (List.range n).map fun i => .dat (.int (lo + (i : Nat)))
/-- an `if` whose test no kernel ever runs -/
noncomputable def ifC {α : Type} (p : Prop) (a b : α) : α := @ite α p (Classical.propDecidable p) a b
theorem ifC_pos {α : Type} {p : Prop} {a b : α} (h : p) : ifC p a b = a := by
  unfold ifC
  rw [if_pos h]
theorem ifC_neg {α : Type} {p : Prop} {a b : α} (h : ¬ p) : ifC p a b = b := by
  unfold ifC
  rw [if_neg h]
noncomputable def rng1 : List RV → M Src
  | [.sv (.dat (.int j))] => fun s => ifC (-(2 ^ 62) ≤ j ∧ j < 2 ^ 62) (.ok ⟨rangeL 0 j.toNat, none⟩ s) .bad
  | _ => stuck
noncomputable def rng2 : List RV → M Src
  | [.sv (.dat (.int i)), .sv (.dat (.int j))] => fun s => ifC (-(2 ^ 62) ≤ i ∧ i < 2 ^ 62 ∧ -(2 ^ 62) ≤ j ∧ j < 2 ^ 62) (.ok ⟨rangeL i (j - i).toNat, none⟩ s) .bad
  | _ => stuck
theorem walkD_range {K : PySem.W.Frag} {γ : G} {s : S} {H : Hp} {lo : Int} {n : Nat} : WalkD K ct (Itr lo n) ⟨rangeL lo n, none⟩ γ s H := by
  refine ⟨_, _, by rw [show (Src.mk (rangeL lo n) none).items.length = n by simp [rangeL]]; exact walk_range, fun _ _ _ _ _ _ _ => trivial, ?_⟩
  rintro i γ1 s1 H1 σ1 x H2 y st R1 ok e ⟨rfl, rfl⟩
  have e' : ((List.range n).map fun i => (SV.dat (.int (lo + (i : Nat)))))[i]? = some y := e
  rw [List.getElem?_map] at e'
  by_cases hi : i < n
  · rw [List.getElem?_range hi] at e'
    cases e'
    exact ⟨Same.refl _, RepD.int _⟩
  · rw [List.getElem?_eq_none (by simpa using hi)] at e'
    cases e'
variable {mB : M (List RV)} {p : Pos}
theorem id_range1 (hg : Gl X "range") (hm : X.mg "range" = none) (ha : BD X ct W [a] mB) (hs : starEach [a] X.env = [(false, eval a X.env)] := by rfl) : ID X ct W tg (.Call (.Name "range" p) [a] [] pos) (bnd mB rng1) := by
  obtain ⟨t, pt, r⟩ := ha.ex
  refine ⟨_, pi_range1 hg hm pt hs, fun σ H γ s R0 R h => ?_⟩
  refine r σ H γ s _ R (Out.post.imp (post_bnd h) (fun xs s1 g vs γ1 H1 t1 R1 q1 => ?_) fun _ _ z => z)
  unfold rng1 at g
  split at g
  · rename_i j
    cases q1 with
    | cons q1 q2 =>
      cases q2
      by_cases c : -(2 ^ 62) ≤ j ∧ j < 2 ^ 62
      · rw [ifC_pos c] at g
        exact ⟨j, by rw [rep_int q1], c.1, c.2, g γ1 H1 _ t1 R1 walkD_range⟩
      · rw [ifC_neg c] at g; exact False.elim g
  · exact False.elim g
theorem id_range2 (hg : Gl X "range") (hm : X.mg "range" = none) (ha : BD X ct W [a, b] mB) (hs : starEach [a, b] X.env = [(false, eval a X.env), (false, eval b X.env)] := by rfl) (hs2 : starEach [b] X.env = [(false, eval b X.env)] := by rfl) : ID X ct W tg (.Call (.Name "range" p) [a, b] [] pos) (bnd mB rng2) := by
  obtain ⟨t, pt, r⟩ := ha.ex
  refine ⟨_, pi_range2 hg hm pt hs hs2, fun σ H γ s R0 R h => ?_⟩
  refine r σ H γ s _ R (Out.post.imp (post_bnd h) (fun xs s1 g vs γ1 H1 t1 R1 q1 => ?_) fun _ _ z => z)
  unfold rng2 at g
  split at g
  · rename_i i j
    cases q1 with
    | cons q1 q2 =>
      cases q2 with
      | cons q2 q3 =>
        cases q3
        by_cases c : -(2 ^ 62) ≤ i ∧ i < 2 ^ 62 ∧ -(2 ^ 62) ≤ j ∧ j < 2 ^ 62
        · rw [ifC_pos c] at g
          exact ⟨i, j, by rw [rep_int q1, rep_int q2], c, g γ1 H1 _ t1 R1 walkD_range⟩
        · rw [ifC_neg c] at g; exact False.elim g
  · exact False.elim g
/-! ## for -/
open Classical in
noncomputable def forL (ok : S → Prop) (f : SV → M Unit) (body : M Fl) : List SV → M Fl
  | [] => fun s => if ok s then .ok .nx s else .bad
  | x :: xs => fun s => if ok s then match f x s with
    | .ok _ s1 => match body s1 with
      | .ok .nx s2 => forL ok f body xs s2
      | .ok .ct s2 => forL ok f body xs s2
      | .ok .bk s2 => .ok .nx s2
      | .ok (.rt r) s2 => .ok (.rt r) s2
      | .exc x s2 => .exc x s2
      | .bad => .bad
    | _ => .bad
    else .bad
noncomputable def forF (mi : M Src) (f : SV → M Unit) (body : M Fl) : M Fl := bnd mi fun src => forL src.Ok f body src.items
theorem sd_for {it : Expr} {mi : M Src} {f : SV → M Unit} {body : List Stmt} {mb : M Fl} (hp : PassesOwn (model X.prog X.w) X.A X.env X.xe) (hc : X.calm = true) (hi : ID X ct W tg it mi) {is : List Nat} (hg : GD X ct tg is f) (hb : SDs X ct W body mb)
    (hs : ∀ x, foldedSetIterable it X.env x = pure x := by intro _; rfl) : SD X ct W (.For tg it body [] pos) (forF mi f mb) := by
  obtain ⟨wi, pi, ri⟩ := hi.ex
  obtain ⟨tg', pg, rg⟩ := hg.ex
  obtain ⟨tb, pb, rb⟩ := hb.ex
  refine ⟨_, ps_for hp hc pi pg pb hs, fun N σ H γ s R h => ?_⟩
  refine ri σ H γ s _ R (Out.post.imp (post_bnd h) (fun src s1 g γ1 H1 J t1 R1 wd => ?_) fun _ _ z => z.at)
  obtain ⟨Gd, Y, wk, hG, hY⟩ := wd.ex
  refine for_it wk (fun i σ2 H2 => ∃ γ2 s2, Step γ1 γ2 s1 s2 H1 H2 ∧ Rep X.K ct γ2 H2 σ2 s2 ∧ (forL src.Ok f mb (src.items.drop i) s2).post (GoodF X.K ct γ s H N) (GoodXS X.K ct W γ s H)) ⟨γ1, s1, Step.refl, R1, by rw [List.drop_zero]; exact g⟩ ?_ ?_ ?_
  · rintro i σ2 H2 hi ⟨γ2, s2, t2, R2, g2⟩
    refine hG γ2 s2 H2 σ2 t2 R2 ?_
    cases e : src.items.drop i with
    | nil =>
      rw [e] at g2
      by_cases c : src.Ok s2
      · exact c
      · unfold forL at g2; rw [if_neg c] at g2; exact False.elim g2
    | cons y ys =>
      rw [e] at g2
      by_cases c : src.Ok s2
      · exact c
      · unfold forL at g2; rw [if_neg c] at g2; exact False.elim g2
  · rintro i x σ2 H2 H3 hi ⟨γ2, s2, t2, R2, g2⟩ y
    rw [List.drop_eq_getElem_cons hi] at g2
    unfold forL at g2
    by_cases c : src.Ok s2
    · rw [if_pos c] at g2
      obtain ⟨sm, rx⟩ := hY i γ2 s2 H2 σ2 x H3 src.items[i] t2 R2 c (by simp [hi]) y
      have R3 := R2.kept sm
      have t3 : Step γ2 γ2 s2 s2 H2 H3 := step_same sm
      refine rg σ2 H3 γ2 s2 x _ _ R3 rx ?_
      cases e1 : f src.items[i] s2 with
      | bad => rw [e1] at g2; exact False.elim g2
      | exc z s3 => rw [e1] at g2; exact False.elim g2
      | ok u s3 =>
        rw [e1] at g2
        intro σ4 γ4 H4 t4 R4 _ _
        refine rb _ σ4 H4 γ4 s3 R4 ?_
        have tt : Step γ1 γ4 s1 s3 H1 H4 := (t2.trans t3).trans t4
        have tt0 : Step γ γ4 s s3 H H4 := t1.trans tt
        unfold GoodS
        dsimp only at g2
        cases e2 : mb s3 with
        | bad => rw [e2] at g2; exact g2
        | exc z s5 => rw [e2] at g2; exact GoodXS.step tt0 g2
        | ok fl s5 =>
          rw [e2] at g2
          cases fl with
          | nx => exact fun σ5 γ5 H5 t5 R5 => ⟨γ5, s5, tt.trans t5, R5, g2⟩
          | ct => exact fun σ5 γ5 H5 t5 R5 => ⟨γ5, s5, tt.trans t5, R5, g2⟩
          | bk => exact fun σ5 γ5 H5 t5 R5 => g2 σ5 γ5 H5 (tt0.trans t5) R5
          | rt r => exact fun v σ5 γ5 H5 t5 R5 q5 => g2 v σ5 γ5 H5 (tt0.trans t5) R5 (q5.base tt0.there)
    · rw [if_neg c] at g2; exact False.elim g2
  · rintro σ2 H2 ⟨γ2, s2, t2, R2, g2⟩
    rw [List.drop_length] at g2
    unfold forL at g2
    by_cases c : src.Ok s2
    · rw [if_pos c] at g2
      exact g2 σ2 γ2 H2 (t1.trans t2) R2
    · rw [if_neg c] at g2; exact False.elim g2
/-! ## a, b = e1, e2 -/
def parF (i j : Nat) (mA : M (List SV)) : M Fl := bnd mA fun xs s => match xs with
  | [x, y] => .ok .nx { s with env := (s.env.set i (some x)).set j (some y) }
  | _ => .bad
theorem sd_par {i j : Nat} {x y : Str} {px py pt : Pos} {kt k2 pt2} {mA : M (List SV)} (hc : X.calm = true) (hN : X.N.Nodup) (hi : X.N[i]? = some x) (hj : X.N[j]? = some y) (hij : i ≠ j)
    (hx : X.env.scope.names.lookup x = some .local) (hy : X.env.scope.names.lookup y = some .local) (ha : AD X ct W [a, b] mA)
    (hw : swappedStores [.Tuple [.Name x px, .Name y py] kt pt] (.Tuple [a, b] k2 pt2) X.env = pure (some [x, y]))
    (hs : swapsWithSole [.Tuple [.Name x px, .Name y py] kt pt] (.Tuple [a, b] k2 pt2) pos.line X.env = pure false := by rfl) :
    SD X ct W (.Assign [.Tuple [.Name x px, .Name y py] kt pt] (.Tuple [a, b] k2 pt2) pos) (parF i j mA) := by
  obtain ⟨t, pt', r⟩ := ha.ex
  refine ⟨_, ps_par hc hN hi hj hij hx hy pt' hw hs, fun N σ H γ s R h => ?_⟩
  refine r σ H γ s _ R (use_a h (fun _ _ z => z.at) fun xs s1 vs γ1 H1 t1 R1 q1 g => ?_)
  cases q1 with
  | nil => exact False.elim g
  | cons q1 q2 =>
    cases q2 with
    | nil => exact False.elim g
    | cons q2 q3 =>
      cases q3 with
      | cons _ _ => exact False.elim g
      | nil => exact ⟨_, _, rfl, g _ γ1 H1 (t1.trans step_env) (rep_set (rep_set R1 q1) q2)⟩
/-! ## while -/
def whileL (tc : M Bool) (body : M Fl) : Nat → M Fl
  | 0 => stuck
  | n + 1 => fun s => match tc s with
    | .ok true s1 => match body s1 with
      | .ok .nx s2 => whileL tc body n s2
      | .ok .ct s2 => whileL tc body n s2
      | .ok .bk s2 => .ok .nx s2
      | .ok (.rt r) s2 => .ok (.rt r) s2
      | .exc x s2 => .exc x s2
      | .bad => .bad
    | .ok false s1 => .ok .nx s1
    | .exc x s1 => .exc x s1
    | .bad => .bad
end
end Fd
set_option Elab.async false
set_option linter.all false
set_option maxRecDepth 100000
set_option maxHeartbeats 4000000
namespace Fd
open PySem PySem.Spec PyProof.Rows L2
section
variable {X : Cx} {ct : Nat → Addr} {W : WX} {pos : Pos} {a b e tg : Expr} {ma mb m : M RV} {es : List Expr}
/-! ## while -/
theorem sd_while {c : Expr} {body : List Stmt} {tc : M Bool} {mb : M Fl} (n : Nat) (hp : PassesOwn (model X.prog X.w) X.A X.env X.xe) (hc : TD X ct W c tc) (hb : SDs X ct W body mb) : SD X ct W (.While c body [] pos) (whileL tc mb n) := by
  obtain ⟨t, pt, r⟩ := hc.ex
  obtain ⟨tb, pb, rb⟩ := hb.ex
  refine ⟨_, ps_while hp pt pb, fun N σ H γ s R h => ?_⟩
  refine ⟨fun k σ1 H1 => ∃ γ1 s1, Step γ γ1 s s1 H H1 ∧ Rep X.K ct γ1 H1 σ1 s1 ∧ GoodS X.K ct W γ s H (whileL tc mb k s1) N, ⟨n, γ, s, Step.refl, R, h⟩, ?_⟩
  rintro k σ1 H1 ⟨γ1, s1, t1, R1, g⟩
  cases k with
  | zero => exact False.elim g
  | succ k =>
    unfold whileL at g
    refine r σ1 H1 γ1 s1 _ R1 ?_
    unfold GoodT
    cases e1 : tc s1 with
    | bad => simp only [e1] at g; exact g
    | exc z s2 => simp only [e1] at g; exact (GoodXS.step t1 g).at
    | ok bb s2 =>
      simp only [e1] at g
      intro γ2 H2 t2 R2
      have tt := t1.trans t2
      cases bb with
      | false => exact g σ1 γ2 H2 tt R2
      | true =>
        rw [if_pos rfl]
        refine ⟨fun σ' H' => ∃ γ3 s3, Step γ γ3 s s3 H H' ∧ Rep X.K ct γ3 H' σ' s3 ∧ GoodS X.K ct W γ s H (whileL tc mb k s3) N, fun σ' H' q => ⟨k, Nat.lt_succ_self k, q⟩, ?_⟩
        refine rb _ σ1 H2 γ2 s2 R2 ?_
        unfold GoodS
        dsimp only at g
        cases e2 : mb s2 with
        | bad => rw [e2] at g; exact g
        | exc z s5 => rw [e2] at g; exact GoodXS.step tt g
        | ok fl s5 =>
          rw [e2] at g
          cases fl with
          | nx => exact fun σ5 γ5 H5 t5 R5 => ⟨γ5, s5, tt.trans t5, R5, g⟩
          | ct => exact fun σ5 γ5 H5 t5 R5 => ⟨γ5, s5, tt.trans t5, R5, g⟩
          | bk => exact fun σ5 γ5 H5 t5 R5 => g σ5 γ5 H5 (tt.trans t5) R5
          | rt r => exact fun v σ5 γ5 H5 t5 R5 q5 => g v σ5 γ5 H5 (tt.trans t5) R5 (q5.base tt.there)
/-! ## canonical readings -/
end
def tmE (K : PySem.W.Frag) (ct : Nat → Addr) (W : WX) (m : M RV) : TE := fun σ H Q => ∃ γ s, Rep K ct γ H σ s ∧ Good K ct W σ γ s H (m s) Q
def tmT (K : PySem.W.Frag) (ct : Nat → Addr) (W : WX) (m : M Bool) : TT := fun σ H Q => ∃ γ s, Rep K ct γ H σ s ∧ GoodT K ct W σ γ s H (m s) Q
def tmG (K : PySem.W.Frag) (ct : Nat → Addr) (is : List Nat) (f : SV → M Unit) : TG := fun v σ H Q => ∃ γ s x, Rep K ct γ H σ s ∧ RepS K ct γ s.mem.length H v x ∧
  (f x s).post (fun _ s' => ∀ σ' γ' H', Step γ γ' s s' H H' → Rep K ct γ' H' σ' s' → (∀ j, j ∉ is → σ'[j]? = σ[j]?) → σ'.length = σ.length → Q σ' H') (fun _ _ => False)
section
variable {X : Cx} {ct : Nat → Addr} {W : WX} {pos : Pos} {a b e tg : Expr} {ma mb m : M RV} {es : List Expr}
theorem ED.pe (h : ED X ct W e m) : PE X e (tmE X.K ct W m) := by
  obtain ⟨t, p, r⟩ := h.ex
  exact ⟨fun pins s σ H Q I ⟨γ, s', R, g⟩ => p.run pins s σ H Q I (r σ H γ s' Q R g)⟩
theorem TD.pt {m : M Bool} (h : TD X ct W e m) : PT X e (tmT X.K ct W m) := by
  obtain ⟨t, p, r⟩ := h.ex
  exact ⟨fun pins s σ H Q I ⟨γ, s', R, g⟩ => p.run pins s σ H Q I (r σ H γ s' Q R g)⟩
theorem GD.pg {is : List Nat} {f : SV → M Unit} (h : GD X ct e is f) : PG X e (tmG X.K ct is f) := by
  obtain ⟨t, p, r⟩ := h.ex
  exact ⟨fun pins s σ H v u Q I rv ⟨γ, s', x, R, q, g⟩ => p.run pins s σ H v u Q I rv (r σ H γ s' v x Q R q g)⟩
/-! ## [elt for x in it if ..] -/
abbrev WF : WX := fun _ _ _ _ => False
/-- the ifs -/
structure IfsD (X : Cx) (ct : Nat → Addr) (es : List Expr) (m : M Bool) : Prop where
  pts : PTs X es (tmT X.K ct WF m)
theorem ifs_nil : IfsD X ct [] (pur true) := by
  constructor
  have h := pts_nil (X := X)
  exact ⟨fun pins s σ H Q I ⟨γ, s', R, g⟩ => h.run pins s σ H Q I (g γ H Step.refl R)⟩
theorem ifs_one {m : M Bool} (h : TD X ct WF e m) : IfsD X ct [e] m := ⟨pts_one h.pt⟩
def wipeE (env : List (Option SV)) : List Nat → List (Option SV)
  | [] => env
  | v :: vs => (wipeE env vs).set v none
def wipeS (vs : List Nat) (s : S) : S := { s with env := wipeE s.env vs }
theorem wipeE_length (env : List (Option SV)) : ∀ vs, (wipeE env vs).length = env.length
  | [] => rfl
  | v :: vs => by unfold wipeE; rw [List.length_set, wipeE_length env vs]
theorem wipeE_some {env : List (Option SV)} {i : Nat} {x : SV} : ∀ {vs : List Nat}, (wipeE env vs)[i]? = some (some x) → env[i]? = some (some x) ∧ i ∉ vs
  | [], h => ⟨h, by simp⟩
  | v :: vs, h => by
    unfold wipeE at h
    by_cases hi : v = i
    · subst hi
      by_cases hv : v < (wipeE env vs).length
      · rw [List.getElem?_set_self hv] at h; cases h
      · rw [List.getElem?_eq_none (by simpa using hv)] at h; cases h
    · rw [List.getElem?_set_ne hi] at h
      obtain ⟨h1, h2⟩ := wipeE_some h
      exact ⟨h1, by simp only [List.mem_cons, not_or]; exact ⟨fun e => hi e.symm, h2⟩⟩
theorem wipe_out {σ : L2.St} {i : Nat} : ∀ {vs : List Nat}, i ∉ vs → (wipe σ vs)[i]? = σ[i]?
  | [], _ => rfl
  | v :: vs, h => by
    simp only [List.mem_cons, not_or] at h
    unfold wipe
    rw [List.getElem?_set_ne (fun z => h.1 z.symm)]
    exact wipe_out h.2
theorem wipe_in {σ : L2.St} {i : Nat} : ∀ {vs : List Nat}, i ∈ vs → i < σ.length → (wipe σ vs)[i]? = some none
  | [], h, _ => by simp at h
  | v :: vs, h, hl => by
    unfold wipe
    by_cases e : v = i
    · subst e
      exact List.getElem?_set_self (by rw [wipe_length]; exact hl)
    · rw [List.getElem?_set_ne e]
      rcases List.mem_cons.mp h with z | z
      · exact absurd z.symm e
      · exact wipe_in z hl
theorem wipe_eq {σ σ' : L2.St} {vs : List Nat} (hl : σ'.length = σ.length) (h : ∀ j, j ∉ vs → σ'[j]? = σ[j]?) : wipe σ' vs = wipe σ vs := by
  apply List.ext_getElem?
  intro i
  by_cases hi : i ∈ vs
  · by_cases hb : i < σ.length
    · rw [wipe_in hi hb, wipe_in hi (by rw [hl]; exact hb)]
    · rw [List.getElem?_eq_none (by rw [wipe_length]; omega), List.getElem?_eq_none (by rw [wipe_length]; omega)]
  · rw [wipe_out hi, wipe_out hi, h i hi]
theorem rep_wipe {K : PySem.W.Frag} {γ : G} {s : S} {H : Hp} {σ : L2.St} {vs : List Nat} (R : Rep K ct γ H σ s) : Rep K ct γ H (wipe σ vs) (wipeS vs s) := by
  refine ⟨by rw [wipe_length]; show σ.length = (wipeE s.env vs).length; rw [wipeE_length]; exact R.len, fun i x e => ?_, R.mem, R.inj, R.hd, R.hdk⟩
  obtain ⟨h1, h2⟩ := wipeE_some (show (wipeE s.env vs)[i]? = some (some x) from e)
  obtain ⟨v, q, r⟩ := R.env i x h1
  exact ⟨v, by rw [wipe_out h2]; exact q, r⟩
theorem rep_unwipe {K : PySem.W.Frag} {γ : G} {s : S} {H : Hp} {σ : L2.St} {vs : List Nat} (R : Rep K ct γ H (wipe σ vs) s) : Rep K ct γ H σ s := by
  refine ⟨by rw [← R.len, wipe_length], fun i x e => ?_, R.mem, R.inj, R.hd, R.hdk⟩
  obtain ⟨v, q, r⟩ := R.env i x e
  exact ⟨v, (wipe_some q).1, r⟩
theorem step_wipe {γ : G} {s : S} {H : Hp} {vs : List Nat} : Step γ γ s (wipeS vs s) H H := step_env
open Classical in
noncomputable def lcL (ok : S → Prop) (vs : List Nat) (f : SV → M Unit) (tt : M Bool) (me : M RV) : List SV → List SV → M RV
  | [], acc => fun s => if ok s then .ok (.new acc) s else .bad
  | x :: xs, acc => fun s => if ok s then match f x s with
    | .ok _ s1 => match tt s1 with
      | .ok true s2 => match me s2 with
        | .ok (.sv y) s3 => if acc.length < 100000 then lcL ok vs f tt me xs (acc ++ [y]) (wipeS vs s3) else .bad
        | _ => .bad
      | .ok false s2 => lcL ok vs f tt me xs acc (wipeS vs s2)
      | _ => .bad
    | _ => .bad
    else .bad
noncomputable def lcM (mi : M Src) (vs : List Nat) (f : SV → M Unit) (tt : M Bool) (me : M RV) : M RV := bnd mi fun src s => lcL src.Ok vs f tt me src.items [] (wipeS vs s)
theorem lc_sem {K : PySem.W.Frag} {wi : TI} {mi : M Src} {is vs : List Nat} {f : SV → M Unit} {mt : M Bool} {me : M RV}
    (ri : ∀ σ H γ s (R : It → Hp → Prop), Rep K ct γ H σ s → (mi s).post (fun src s' => ∀ γ' H' J, Step γ γ' s s' H H' → Rep K ct γ' H' σ s' → WalkD K ct J src γ' s' H' → R J H') (GoodX K ct W σ γ s H) → wi σ H R)
    (hv : ∀ j ∈ is, j ∈ vs) {σ : L2.St} {H : Hp} {γ : G} {s : S} {Q : VK} (R : Rep K ct γ H σ s) (h : Good K ct W σ γ s H (lcM mi vs f mt me s) Q) :
    tLc wi (tmG K ct is f) (tmT K ct WF mt) (tmE K ct WF me) vs σ H Q := by
  refine ri σ H γ s _ R (Out.post.imp (post_bnd h) (fun src s1 g γ1 H1 J t1 R1 wd => ?_) fun _ _ z => z)
  intro Dl hD
  obtain ⟨Gd, Y, wk, hG, hY⟩ := wd.ex
  have nfree : H Dl = none := free_of t1.there hD
  refine lc_it wk (fun i H2 => ∃ γ2 s2 acc avs, Step γ1 γ2 s1 s2 H1 H2 ∧ Rep K ct γ2 H2 (wipe σ vs) s2 ∧ H2 Dl = some (.lst avs) ∧ ¬ Own γ2 s2 Dl ∧ Paired (RepS K ct γ2 s2.mem.length H2) avs acc ∧ Good K ct W σ γ s H (lcL src.Ok vs f mt me (src.items.drop i) acc s2) Q) ?_ ?_ ?_ ?_
  · refine ⟨γ1, wipeS vs s1, [], [], step_wipe.trans (Step.laid hD), rep_wipe (R1.laid hD), upd_same, R1.notOwn_free hD, .nil, ?_⟩
    rw [List.drop_zero]
    exact g
  · rintro i H2 hi ⟨γ2, s2, acc, avs, t2, R2, _, _, _, g2⟩
    refine hG γ2 s2 H2 _ t2 R2 ?_
    cases e : src.items.drop i with
    | nil =>
      rw [e] at g2
      by_cases c : src.Ok s2
      · exact c
      · unfold lcL at g2; rw [if_neg c] at g2; exact False.elim g2
    | cons y ys =>
      rw [e] at g2
      by_cases c : src.Ok s2
      · exact c
      · unfold lcL at g2; rw [if_neg c] at g2; exact False.elim g2
  · rintro i x H2 H3 hi ⟨γ2, s2, acc, avs, t2, R2, eD, nD, pa, g2⟩ y
    rw [List.drop_eq_getElem_cons hi] at g2
    unfold lcL at g2
    by_cases c : src.Ok s2
    · rw [if_pos c] at g2
      obtain ⟨sm, rx⟩ := hY i γ2 s2 H2 _ x H3 src.items[i] t2 R2 c (by simp [hi]) y
      have R3 := R2.kept sm
      have t3 : Step γ2 γ2 s2 s2 H2 H3 := step_same sm
      refine ⟨γ2, s2, _, R3, rx, ?_⟩
      cases e1 : f src.items[i] s2 with
      | bad => rw [e1] at g2; exact False.elim g2
      | exc z s3 => rw [e1] at g2; exact False.elim g2
      | ok u s3 =>
        rw [e1] at g2
        try dsimp only at g2
        intro σ4 γ4 H4 t4 R4 a4 l4
        have wq : wipe σ4 vs = wipe σ vs := by
          have e1 : wipe σ4 vs = wipe (wipe σ vs) vs := wipe_eq l4 fun j hj => a4 j fun z => hj (hv j z)
          rw [e1]
          exact wipe_eq (by rw [wipe_length]) fun j hj => wipe_out hj
        refine ⟨wq, ?_⟩
        refine ⟨γ4, s3, R4, ?_⟩
        have tt : Step γ1 γ4 s1 s3 H1 H4 := (t2.trans t3).trans t4
        have stay : ∀ {γa γb sa sb Ha Hb}, Step γa γb sa sb Ha Hb → (∃ av, Ha Dl = some (.lst av) ∧ ¬ Own γa sa Dl) → ∀ av, Ha Dl = some (.lst av) → Hb Dl = some (.lst av) ∧ ¬ Own γb sb Dl := fun {γa γb sa sb Ha Hb} st ⟨_, _, n⟩ av e => by
          refine ⟨st.keep _ _ e n, fun z => ?_⟩
          rcases st.own _ z with q | q
          · exact n q
          · rw [e] at q; cases q
        obtain ⟨e4, n4⟩ := stay (t3.trans t4) ⟨avs, eD, nD⟩ avs eD
        have pa4 := RepSs.mono (t3.trans t4) pa
        unfold GoodT
        cases e2 : mt s3 with
        | bad => rw [e2] at g2; exact False.elim g2
        | exc z s5 => rw [e2] at g2; exact False.elim g2
        | ok bb s5 =>
          rw [e2] at g2
          try dsimp only at g2
          intro γ5 H5 t5 R5
          obtain ⟨e5, n5⟩ := stay t5 ⟨avs, e4, n4⟩ avs e4
          cases bb with
          | false =>
            rw [if_neg (by decide)]
            refine ⟨γ5, wipeS vs s5, acc, avs, (tt.trans t5).trans step_wipe, ?_, e5, n5, RepSs.mono t5 pa4, g2⟩
            rw [← wq]
            exact rep_wipe R5
          | true =>
            rw [if_pos rfl]
            dsimp only at g2
            refine ⟨γ5, s5, R5, ?_⟩
            unfold Good
            cases e3 : me s5 with
            | bad => rw [e3] at g2; exact False.elim g2
            | exc z s6 => rw [e3] at g2; exact False.elim g2
            | ok r s6 =>
              rw [e3] at g2
              try dsimp only at g2
              cases r with
              | new _ => exact False.elim g2
              | sv yv =>
                try dsimp only at g2
                by_cases cl : acc.length < 100000
                · rw [if_pos cl] at g2
                  intro v γ6 H6 t6 R6 q6
                  obtain ⟨e6, n6⟩ := stay t6 ⟨avs, e5, n5⟩ avs e5
                  have pa6 := RepSs.mono t6 (RepSs.mono t5 pa4)
                  refine ⟨avs, e6, by rw [Paired.length pa6]; exact Nat.lt_of_lt_of_le cl (by decide), ?_⟩
                  have ki : KeepI H6 (upd H6 Dl (.lst (avs ++ [v]))) := fun z u ez iz => by
                    rw [upd_ne]
                    · exact ez
                    · rintro rfl; rw [e6] at ez; cases ez; exact iz
                  have ts : Step γ1 γ6 s1 s6 H1 (upd H6 Dl (.lst (avs ++ [v]))) := by
                    have t16 := (tt.trans t5).trans t6
                    refine ⟨fun z u ez nz => ?_, t16.own, fun z u ez iz => ?_, fun z hz => there_upd z (t16.there z hz), t16.kp, t16.len, t16.ah, t16.fresh⟩
                    · rw [upd_ne (ne_of_none ez hD)]; exact t16.keep z u ez nz
                    · rw [upd_ne (ne_of_none ez hD)]; exact t16.imm z u ez iz
                  have m1 : ∀ {v x}, RepS K ct γ6 s6.mem.length H6 v x → RepS K ct γ6 s6.mem.length (upd H6 Dl (.lst (avs ++ [v]))) v x := fun {v x} r => by
                    cases x with
                    | dat d => exact RepD.mono (fun z u ez iz => by
                        rw [upd_ne]
                        · exact ez
                        · rintro rfl; rw [e6] at ez; cases ez; exact iz) r
                    | ref k => exact r
                    | hand => exact r
                  have m2 : ∀ (nl : List V) {v x}, RepS K ct γ6 s6.mem.length H6 v x → RepS K ct γ6 s6.mem.length (upd H6 Dl (.lst nl)) v x := fun nl {v x} r => by
                    cases x with
                    | dat d => exact RepD.mono (fun z u ez iz => by
                        rw [upd_ne]
                        · exact ez
                        · rintro rfl; rw [e6] at ez; cases ez; exact iz) r
                    | ref k => exact r
                    | hand => exact r
                  have R7 : Rep K ct γ6 (upd H6 Dl (.lst (avs ++ [v]))) σ4 s6 := by
                    refine ⟨R6.len, fun i x ex => ?_, fun k xs ex => ?_, R6.inj, fun h ex => ?_, R6.hdk⟩
                    · obtain ⟨v, q, r⟩ := R6.env i x ex
                      exact ⟨v, q, m2 _ r⟩
                    · obtain ⟨us, q, r⟩ := R6.mem k xs ex
                      refine ⟨us, ?_, Paired.mapP r fun _ _ z => m2 _ z⟩
                      rw [upd_ne]
                      · exact q
                      · rintro rfl; exact n6 (.inl ⟨k, ⟨xs, ex⟩, rfl⟩)
                    · refine RepHd.mono (fun b u q hb => ?_) (fun z u ez iz => by
                        rw [upd_ne]
                        · exact ez
                        · rintro rfl; rw [e6] at ez; cases ez; exact iz) (R6.hd h ex)
                      rw [upd_ne]
                      · exact q
                      · rintro rfl; exact n6 (.inr ⟨by rw [ex]; exact (fun z => by cases z), hb⟩)
                  refine ⟨γ6, wipeS vs s6, acc ++ [yv], avs ++ [v], ts.trans step_wipe, ?_, upd_same, n6, ?_, g2⟩
                  · rw [← wq]
                    exact rep_wipe R7
                  · exact RepDs.appendS (Paired.mapP pa6 fun _ _ z => m2 _ z) (.cons (m2 _ q6) .nil)
                · rw [if_neg cl] at g2; exact False.elim g2
    · rw [if_neg c] at g2; exact False.elim g2
  · rintro H2 ⟨γ2, s2, acc, avs, t2, R2, eD, nD, pa, g2⟩
    rw [List.drop_length] at g2
    unfold lcL at g2
    by_cases c : src.Ok s2
    · rw [if_pos c] at g2
      exact g2 _ γ2 H2 (t1.trans t2) (rep_unwipe R2) ⟨Dl, avs, rfl, nfree, eD, nD, pa⟩
    · rw [if_neg c] at g2; exact False.elim g2
theorem ed_lc {elt it : Expr} {ifs : List Expr} {scope : Scope} {own : List (Str × Nat)} {mi : M Src} {is : List Nat} {f : SV → M Unit} {mt : M Bool} {me : M RV} (hc : X.calm = true) (hN : X.N.Nodup) (hi : ID X ct W tg it mi) (ok : BlkOk X.N X.env.scope scope own) (hv : ∀ j ∈ is, j ∈ own.map (·.2))
    (hg : ∀ (s : Shared) (H : Hp) (C : Addr) (cl : List (Str × Addr)) (fp : List Addr), GD (X.blk s H scope (compEnvC scope cl C X.env) fp) ct tg is f) (ht : ∀ (s : Shared) (H : Hp) (C : Addr) (cl : List (Str × Addr)) (fp : List Addr), IfsD (X.blk s H scope (compEnvC scope cl C X.env) fp) ct ifs mt)
    (he : ∀ (s : Shared) (H : Hp) (C : Addr) (cl : List (Str × Addr)) (fp : List Addr), ED (X.blk s H scope (compEnvC scope cl C X.env) fp) ct WF elt me) (hs : ∀ x, foldedSetIterable it X.env x = pure x := by intro _; rfl) :
    ED X ct W (.ListComp elt [⟨tg, it, ifs, 0⟩] scope pos) (lcM mi (own.map (·.2)) f mt me) := by
  obtain ⟨wi, pi, ri⟩ := hi.ex
  refine ⟨_, pe_lc hc hN pi ok (fun s H C cl fp => (hg s H C cl fp).pg) (fun s H C cl fp => (ht s H C cl fp).pts) (fun s H C cl fp => (he s H C cl fp).pe) hs, fun σ H γ s Q R h => lc_sem ri hv R h⟩
end
end Fd
set_option Elab.async false
set_option linter.all false
set_option maxRecDepth 100000
set_option maxHeartbeats 4000000
namespace Fd
open PySem PySem.Spec PyProof.Rows L2
/-! ## defs -/
def datsR (xs : List SV) : Option Rs := match datL xs with
  | some ds => some (.new ds)
  | none => none
def resV (s : S) : RV → Option Rs
  | .sv (.dat d) => some (.dat d)
  | .sv (.ref k) => match s.mem[k]? with
    | some (some xs) => datsR xs
    | _ => none
  | .sv .hand => none
  | .new xs => datsR xs
def resP : Out Fl → Res
  | .ok .nx _ => .ret (.dat .non)
  | .ok (.rt r) s => match resV s r with
    | some x => .ret x
    | none => .bad
  | .ok _ _ => .bad
  | .exc x _ => .exc x
  | .bad => .bad
def startP (n : Nat) (ds : List D) : S := ⟨ds.map (fun d => some (.dat d)) ++ List.replicate (n - ds.length) none, [], none⟩
def runP (n : Nat) (m : M Fl) (ds : List D) : Res := resP (m (startP n ds))
def startH (n : Nat) (xs : List SV) (h : Hand) : S := ⟨xs.map some ++ List.replicate (n - xs.length) none, [], some h⟩
def runH (n : Nat) (m : M Fl) (xs : List SV) (h : Hand) : Res × Hand := match m (startH n xs h) with
  | .ok f s => match s.hd with
    | some (.hand h') => (resP (.ok f s), h')
    | _ => (.bad, h)
  | _ => (.bad, h)
section
variable {K : PySem.W.Frag} {ct : Nat → Addr}
theorem start_rep {N : List Str} {H : Hp} {vs : List V} {xs : List SV} {γ : G} {hd : Option Hd} (h : Paired (RepS K ct γ 0 H) vs xs) (hh : ∀ h, hd = some h → RepHd K ct γ H h) : Rep K ct γ H (L2.start N vs) ⟨xs.map some ++ List.replicate (N.length - xs.length) none, [], hd⟩ := by
  have hl := Paired.length h
  refine ⟨by simp [L2.start, hl], fun i x e => ?_, fun k ys e => by simp at e, fun j k lj => by obtain ⟨ys, e⟩ := lj; simp at e, hh, fun _ k lk => by obtain ⟨ys, e⟩ := lk; simp at e⟩
  have e' : (xs.map some ++ List.replicate (N.length - xs.length) none)[i]? = some (some x) := e
  by_cases hi : i < xs.length
  · rw [List.getElem?_append_left (by simpa using hi), List.getElem?_map] at e'
    cases h2 : xs[i]? with
    | none => rw [h2] at e'; cases e'
    | some y =>
      rw [h2] at e'
      cases e'
      obtain ⟨v, q, r⟩ := paired_get h h2
      refine ⟨v, ?_, r⟩
      unfold L2.start
      rw [List.getElem?_append_left (by rw [List.length_map, hl]; exact hi), List.getElem?_map, q]
      rfl
  · rw [List.getElem?_append_right (by simpa using hi), List.getElem?_replicate] at e'
    split at e' <;> cases e'
theorem datsR_rep {γ : G} {n : Nat} {H0 H : Hp} {a : Addr} {vs : List V} {xs : List SV} {r : Rs} (e : datsR xs = some r) (e0 : H0 a = none) (ea : H a = some (.lst vs)) (p : Paired (RepS K ct γ n H) vs xs) : RepRes K ct H0 H (.ref a) r := by
  unfold datsR at e
  cases h : datL xs with
  | none => rw [h] at e; cases e
  | some ds => rw [h] at e; cases e; exact ⟨a, vs, rfl, e0, ea, datL_rep h p⟩
theorem resV_rep {γ γ0 : G} {s s0 : S} {H0 H : Hp} {σ : L2.St} {v : V} {r : RV} {x : Rs} (e : resV s r = some x) (t : Step γ0 γ s0 s H0 H) (h0 : s0.mem = []) (R : Rep K ct γ H σ s) (q : RepR K ct γ s H0 H v r) : RepRes K ct H0 H v x := by
  cases r with
  | new xs =>
    obtain ⟨a, vs, rfl, e0, ea, _, p⟩ := q
    exact datsR_rep e e0 ea p
  | sv y =>
    cases y with
    | hand => cases e
    | dat d => cases e; exact q
    | ref k =>
      unfold resV at e
      cases h : s.mem[k]? with
      | none => simp only [h] at e; cases e
      | some o =>
        cases o with
        | none => simp only [h] at e; cases e
        | some xs =>
          simp only [h] at e
          have q' : k < s.mem.length ∧ v = .ref (γ.kp k) := q
          obtain ⟨hk, rfl⟩ := q'
          obtain ⟨vs, ek, p⟩ := R.mem k xs h
          exact datsR_rep e (t.fresh k (by rw [h0]; exact Nat.zero_le _) hk) ek p
end
section
variable {P : Program} {w : World} {K : PySem.W.Frag} {mg : Str → Option Value} {base : Heap} {x qual : Str} {params : Arguments} {body : List Stmt} {scope : Scope} {dvs : List V} {kws : List (Str × V)} {f : Addr} {fd : FuncData} {N ps : List Str} {k : Nat} {ct : Nat → Addr} {m : M Fl}
/-- THE RULE for a def without the hand -/
theorem fnP (F : FunD K x qual params body scope dvs kws f fd) (S : FnScope N ps scope)
    (hb : ∀ (cdv : Value) (A : Around) (outer : List Env) (s : Shared) (H : Hp) (E : XK), Room k (A.deeper (envOfC qual scope s.heap.objs.size f cdv)) →
      SDs (cxOf (L2.CX P w) P w K mg base N qual scope f cdv A outer s H E) ct (fun cls d _ H => E cls d H) body m) : FnOk P w K mg base (L2.CX P w) (k + 1) f fd ps (spP K ct ps.length (runP N.length m)) := by
  refine F.ok S (fun vs H Q E h => h.1) fun cdv A outer s H vs Q E hr h => ?_
  obtain ⟨hl, ds, rp, g⟩ := h
  obtain ⟨t, p, r⟩ := (hb cdv A outer s H E hr).ex
  refine ⟨t, p, ?_⟩
  let γ0 : G := ⟨fun _ => 0, 0, 0⟩
  have R0 : Rep K ct γ0 H (L2.start N vs) (startP N.length ds) := by
    have := start_rep (N := N) (K := K) (ct := ct) (γ := γ0) (hd := none) (rep_map (γ := γ0) (n := 0) rp) (fun h e => by cases e)
    simpa [startP, List.map_map, Function.comp_def] using this
  refine r _ _ _ γ0 _ R0 ?_
  have noOwn : ∀ a, ¬ Own γ0 (startP N.length ds) a := fun a z => by
    rcases z with ⟨j, ⟨ys, e⟩, _⟩ | ⟨z, _⟩
    · simp [startP] at e
    · exact z rfl
  have same : ∀ {γ' s' H'}, Step γ0 γ' (startP N.length ds) s' H H' → Same H H' := fun st a o e => st.keep a o e (noOwn a)
  unfold runP at g
  unfold GoodS
  cases e1 : m (startP N.length ds) with
  | bad => rw [e1] at g; exact g
  | exc y s1 =>
    rw [e1] at g
    exact fun cl d σ' γ' H' st R' q => g cl d H' (same st) q
  | ok fl s1 =>
    rw [e1] at g
    cases fl with
    | nx => exact fun σ' γ' H' st R' => g .non H' (same st) RepD.non
    | bk => exact False.elim g
    | ct => exact False.elim g
    | rt rr =>
      intro v σ' γ' H' st R' q
      unfold resP at g
      cases e2 : resV s1 rr with
      | none => simp only [e2] at g; exact False.elim g
      | some z => simp only [e2] at g; exact g v H' (same st) (resV_rep e2 st rfl R' q)
/-- .. with the hand -/
theorem fnH (F : FunD K x qual params body scope dvs kws f fd) (S : FnScope N ps scope)
    (hb : ∀ (cdv : Value) (A : Around) (outer : List Env) (s : Shared) (H : Hp) (E : XK), Room k (A.deeper (envOfC qual scope s.heap.objs.size f cdv)) →
      SDs (cxOf (L2.CX P w) P w K mg base N qual scope f cdv A outer s H E) ct (fun cls d _ H => E cls d H) body m) : FnOk P w K mg base (L2.CX P w) (k + 1) f fd ps (spH K ct ps.length (runH N.length m)) := by
  refine F.ok S (fun vs H Q E h => h.1) fun cdv A outer s H vs Q E hr h => ?_
  obtain ⟨hl, ah, g0, h0, xs, hh, rp, gd⟩ := h
  obtain ⟨t, p, r⟩ := (hb cdv A outer s H E hr).ex
  refine ⟨t, p, ?_⟩
  let γ0 : G := ⟨fun _ => 0, ah, g0⟩
  have rp' : Paired (RepS K ct γ0 0 H) vs xs := Paired.mapP rp fun v y q => by
    cases y with
    | dat d => exact q
    | hand => exact q
    | ref k => exact False.elim q
  have R0 : Rep K ct γ0 H (L2.start N vs) (startH N.length xs h0) := start_rep rp' fun h e => by cases e; exact hh
  refine r _ _ _ γ0 _ R0 ?_
  have own0 : ∀ a, Own γ0 (startH N.length xs h0) a → a = ah ∨ a = g0 := fun a z => by
    rcases z with ⟨j, ⟨ys, e⟩, _⟩ | ⟨_, z⟩
    · simp [startH] at e
    · exact z
  unfold runH at gd
  unfold GoodS
  have fin : ∀ {γ' : G} {s1 : Fd.S} {H' : Hp} {σ' : L2.St} {v : V} {rr : Rs} {h' : Hand}, s1.hd = some (.hand h') → GoodH K ct ah g0 H (.ret rr, h') Q → Step γ0 γ' (startH N.length xs h0) s1 H H' → Rep K ct γ' H' σ' s1 → RepRes K ct H H' v rr → (∀ ds, rr = .new ds → ∃ a, v = .ref a ∧ (a ≠ γ'.g)) → Q v H' := by
    intro γ' s1 H' σ' v rr h' eh g st R' q nv
    have hA : HandAt γ' H' h' := R'.hd _ eh
    have nn : s1.hd ≠ none := by rw [eh]; exact fun z => by cases z
    refine g v H' γ'.g (fun a o e n1 n2 => st.keep a o e fun z => (own0 a z).elim n1 n2) st.there (by have := st.ah; exact ⟨by have h1 := hA.1; rw [st.ah] at h1; exact h1, hA.2⟩) ?_ q ?_
    · rcases st.own γ'.g (.inr ⟨nn, .inr rfl⟩) with z | z
      · rcases own0 _ z with z | z
        · exfalso
          have h1 := hA.1
          rw [st.ah] at h1
          have h2 := hA.2
          rw [z] at h2
          have h1' : H' ah = some (.lst [.ref γ'.g, .int h'.mixed, .int h'.cnt]) := h1
          rw [h1'] at h2
          have := HO.lst.inj (Option.some.inj h2)
          cases hg : h'.great with
          | nil => rw [hg] at this; cases this
          | cons i l => rw [hg] at this; cases this
        · exact .inl z
      · exact .inr z
    · intro ds e z
      obtain ⟨a, e1, e2⟩ := nv ds e
      rw [e1] at z
      exact e2 (V.ref.inj z)
  cases e1 : m (startH N.length xs h0) with
  | bad => rw [e1] at gd; exact False.elim gd
  | exc y s1 => rw [e1] at gd; exact False.elim gd
  | ok fl s1 =>
    rw [e1] at gd
    dsimp only at gd
    cases eh : s1.hd with
    | none => rw [eh] at gd; exact False.elim gd
    | some hd0 =>
      cases hd0 with
      | me c0 ds0 => rw [eh] at gd; exact False.elim gd
      | hand h' =>
      rw [eh] at gd
      dsimp only at gd
      cases fl with
      | nx => exact fun σ' γ' H' st R' => fin eh gd st R' RepD.non fun ds e => by cases e
      | bk => exact False.elim gd
      | ct => exact False.elim gd
      | rt rr =>
        intro v σ' γ' H' st R' q
        unfold resP at gd
        cases e2 : resV s1 rr with
        | none => simp only [e2] at gd; exact False.elim gd
        | some z =>
          simp only [e2] at gd
          refine fin eh gd st R' (resV_rep e2 st rfl R' q) fun ds e => ?_
          subst e
          have nn : s1.hd ≠ none := by rw [eh]; exact fun z => by cases z
          cases rr with
          | new ys =>
            obtain ⟨a, vs, rfl, e0, ea, na, _⟩ := q
            exact ⟨a, rfl, fun z => na (.inr ⟨nn, .inr z⟩)⟩
          | sv y =>
            cases y with
            | hand => cases e2
            | dat d => cases e2
            | ref k =>
              have q' : k < s1.mem.length ∧ v = .ref (γ'.kp k) := q
              refine ⟨_, q'.2, ?_⟩
              unfold resV at e2
              cases h : s1.mem[k]? with
              | none => simp only [h] at e2; cases e2
              | some o =>
                cases o with
                | none => simp only [h] at e2; cases e2
                | some ys => exact (R'.hdk nn k ⟨ys, h⟩).2
end
end Fd
set_option Elab.async false
set_option linter.all false
set_option maxRecDepth 100000
set_option maxHeartbeats 4000000
namespace Fd
open PySem PySem.Spec PyProof.Rows L2
/-! ## x = [..] on one line, kept as data -/
/-- behind a statement a list may be locked -/
def tFzS (t : TS) : TS := fun N σ H => t { N with nx := fun σ' H' => ∃ a vs, H' a = some (.lst vs) ∧ ∀ o, N.nx σ' (upd H' a (.frz o (.lst vs))) } σ H
theorem ps_fz {X : Cx} {st : Stmt} {t : TS} (h : PS X st t) : PS X st (tFzS t) := ⟨fun pins s σ H N I hw =>
  thn (h.run pins s σ H _ I hw) fun f s1 q => by
    cases f with
    | next =>
      obtain ⟨σ', H', I', a, vs, e, q⟩ := q
      obtain ⟨o, I2⟩ := I'.lock e trivial
      exact ⟨σ', _, I2, q o⟩
    | ret v => exact q
    | brk => exact q
    | cont => exact q⟩
section
variable {X : Cx} {ct : Nat → Addr} {W : WX} {pos : Pos} {a b e tg : Expr} {ma mb m : M RV} {es : List Expr}
noncomputable def setLcZ (i : Nat) (mi : M Src) (vs : List Nat) (f : SV → M Unit) (tt : M Bool) (me : M RV) : M Fl := bnd (lcM mi vs f tt me) fun r s => match r with
  | .new xs => match datL xs with
    | some ds => .ok .nx { s with env := s.env.set i (some (.dat (.lst ds))) }
    | none => .bad
  | _ => .bad
theorem sd_setLcZ {i : Nat} {y : Str} {py spos : Pos} {elt it : Expr} {ifs : List Expr} {scope : Scope} {own : List (Str × Nat)} {mi : M Src} {is : List Nat} {f : SV → M Unit} {mt : M Bool} {me : M RV} (hc : X.calm = true) (hN : X.N.Nodup) (hy : X.N[i]? = some y) (hyl : X.env.scope.names.lookup y = some .local)
    (hsw : swapsWith (.ListComp elt [⟨tg, it, ifs, 0⟩] scope pos) (some (.Name y py)) spos.line X.env = pure true) (hi : ID X ct W tg it mi) (ok : BlkOk X.N X.env.scope scope own) (hv : ∀ j ∈ is, j ∈ own.map (·.2))
    (hg : ∀ (s : Shared) (H : Hp) (C : Addr) (cl : List (Str × Addr)) (fp : List Addr), GD (X.blk s H scope (compEnvC scope cl C X.env) fp) ct tg is f) (ht : ∀ (s : Shared) (H : Hp) (C : Addr) (cl : List (Str × Addr)) (fp : List Addr), IfsD (X.blk s H scope (compEnvC scope cl C X.env) fp) ct ifs mt)
    (he : ∀ (s : Shared) (H : Hp) (C : Addr) (cl : List (Str × Addr)) (fp : List Addr), ED (X.blk s H scope (compEnvC scope cl C X.env) fp) ct WF elt me) (hs : ∀ x, foldedSetIterable it X.env x = pure x := by intro _; rfl) :
    SD X ct W (.Assign [.Name y py] (.ListComp elt [⟨tg, it, ifs, 0⟩] scope pos) spos) (setLcZ i mi (own.map (·.2)) f mt me) := by
  obtain ⟨wi, pi, ri⟩ := hi.ex
  refine ⟨_, ps_fz (ps_setLc (g := tmG X.K ct is f) (tt := tmT X.K ct WF mt) (te := tmE X.K ct WF me) hc hN hy hyl hsw pi ok (fun s H C cl fp => (hg s H C cl fp).pg) (fun s H C cl fp => (ht s H C cl fp).pts) (fun s H C cl fp => (he s H C cl fp).pe) hs), fun N σ H γ s R h => ?_⟩
  show tLc wi (tmG X.K ct is f) (tmT X.K ct WF mt) (tmE X.K ct WF me) (own.map (·.2)) σ H (fun x H1 => gName i x σ H1 (fun σ' H' => ∃ a vs, H' a = some (.lst vs) ∧ ∀ o, N.nx σ' (upd H' a (.frz o (.lst vs)))))
  refine lc_sem ri hv R (use_e h (fun _ _ z => z.at) fun r s1 v γ1 H1 t1 R1 q1 g => ?_)
  cases r with
  | sv x => exact False.elim g
  | new xs =>
    dsimp only at g
    cases e2 : datL xs with
    | none => simp only [e2] at g; exact False.elim g
    | some ds =>
      simp only [e2] at g
      obtain ⟨a, vs, rfl, e0, ea, na, rp⟩ := q1
      refine ⟨a, vs, ea, fun o => ?_⟩
      have ki : KeepI H1 (upd H1 a (.frz o (.lst vs))) := fun x u ex i => by
        rw [upd_ne]
        · exact ex
        · rintro rfl; rw [ea] at ex; cases ex; exact i
      exact g _ γ1 _ ((step_lockN ea s γ H t1 e0).trans step_env) (rep_set (rep_lockN R1 ea na) (x := .dat (.lst ds)) (RepD.lst ⟨o, upd_same⟩ (RepDs.mono ki (datL_rep e2 rp))))
/-! ## raise of an own error whose __init__ says super().__init__ -/
/-- the promise of such an __init__ (one field or more) -/
def spX (K : PySem.W.Frag) (C : Addr) (fs : List Str) : Sp := fun vs H Q _ => ∃ a ws, vs = .ref a :: ws ∧ ws.length = fs.length ∧ OexC K C ∧ H a = some (exo a C none) ∧
  ∀ dx H', H dx = none → dx ≠ a → (∀ b, b ≠ a → b ≠ dx → H' b = H b) → H' a = some (exo a C (some dx)) → H' dx = some (exd dx (fs.zip ws).reverse) → Q .non H'
def raiseF (c : Nat) (fs : List Str) (mA : M (List SV)) : M Fl := bnd mA fun xs s => match datL xs with
  | some ds => if ds.length = fs.length then .exc ⟨c, (fs.zip ds).reverse⟩ s else .bad
  | none => .bad
theorem zip_map_fst {α β : Type} : ∀ (fs : List α) (ws : List β), ws.length = fs.length → (fs.zip ws).map (·.1) = fs
  | [], ws, h => by simp at h ⊢
  | f :: fs, [], h => by simp at h
  | f :: fs, w :: ws, h => by simp at h ⊢; exact zip_map_fst fs ws h
theorem zip_map_snd {α β : Type} : ∀ (fs : List α) (ws : List β), ws.length = fs.length → (fs.zip ws).map (·.2) = ws
  | [], ws, h => by simp at h; simp [h]
  | f :: fs, [], h => by simp at h
  | f :: fs, w :: ws, h => by simp at h ⊢; exact zip_map_snd fs ws h
theorem RepDs.reverse {K : PySem.W.Frag} {H : Hp} : ∀ {ds : List D} {vs : List V}, RepDs K ct H vs ds → RepDs K ct H vs.reverse ds.reverse := by
  intro ds
  induction ds with
  | nil => intro vs h; cases h; exact .nil
  | cons d ds ih => intro vs h; cases h with | cons r t => rw [List.reverse_cons, List.reverse_cons]; exact (ih t).append (.cons r .nil)
theorem sd_raise {x : Str} {p : Pos} {C fI : Addr} {k : Nat} {fd : FuncData} {ps fs : List Str} {mA : M (List SV)} {c : Nat} (hc : X.calm = true) (tk : Takes X W) (T : OexC X.K C) (hct : ct c = C) (iC : PySem.W.findIn X.K (.ref C) "__init__" = some (some (.ref fI))) (tI : PySem.W.typeIn X.K (.ref fI) = some (.type "function"))
    (F1 : FnOk X.prog X.w X.K X.mg X.base (L2.CX X.prog X.w) k fI fd ps (spX X.K C fs)) (hfs : fs.length ≤ 1000) (hr : Room (k + 1) X.A) (hb : Binds X.K fd ps []) (hg : Gl X x) (hm : X.mg x = some (.ref C)) (ha : AD X ct W (e :: es) mA)
    (hdb : (x == ("__debug__" : Str)) = false := by decide) (he : starEach (e :: es) X.env = (false, eval e X.env) :: starEach es X.env := by rfl) (hpl : ∀ pos : Pos, (backTo pos (starEach es X.env)).any (·.1) = false := by intro _; rfl) {pos2 : Pos} :
    SD X ct W (.Raise (some (.Call (.Name x p) (e :: es) [] pos)) none pos2) (raiseF c fs mA) := by
  obtain ⟨t, pt, r⟩ := ha.ex
  refine ⟨_, ps_raise hc tk (pmk_oex T iC tI F1 hr hb .nil passL hg hm pt hdb he (hpl _)), fun N σ H γ s R h => ?_⟩
  refine r σ H γ s _ R (use_a h (fun _ _ z => z.at) fun xs s1 vs γ1 H1 t1 R1 q1 g => ?_)
  cases e2 : datL xs with
  | none => simp only [e2] at g; exact False.elim g
  | some ds =>
    simp only [e2] at g
    by_cases c2 : ds.length = fs.length
    · rw [if_pos c2] at g
      have w := datL_rep e2 q1
      have hl : vs.length = fs.length := by rw [w.length]; exact c2
      refine ⟨by omega, fun a na => ?_⟩
      refine ⟨a, vs, by rw [List.append_nil], hl, T, upd_same, fun dx H' n1 n2 hk h1 h2 => ⟨rfl, dx, _, h1, h2, ?_, ?_⟩⟩
      · rw [upd_ne n2] at n1; exact n1
      · have n1' : H1 dx = none := by rw [upd_ne n2] at n1; exact n1
        have same : ∀ b, b ≠ dx → upd (del H' a) dx (.xd (fs.zip vs).reverse) b = H1 b := fun b hb => by
          rw [upd_ne hb]
          by_cases ba : b = a
          · rw [ba, del_same, na]
          · rw [del_ne ba, hk b ba hb, upd_ne ba]
        have sm : Same H1 (upd (del H' a) dx (.xd (fs.zip vs).reverse)) := fun b u eb => by
          rw [same b (ne_of_none eb n1')]; exact eb
        refine g _ _ σ γ1 _ (t1.trans (step_same sm)) (R1.kept sm) ⟨by rw [hct], .inr ⟨dx, _, rfl, upd_same, ?_, ?_⟩⟩
        · rw [List.map_reverse, List.map_reverse, zip_map_fst _ _ hl, zip_map_fst _ _ c2]
        · rw [List.map_reverse, List.map_reverse, zip_map_snd _ _ hl, zip_map_snd _ _ c2]
          exact RepDs.reverse (RepDs.mono (fun b u eb _ => sm b u eb) w)
    · rw [if_neg c2] at g; exact False.elim g
/-! ## try .. except X as n: .. -/
/-- a clause's suite: what it does with an exception; i: the name's slot -/
structure HD (X : Cx) (ct : Nat → Addr) (c : Nat) (i : Nat) (sts : List Stmt) (hf : Exn → M Fl) : Prop where
  ex : ∀ (a : Addr) (oe : Obj) (cls : Value) (d : Option Addr) (pn : List (Addr × Obj)), Zc cls d oe → (∃ vs, oe.data = .fields vs) →
    ∃ t, PSs (X.suite a ((a, oe) :: pn)) sts t ∧ ∀ N σ H γ s x, Rep X.K ct γ H σ s → σ[i]? = some (some (.ref a)) → RepX X.K ct H x cls d → x.c = c → GoodS X.K ct WF γ s H (hf x s) N → t N σ H
def fieldH (f : Str) (x : Exn) : M Fl := match x.fs.lookup f with
  | some d => pur (.rt (RD d))
  | none => stuck
theorem lookup_rep {K : PySem.W.Frag} {H : Hp} {f : Str} {d : D} : ∀ {fs : List (Str × V)} {ds : List (Str × D)}, fs.map (·.1) = ds.map (·.1) → RepDs K ct H (fs.map (·.2)) (ds.map (·.2)) → ds.lookup f = some d → ∃ v, fs.lookup f = some v ∧ RepD K ct H v d := by
  intro fs
  induction fs with
  | nil => intro ds h1 _ h3; cases ds with
    | nil => cases h3
    | cons _ _ => simp at h1
  | cons p fs ih =>
    intro ds h1 h2 h3
    cases ds with
    | nil => cases h3
    | cons q ds =>
      obtain ⟨n1, v1⟩ := p
      obtain ⟨n2, d1⟩ := q
      simp only [List.map_cons, List.cons.injEq] at h1
      obtain ⟨rfl, h1⟩ := h1
      cases h2 with
      | cons r t =>
        rw [List.lookup_cons] at h3 ⊢
        split at h3
        · cases h3; exact ⟨v1, rfl, r⟩
        · exact ih h1 t h3
/-- return n.f -/
theorem hd_field {c i : Nat} {n f : Str} {np p2 p3 : Pos} {C : Addr} (hct : ct c = C) (T : XfC X.K C) (hno : PySem.W.findIn X.K (.ref C) f = some none) (hp : ∀ a oe pn, PE (X.suite a ((a, oe) :: pn)) (.Name n np) (tVar i)) (hb : attributeBase (.Name n np) f X.env (eval (.Name n np) X.env) = eval (.Name n np) X.env := by rfl) :
    HD X ct c i [.Return (some (.Attribute (.Name n np) f p2)) p3] (fieldH f) := by
  refine ⟨fun a oe cls d pn hz hf => ⟨_, pss_one (ps_ret (pe_xf T hno hz hf (hp a oe pn) hb)), fun N σ H γ s x R hσ hx hxc g => ?_⟩⟩
  unfold fieldH at g
  cases e : x.fs.lookup f with
  | none => simp only [e] at g; exact False.elim g
  | some dd =>
    simp only [e] at g
    obtain ⟨e1, e2⟩ := hx
    rcases e2 with ⟨e3, _⟩ | ⟨dx, fs, e3, e4, e5, e6⟩
    · rw [e3] at e; cases e
    · obtain ⟨v, lv, rv⟩ := lookup_rep e5 e6 e
      exact ⟨_, hσ, rfl, by rw [e1, hxc, hct], dx, fs, v, e3, e4, lv, g v σ γ H Step.refl R rv⟩
/-- any statements without calls -/
theorem hd_any {c i : Nat} {sts : List Stmt} {m : M Fl} (h : ∀ a oe pn, SDs (X.suite a ((a, oe) :: pn)) ct WF sts m) : HD X ct c i sts (fun _ => m) :=
  ⟨fun a oe cls d pn _ _ => by
    obtain ⟨t, p, r⟩ := (h a oe pn).ex
    exact ⟨t, p, fun N σ H γ s x R _ _ _ g => r N σ H γ s R g⟩⟩
def clrS (i : Nat) (s : S) : S := { s with env := s.env.set i none }
/-- which classes a clause takes: es c1 c says whether an error of the class c1 is one of the clause's class -/
def tryF (mb : M Fl) (es : Nat → Option Bool) (i : Nat) (hf : Exn → M Fl) : M Fl := fun s => match mb s with
  | .exc x s1 => match es x.c with
    | some true => if i < s1.env.length then match hf x (clrS i s1) with
      | .ok f s2 => .ok f (clrS i s2)
      | _ => .bad
      else .bad
    | some false => .exc x s1
    | none => .bad
  | o => o
theorem rep_clr {K : PySem.W.Frag} {γ : G} {s : S} {H : Hp} {σ : L2.St} {i : Nat} {o : Option V} (R : Rep K ct γ H σ s) : Rep K ct γ H (σ.set i o) (clrS i s) := by
  refine ⟨by show (σ.set i o).length = (s.env.set i none).length; simpa using R.len, fun j y e => ?_, R.mem, R.inj, R.hd, R.hdk⟩
  have e' : (s.env.set i none)[j]? = some (some y) := e
  by_cases h : i = j
  · subst h
    by_cases hl : i < s.env.length
    · rw [List.getElem?_set_self hl] at e'; cases e'
    · rw [List.getElem?_eq_none (by simpa using hl)] at e'; cases e'
  · rw [List.getElem?_set_ne h] at e'
    obtain ⟨u, q, r'⟩ := R.env j y e'
    exact ⟨u, by rw [List.getElem?_set_ne h]; exact q, r'⟩
theorem sd_try_as {x n : Str} {c : Nat} {C : Value} {i : Nat} {body suite : List Stmt} {b₀ : Stmt} {np pos' : Pos} {mb : M Fl} {exs : Nat → Option Bool} {hf : Exn → M Fl} (hs : X.stack = X.env :: X.outer) (hfr : X.env.frame = some X.env.locals) (hN : X.N.Nodup) (hi : X.N[i]? = some n) (hln : X.env.kindOf n = some .local) (hc : Names X x C) (tk : Takes X W)
    (hex : ∀ c1 b, exs c1 = some b → PySem.W.exmOne X.K (.ref (ct c1)) C = some b) (hone : ∀ c1, exs c1 = some true → c1 = c)
    (hb : ∀ (W' : WX) (pn : List (Addr × Obj)) (xe : Value → Shared → Prop), Takes (X.tr pn xe) W' → PassesOwn (model X.prog X.w) X.A X.env xe → SDs (X.tr pn xe) ct W' body mb)
    (hh : HD X ct c i (b₀ :: suite) hf) : SD X ct W (.Try body [.ExceptHandler (some (.Name x np)) (some n) (b₀ :: suite) pos'] [] [] pos) (tryF mb exs i hf) := by
  -- the body's canonical reading
  let tb : WX → TS := fun W' N σ H => ∃ γ s, Rep X.K ct γ H σ s ∧ GoodS X.K ct W' γ s H (mb s) N
  let th : Addr → Value → Option Addr → TS := fun a cls d N σ H => ∃ γ s x, Rep X.K ct γ H σ s ∧ σ[i]? = some (some (.ref a)) ∧ RepX X.K ct H x cls d ∧ x.c = c ∧ GoodS X.K ct WF γ s H (hf x s) N
  have pb : ∀ (W' : WX) (pn : List (Addr × Obj)) (xe : Value → Shared → Prop), Takes (X.tr pn xe) W' → PassesOwn (model X.prog X.w) X.A X.env xe → PSs (X.tr pn xe) body (tb W') := fun W' pn xe t1 t2 => by
    obtain ⟨t, p, r⟩ := (hb W' pn xe t1 t2).ex
    exact ⟨fun pins s σ H N I ⟨γ, s', R, g⟩ => p.run pins s σ H N I (r N σ H γ s' R g)⟩
  have ph : ∀ (a : Addr) (oe : Obj) (cls : Value) (d : Option Addr) (pn : List (Addr × Obj)), Zc cls d oe → (∃ vs, oe.data = .fields vs) → PSs (X.suite a ((a, oe) :: pn)) (b₀ :: suite) (th a cls d) := fun a oe cls d pn hz hfd => by
    obtain ⟨t, p, r⟩ := hh.ex a oe cls d pn hz hfd
    exact ⟨fun pins s σ H N I ⟨γ, s', x, R, h1, h2, h3, g⟩ => p.run pins s σ H N I (r N σ H γ s' x R h1 h2 h3 g)⟩
  refine ⟨_, ps_try_as hs hfr hN hi hln hc tk pb ph, fun N σ H γ s R h => ?_⟩
  refine ⟨γ, s, R, ?_⟩
  unfold GoodS tryF at h
  unfold GoodS
  cases e1 : mb s with
  | bad => simp only [e1] at h; exact h
  | ok f s1 => simp only [e1] at h; exact h
  | exc y s1 =>
    simp only [e1] at h
    intro cl d σ' γ' H' st R' hx
    cases e2 : exs y.c with
    | none => simp only [e2] at h; exact False.elim h
    | some bb =>
      simp only [e2] at h
      have hm := hex _ _ e2
      refine ⟨bb, by rw [hx.1]; exact hm, fun e3 a na => ?_, fun e3 => ?_⟩
      · subst e3
        dsimp only at h
        have hl0 : i < s1.env.length := by
          by_cases c0 : i < s1.env.length
          · exact c0
          · rw [if_neg c0] at h; exact False.elim h
        rw [if_pos hl0] at h
        have hl : i < σ'.length := by
          rw [R'.len]
          exact hl0
        refine ⟨γ', clrS i s1, y, rep_clr R', List.getElem?_set_self hl, hx, hone _ e2, ?_⟩
        cases e4 : hf y (clrS i s1) with
        | bad => simp only [e4] at h; exact h
        | exc z s2 => simp only [e4] at h; exact False.elim h
        | ok f s2 =>
          simp only [e4] at h
          have t0 : Step γ γ' s (clrS i s1) H H' := st.trans step_env
          cases f with
          | nx => exact fun σ2 γ2 H2 t2 R2 => h _ γ2 H2 ((t0.trans t2).trans step_env) (rep_clr (o := none) R2)
          | bk => exact fun σ2 γ2 H2 t2 R2 => h _ γ2 H2 ((t0.trans t2).trans step_env) (rep_clr (o := none) R2)
          | ct => exact fun σ2 γ2 H2 t2 R2 => h _ γ2 H2 ((t0.trans t2).trans step_env) (rep_clr (o := none) R2)
          | rt r => exact fun v σ2 γ2 H2 t2 R2 q2 => h v _ γ2 H2 ((t0.trans t2).trans step_env) (rep_clr (o := none) R2) (by
              cases r with
              | sv x => exact q2
              | new xs => obtain ⟨a, vs, e5, e6, e7, e8, e9⟩ := q2; exact ⟨a, vs, e5, free_of t0.there e6, e7, e8, e9⟩)
      · subst e3
        exact h cl d σ' γ' H' st R' hx
end
end Fd
set_option Elab.async false
set_option linter.all false
set_option maxRecDepth 100000
set_option maxHeartbeats 4000000
namespace Fd
open PySem PySem.Spec PyProof.Rows L2
/-! ## a def of the text as it stands, by its name -/
/-- the name x holds a def that keeps the promise R; dd: the defaults that a call leaves to it -/
structure OkP (P : Program) (w : World) (K : PySem.W.Frag) (mg : Str → Option Value) (base : Heap) (ct : Nat → Addr) (x : Str) (n : Nat) (k : Nat) (F : List D → Res) (dd : List D) : Prop where
  ex : ∃ (f : Addr) (fd : FuncData) (ps : List Str) (ds : List Value) (dvs : List V), ps.length = n ∧ mg x = some (.ref f) ∧ PySem.W.keepIn K (.ref f) = true ∧ FnOk P w K mg base (L2.CX P w) k f fd ps (spP K ct n F) ∧ Binds K fd ps ds ∧ Vals dvs ds ∧ ∀ H, RepDs K ct H dvs dd
structure OkH (P : Program) (w : World) (K : PySem.W.Frag) (mg : Str → Option Value) (base : Heap) (ct : Nat → Addr) (x : Str) (n : Nat) (k : Nat) (F : List SV → Hand → Res × Hand) : Prop where
  ex : ∃ (f : Addr) (fd : FuncData) (ps : List Str), ps.length = n ∧ mg x = some (.ref f) ∧ PySem.W.keepIn K (.ref f) = true ∧ FnOk P w K mg base (L2.CX P w) k f fd ps (spH K ct n F) ∧ Binds K fd ps []
/-- .. called with keywords: the data of all parameters from the positional ones and the keywords' -/
structure OkK (P : Program) (w : World) (K : PySem.W.Frag) (mg : Str → Option Value) (base : Heap) (ct : Nat → Addr) (x : Str) (n : Nat) (k : Nat) (F : List D → Res) (np : Nat) (ks : List Str) (g : List D → List D → List D) : Prop where
  ex : ∃ (f : Addr) (fd : FuncData) (ps : List Str) (gv : List Value → List Value → List Value) (gV : List V → List V → List V), ps.length = n ∧ mg x = some (.ref f) ∧ PySem.W.keepIn K (.ref f) = true ∧ FnOk P w K mg base (L2.CX P w) k f fd ps (spP K ct n F) ∧ KBn K fd ps np ks gv gV ∧
    ∀ H vs zs ds es, RepDs K ct H vs ds → RepDs K ct H zs es → vs.length = np → zs.length = ks.length → RepDs K ct H (gV vs zs) (g ds es)
section
variable {X : Cx} {ct : Nat → Addr} {W : WX} {pos p : Pos} {x : Str} {e : Expr} {es : List Expr} {m : M RV} {mA mK : M (List SV)} {k n : Nat} {dd : List D} {F : List D → Res} {FH : List SV → Hand → Res × Hand}
theorem ed_callP (O : OkP X.prog X.w X.K X.mg X.base ct x n k F dd) (hr : Room k X.A) (tk : Takes X W) (ha : AD X ct W (e :: es) mA) (hg : Gl X x := by rfl) (hdb : (x == ("__debug__" : Str)) = false := by decide) (he : starEach (e :: es) X.env = (false, eval e X.env) :: starEach es X.env := by rfl) (hpl : (backTo pos (starEach es X.env)).any (·.1) = false := by rfl) :
    ED X ct W (.Call (.Name x p) (e :: es) [] pos) (bnd mA (callM n F dd)) := by
  obtain ⟨f, fd, ps, ds, dvs, rfl, hm, hk, FK, hb, hd, hdd⟩ := O.ex
  exact ed_call FK hr hg hm hk hb hd hdd tk ha hdb he hpl
theorem ed_callHP (O : OkH X.prog X.w X.K X.mg X.base ct x n k FH) (hr : Room k X.A) (tk : Takes X W) (ha : AD X ct W (e :: es) mA) (hg : Gl X x := by rfl) (hdb : (x == ("__debug__" : Str)) = false := by decide) (he : starEach (e :: es) X.env = (false, eval e X.env) :: starEach es X.env := by rfl) (hpl : (backTo pos (starEach es X.env)).any (·.1) = false := by rfl) :
    ED X ct W (.Call (.Name x p) (e :: es) [] pos) (bnd mA (callH n FH [])) := by
  obtain ⟨f, fd, ps, rfl, hm, hk, FK, hb⟩ := O.ex
  exact ed_callH FK hr hg hm hk hb .nil (fun _ => .nil) tk ha hdb he hpl
/-- keywords -/
structure KD (X : Cx) (ct : Nat → Addr) (W : WX) (kws : List Keyword) (m : M (List SV)) : Prop where
  ex : ∃ t, PK X kws t ∧ ∀ σ H γ s Q, Rep X.K ct γ H σ s → GoodA X.K ct W σ γ s H (m s) Q → t σ H Q
theorem kd_nil : KD X ct W [] (pur []) := ⟨_, pk_nil, fun σ H γ s Q R h => h [] γ H Step.refl R .nil⟩
theorem kd_cons {nm : Option Str} {kpos : Pos} {kws : List Keyword} (h : ED X ct W e m) (hr : KD X ct W kws mA) : KD X ct W (⟨nm, e, kpos⟩ :: kws) (consA m mA) := by
  obtain ⟨t, p, r⟩ := h.ex
  obtain ⟨t2, p2, r2⟩ := hr.ex
  refine ⟨_, pk_cons p p2, fun σ H γ s Q R h => ?_⟩
  refine r σ H γ s _ R (use_e h (fun _ _ z => z) fun x s1 v γ1 H1 t1 R1 q1 g => ?_)
  cases x with
  | new xs => exact False.elim g
  | sv x =>
    refine r2 σ H1 γ1 s1 _ R1 (use_a (GoodA.step t1 g) (fun _ _ z => z) fun xs s2 vs γ2 H2 t2 R2 q2 g2 => ?_)
    exact g2 (v :: vs) γ2 H2 t2 R2 (.cons (RepS.mono t2 q1) q2)
/-- nothing is raised -/
def noX (r : Res) : Res := match r with
  | .exc _ => .bad
  | r => r
def callK (n np nk : Nat) (F : List D → Res) (g : List D → List D → List D) (mA mK : M (List SV)) : M RV := bnd mA fun xs => bnd mK fun zs => match datL xs, datL zs with
  | some ds, some es => if ds.length = np ∧ es.length = nk ∧ (g ds es).length = n then toRes (noX (F (g ds es))) else stuck
  | _, _ => stuck
theorem ed_callK {np : Nat} {ks : List Str} {g : List D → List D → List D} {kws : List Keyword} (O : OkK X.prog X.w X.K X.mg X.base ct x n k F np ks g) (hr : Room k X.A) (ha : AD X ct W (e :: es) mA) (hkw : KD X ct W kws mK) (hg : Gl X x := by rfl) (hall : (backToKw pos (keywordEach kws X.env)).all (·.1.isSome) = true := by rfl) (hks : (backToKw pos (keywordEach kws X.env)).filterMap (·.1) = ks := by rfl)
    (hdb : (x == ("__debug__" : Str)) = false := by decide) (he : starEach (e :: es) X.env = (false, eval e X.env) :: starEach es X.env := by rfl)
    (hpl : ((backTo pos (starEach (e :: es) X.env)).any (·.1) || (backToKw pos (keywordEach kws X.env)).any (·.1.isNone)) = false := by rfl) :
    ED X ct W (.Call (.Name x p) (e :: es) kws pos) (callK n np ks.length F g mA mK) := by
  obtain ⟨f, fd, ps, gv, gV, rfl, hm, hk, FK, hb, hrep⟩ := O.ex
  obtain ⟨t, pt, r⟩ := ha.ex
  obtain ⟨t2, pt2, r2⟩ := hkw.ex
  refine ⟨_, pe_callN FK hr hg hm hk hb passL pt pt2 hall hks hdb he hpl, fun σ H γ s Q R h => ?_⟩
  refine r σ H γ s _ R (use_a h (fun _ _ z => z) fun xs s1 vs γ1 H1 t1 R1 q1 g1 => ?_)
  refine r2 σ H1 γ1 s1 _ R1 (use_a (Good.step t1 g1) (fun _ _ z => z) fun zs s2 us γ2 H2 t2 R2 q2 g2 => ?_)
  cases e1 : datL xs with
  | none => simp only [e1] at g2; exact False.elim g2
  | some ds =>
    cases e2 : datL zs with
    | none => simp only [e1, e2] at g2; exact False.elim g2
    | some es2 =>
      simp only [e1, e2] at g2
      have w1 := RepDs.mono t2.imm (datL_rep e1 q1)
      have w2 := datL_rep e2 q2
      by_cases c : ds.length = np ∧ es2.length = ks.length ∧ (g ds es2).length = ps.length
      · rw [if_pos c] at g2
        have l1 : vs.length = np := by rw [w1.length]; exact c.1
        have l2 : us.length = ks.length := by rw [w2.length]; exact c.2.1
        have wr := hrep H2 vs us ds es2 w1 w2 l1 l2
        refine ⟨l1, l2, by rw [wr.length]; exact c.2.2, _, wr, ?_⟩
        have gg := good_res R2 (Good.step t2 g2)
        cases e3 : F (g ds es2) with
        | bad => rw [e3] at gg; exact gg
        | exc z => rw [e3] at gg; exact False.elim gg
        | ret z => rw [e3] at gg; exact gg
      · rw [if_neg c] at g2; exact False.elim g2
end
section
variable {P : Program} {w : World} {K : PySem.W.Frag} {mg : Str → Option Value} {base : Heap} {x qual : Str} {params : Arguments} {body : List Stmt} {scope : Scope} {dvs : List V} {kws : List (Str × V)} {f : Addr} {fd : FuncData} {ps : List Str}
theorem kbinds1 (F : FunD K x qual params body scope dvs kws f fd) (n : Nat) (ks : List Str) (g : {α : Type} → List α → List α → List α → List α) (hd : dvs ≠ [])
    (hrel : ∀ {vs ds zs : List V} {us its ws : List Value}, Vals vs us → Vals ds its → Vals zs ws → Vals (g vs ds zs) (g us its ws))
    (h : ∀ (T : Addr) (kV doc pm : Value) (an : Option Addr) (cdv ct : Value) (us its ws : List Value), us.length = n → its.length = dvs.length → ws.length = ks.length →
      ∃ k, bindArgs (PySem.W.fnOf x qual params body scope (.ref T) kV doc pm an cdv ct) ⟨us, ks.zip ws⟩ = seqItems? (.ref T) >>= k ∧ k (some its.toArray) = pure (ps.zip (g us its ws))) :
    ∃ its : List Value, KBn K fd ps n ks (fun us ws => g us its ws) (fun vs zs => g vs dvs zs) := by
  obtain ⟨oc, od, dV, kV, doc, pm, an, cdv, ct, osl, rfl, lk, hcd, hD, hK⟩ := F.ex
  rcases hD with ⟨e, _⟩ | ⟨_, T, o, its, m, rfl, lT, oT, rT⟩
  · exact absurd e hd
  · refine ⟨its, ⟨fun s us ws X l1 l2 => ?_, fun r1 r2 => hrel r1 rT r2⟩⟩
    obtain ⟨k, e1, e2⟩ := h T kV doc pm an cdv ct us its ws l1 rT.length.symm l2
    refine BindsTo.of_looks fun M => ?_
    rw [e1]
    exact looks_items X lT oT (.of_pure e2)
/-- a def of the text with its facts -/
structure FnT (K : PySem.W.Frag) (mg : Str → Option Value) (x : Str) (st : Stmt) (dvs : List V) : Prop where
  ex : ∃ (f : Addr) (fd : FuncData), mg x = some (.ref f) ∧ FunD K x x (defArgs st) (defBody st) (defScope st) dvs [] f fd
/-- the rule by names: no defaults -/
theorem okP {st : Stmt} {N ps : List Str} {k : Nat} {ct : Nat → Addr} {m : M Fl} (T : FnT K mg x st []) (S : FnScope N ps (defScope st))
    (hbd : ∀ (kV doc pm : Value) (an : Option Addr) (cdv ct : Value) (us : List Value), us.length = ps.length → bindArgs (PySem.W.fnOf x x (defArgs st) (defBody st) (defScope st) .none kV doc pm an cdv ct) ⟨us, []⟩ = pure (ps.zip us))
    (hb : ∀ (f : Addr) (cdv : Value) (A : Around) (outer : List Env) (s : Shared) (H : Hp) (E : XK), Room k (A.deeper (envOfC x (defScope st) s.heap.objs.size f cdv)) →
      SDs (cxOf (L2.CX P w) P w K mg base N x (defScope st) f cdv A outer s H E) ct (fun cls d _ H => E cls d H) (defBody st) m) : OkP P w K mg base ct x ps.length (k + 1) (runP N.length m) [] := by
  obtain ⟨f, fd, hm, F⟩ := T.ex
  exact ⟨f, fd, ps, [], [], rfl, hm, F.kp, fnP F S (hb f), F.bindsN hbd, .nil, fun _ => .nil⟩
theorem okH {st : Stmt} {N ps : List Str} {k : Nat} {ct : Nat → Addr} {m : M Fl} (T : FnT K mg x st []) (S : FnScope N ps (defScope st))
    (hbd : ∀ (kV doc pm : Value) (an : Option Addr) (cdv ct : Value) (us : List Value), us.length = ps.length → bindArgs (PySem.W.fnOf x x (defArgs st) (defBody st) (defScope st) .none kV doc pm an cdv ct) ⟨us, []⟩ = pure (ps.zip us))
    (hb : ∀ (f : Addr) (cdv : Value) (A : Around) (outer : List Env) (s : Shared) (H : Hp) (E : XK), Room k (A.deeper (envOfC x (defScope st) s.heap.objs.size f cdv)) →
      SDs (cxOf (L2.CX P w) P w K mg base N x (defScope st) f cdv A outer s H E) ct (fun cls d _ H => E cls d H) (defBody st) m) : OkH P w K mg base ct x ps.length (k + 1) (runH N.length m) := by
  obtain ⟨f, fd, hm, F⟩ := T.ex
  exact ⟨f, fd, ps, rfl, hm, F.kp, fnH F S (hb f), F.bindsN hbd⟩
/-- with defaults: a call that leaves out those behind the first j of them -/
theorem okDf {st : Stmt} {N ps : List Str} {k : Nat} {ct : Nat → Addr} {m : M Fl} {dd : List D} (T : FnT K mg x st dvs) (S : FnScope N ps (defScope st)) (n j : Nat) (hd : dvs ≠ []) (hn : n + (dvs.length - j) = ps.length) (hdd : ∀ H, RepDs K ct H dvs dd)
    (hbd : ∀ (T : Addr) (kV doc pm : Value) (an : Option Addr) (cdv ct : Value) (us its : List Value), us.length = n → its.length = dvs.length →
      ∃ k, bindArgs (PySem.W.fnOf x x (defArgs st) (defBody st) (defScope st) (.ref T) kV doc pm an cdv ct) ⟨us, []⟩ = seqItems? (.ref T) >>= k ∧ k (some its.toArray) = pure (ps.zip (us ++ its.drop j)))
    (hb : ∀ (f : Addr) (cdv : Value) (A : Around) (outer : List Env) (s : Shared) (H : Hp) (E : XK), Room k (A.deeper (envOfC x (defScope st) s.heap.objs.size f cdv)) →
      SDs (cxOf (L2.CX P w) P w K mg base N x (defScope st) f cdv A outer s H E) ct (fun cls d _ H => E cls d H) (defBody st) m) : OkP P w K mg base ct x ps.length (k + 1) (runP N.length m) (dd.drop j) := by
  obtain ⟨f, fd, hm, F⟩ := T.ex
  obtain ⟨ds, rv, bb⟩ := F.binds1 n j hd hn hbd
  exact ⟨f, fd, ps, ds, _, rfl, hm, F.kp, fnP F S (hb f), bb, rv, fun H => RepDs.drop j (hdd H)⟩
theorem okKw {st : Stmt} {N ps : List Str} {k : Nat} {ct : Nat → Addr} {m : M Fl} {dd : List D} (T : FnT K mg x st dvs) (S : FnScope N ps (defScope st)) (n : Nat) (ks : List Str) (g : {α : Type} → List α → List α → List α → List α) (hd : dvs ≠ []) (hdd : ∀ H, RepDs K ct H dvs dd)
    (hrel : ∀ {vs ds zs : List V} {us its ws : List Value}, Vals vs us → Vals ds its → Vals zs ws → Vals (g vs ds zs) (g us its ws))
    (hrep : ∀ H (vs ds zs : List V) (us its ws : List D), RepDs K ct H vs us → RepDs K ct H ds its → RepDs K ct H zs ws → RepDs K ct H (g vs ds zs) (g us its ws))
    (hbd : ∀ (T : Addr) (kV doc pm : Value) (an : Option Addr) (cdv ct : Value) (us its ws : List Value), us.length = n → its.length = dvs.length → ws.length = ks.length →
      ∃ k, bindArgs (PySem.W.fnOf x x (defArgs st) (defBody st) (defScope st) (.ref T) kV doc pm an cdv ct) ⟨us, ks.zip ws⟩ = seqItems? (.ref T) >>= k ∧ k (some its.toArray) = pure (ps.zip (g us its ws)))
    (hb : ∀ (f : Addr) (cdv : Value) (A : Around) (outer : List Env) (s : Shared) (H : Hp) (E : XK), Room k (A.deeper (envOfC x (defScope st) s.heap.objs.size f cdv)) →
      SDs (cxOf (L2.CX P w) P w K mg base N x (defScope st) f cdv A outer s H E) ct (fun cls d _ H => E cls d H) (defBody st) m) : OkK P w K mg base ct x ps.length (k + 1) (runP N.length m) n ks (fun ds es => g ds dd es) := by
  obtain ⟨f, fd, hm, F⟩ := T.ex
  obtain ⟨its, kb⟩ := kbinds1 F n ks g hd hrel hbd
  exact ⟨f, fd, ps, _, _, rfl, hm, F.kp, fnP F S (hb f), kb, fun H vs zs ds es r1 r2 _ _ => hrep H _ _ _ _ _ _ r1 (hdd H) r2⟩
end
/-! ## short words -/
section
variable {X : Cx} {ct : Nat → Addr} {W : WX} {pos : Pos}
theorem nv (i : Nat) {x : Str} (hN : X.N[i]? = some x := by rfl) (hv : Vis X.env.scope x := by first | exact Or.inl rfl | exact Or.inr (Or.inl rfl) | exact Or.inr (Or.inr rfl)) (hd : (x == ("__debug__" : Str)) = false := by decide)
    (hcd : (x == ("__classdict__" : Str)) = false := by decide) : ED X ct W (.Name x pos) (getV i) := ed_name i (pe_var hN hv hd hcd)
theorem gn (i : Nat) {x : Str} (nd : X.N.Nodup) (hi : X.N[i]? = some x := by rfl) (hx : Loc X.env.scope x := by first | exact Or.inl rfl | exact Or.inr rfl) (hf : X.fn x = true ∨ X.env.scope.names.lookup x = some .local := by first | exact Or.inl rfl | exact Or.inr rfl) : GD X ct (.Name x pos) [i] (setV i) := gd_name (pg_name nd hi hx hf)
end
theorem hu64 {A : Around} {k : Nat} (hr : Room k A) : A.units + 64 < cLine := hr.units
theorem hu65 {A : Around} {k : Nat} (hr : Room k A) : A.units + 65 < cLine := by have := hr.un; omega
end Fd
set_option Elab.async false
set_option linter.all false
set_option maxRecDepth 100000
set_option maxHeartbeats 4000000
namespace Fd
open PySem PySem.Spec PyProof.Rows L2
/-! ## an own error class: __init__ says super().__init__(..) and stores its parameters in their order -/
inductive PaK (X : Cx) (n : Nat) : List Expr → Prop
  | nil : PaK X n []
  | cons {e : Expr} {es : List Expr} (te : TE) (hp : PE X e te) (hq : ∀ (vs : List V) H Q, vs.length = n → (∀ v, Q v H) → te (vs.map some) H Q) (hs : starEach (e :: es) X.env = (false, eval e X.env) :: starEach es X.env) : PaK X n es → PaK X n (e :: es)
theorem pak_str {X : Cx} {n : Nat} {x : Str} {j : Nat} {pos : Pos} {es : List Expr} (h : PaK X n es) (hs : starEach (.Constant (.str x) j pos :: es) X.env = (false, eval (.Constant (.str x) j pos) X.env) :: starEach es X.env := by rfl) : PaK X n (.Constant (.str x) j pos :: es) :=
  .cons _ pe_str (fun _ _ _ _ q => q _) hs h
theorem pak_var {X : Cx} {n : Nat} (i : Nat) {x : Str} {pos : Pos} {es : List Expr} (h : PaK X n es) (hp : PE X (.Name x pos) (tVar i)) (hi : i < n) (hs : starEach (.Name x pos :: es) X.env = (false, eval (.Name x pos) X.env) :: starEach es X.env := by rfl) : PaK X n (.Name x pos :: es) :=
  .cons _ hp (fun vs H Q hl q => ⟨vs[i], by simp [hl, hi], q _⟩) hs h
theorem pak_run {X : Cx} {n : Nat} {es : List Expr} (h : PaK X n es) : ∃ t, PA X es t ∧ ∀ (vs : List V) H Q, vs.length = n → (∀ ws, ws.length = es.length → Q ws H) → t (vs.map some) H Q := by
  induction h with
  | nil => exact ⟨_, pa_nil, fun vs H Q _ q => q [] rfl⟩
  | cons te hp hq hs hr ih =>
    obtain ⟨t, pt, r⟩ := ih
    exact ⟨_, pa_cons hp pt hs, fun vs H Q hl q => hq vs H _ hl fun v => r vs H _ hl fun ws hw => q (v :: ws) (by simp [hw])⟩
/-- stores: the slots i, i + 1, .. into the fields -/
inductive Sto (X : Cx) : Nat → List Str → List Stmt → Prop
  | nil {i : Nat} : Sto X i [] []
  | cons {i : Nat} {f : Str} {fs : List Str} {o e : Expr} {p' pos : Pos} {sts : List Stmt} (ho : PE X o (tVar 0)) (he : PE X e (tVar i)) (hs : swapsWith e (some (.Attribute o f p')) pos.line X.env = pure false) : Sto X (i + 1) fs sts → Sto X i (f :: fs) (.Assign [.Attribute o f p'] e pos :: sts)
theorem sto_old {X : Cx} {i : Nat} {fs : List Str} {sts : List Stmt} (h : Sto X i fs sts) : ∃ t, PSs X sts t ∧ ∀ (N : Ends) (σ : L2.St) (H : Hp) (a dx C : Addr) (gs : List (Str × V)) (ws : List V), (∀ k w, ws[k]? = some w → σ[i + k]? = some (some w)) → ws.length = fs.length →
    σ[0]? = some (some (.ref a)) → OexC X.K C → (∀ f ∈ fs, PySem.W.findIn X.K (.ref C) f = some none) → H a = some (exo a C (some dx)) → H dx = some (exd dx gs) → a ≠ dx → gs.length + fs.length ≤ 900 →
    (∀ H', (∀ b, b ≠ dx → H' b = H b) → H' dx = some (exd dx ((fs.zip ws).reverse ++ gs)) → N.nx σ H') → t N σ H := by
  induction h with
  | nil =>
    exact ⟨_, pss_nil, fun N σ H a dx C gs ws _ hl _ _ _ _ hd _ _ k => k H (fun _ _ => rfl) (by simpa using hd)⟩
  | @cons i f fs o e p' pos sts ho he hs hr ih =>
    obtain ⟨t, pt, r⟩ := ih
    refine ⟨_, pss_cons (ps_ost ho he hs) pt, fun N σ H a dx C gs ws hw hl h0 T hno ha hd ne hz k => ?_⟩
    cases ws with
    | nil => simp at hl
    | cons w ws =>
      refine ⟨w, by simpa using hw 0 w rfl, _, h0, a, C, rfl, T, hno f (by simp), .inr ⟨dx, gs, ha, hd, by simp at hz; omega, ?_⟩⟩
      refine r N σ _ a dx C ((f, w) :: gs) ws (fun k x e => ?_) (by simpa using hl) h0 T (fun g hg => hno g (by simp [hg])) (by rw [upd_ne ne]; exact ha) upd_same ne (by simp at hz ⊢; omega) fun H' k1 k2 => ?_
      · have := hw (k + 1) x (by simpa using e)
        rw [← this]; congr 1; omega
      · refine k H' (fun b hb => by rw [k1 b hb, upd_ne hb]) ?_
        rw [k2]; simp
theorem sto_new {X : Cx} {i : Nat} {fs : List Str} {sts : List Stmt} (h : Sto X i fs sts) (hf : fs ≠ []) : ∃ t, PSs X sts t ∧ ∀ (N : Ends) (σ : L2.St) (H : Hp) (a C : Addr) (ws : List V), (∀ k w, ws[k]? = some w → σ[i + k]? = some (some w)) → ws.length = fs.length →
    σ[0]? = some (some (.ref a)) → OexC X.K C → (∀ f ∈ fs, PySem.W.findIn X.K (.ref C) f = some none) → H a = some (exo a C none) → fs.length ≤ 900 →
    (∀ dx H', H dx = none → dx ≠ a → (∀ b, b ≠ a → b ≠ dx → H' b = H b) → H' a = some (exo a C (some dx)) → H' dx = some (exd dx (fs.zip ws).reverse) → N.nx σ H') → t N σ H := by
  cases h with
  | nil => exact absurd rfl hf
  | @cons _ f fs o e p' pos sts ho he hs hr =>
    obtain ⟨t, pt, r⟩ := sto_old hr
    refine ⟨_, pss_cons (ps_ost ho he hs) pt, fun N σ H a C ws hw hl h0 T hno ha hz k => ?_⟩
    cases ws with
    | nil => simp at hl
    | cons w ws =>
      refine ⟨w, by simpa using hw 0 w rfl, _, h0, a, C, rfl, T, hno f (by simp), .inl ⟨ha, fun dx n ne => ?_⟩⟩
      refine r N σ _ a dx C [(f, w)] ws (fun k x e => ?_) (by simpa using hl) h0 T (fun g hg => hno g (by simp [hg])) upd_same (by rw [upd_ne ne, upd_same]) (Ne.symm ne) (by simp at hz ⊢; omega) fun H' k1 k2 => ?_
      · have := hw (k + 1) x (by simpa using e)
        rw [← this]; congr 1; omega
      · refine k dx H' n ne (fun b h1 h2 => by rw [k1 b h2, upd_ne h1, upd_ne h2]) (by rw [k1 a (Ne.symm ne), upd_same]) ?_
        rw [k2]; simp
section
open PySem.W
variable {P : Program} {w : World} {K : PySem.W.Frag} {mg : Str → Option Value} {base : Heap} {ps : List Str} {name qual : Str} {params : Arguments} {rest : List Stmt} {scope : Scope} {dV kV doc pm ct oc ccl cl : Value} {an od cdd cld : Option Addr} {cc cda f C : Addr} {osl ccs csl : Array (Option Value)}
  {p0 p1 p2 p3 p4 : Pos} {e : Expr} {es : List Expr} {cvs : Array Value} {file : Str} {tf : Tok} {cdD : ClassData} {ar : Arg}
open FdX in
theorem fn_err {fs : List Str} (lk : K.lookup f = some ⟨oc, od, .func (fnS name qual params (bodyS p0 p1 p2 p3 p4 e es rest) scope dV kV doc pm an (.ref cda) ct cc), osl⟩) (hcd : codeIn K (.ref cda) qual = true) (S : ScopeS ps scope)
    (har : (params.posonlyargs ++ params.args).head? = some ar) (hps : ps[0]? = some ar.arg) (T : OexC K C)
    (hcode : K.lookup cda = some ⟨ccl, cdd, .fields cvs, ccs⟩) (hvs : cvs[2]? = some (.str file tf)) (hfile : ((P.main.file : Str) == file) = true)
    (hcell : K.lookup cc = some ⟨cl, cld, .cell (some (.ref C)), csl⟩) (hD : clsIn K C = some cdD) (hsub : mroIn K C (.ref C) = some true) (hsuper : mg "super" = none)
    (htop : (P.main.scope.names.lookup ("super" : Str)).isSome = false) (hboot : bootBuiltins "super" = some (.type "super")) (hop : nsIn K cStatics "thirdparty.any" = some none)
    (hsu : ks_superIn K C C "__init__" = some (some (.builtin "ValueError.__init__"))) (hB : subIn K (.ref C) (.type "ValueError") = some true)
    (hpl : ps.length = fs.length + 1) (hf : fs ≠ []) (hn : fs.length ≤ 900) (hes : (e :: es).length ≤ 1000) (hno : ∀ f ∈ fs, findIn K (.ref C) f = some none)
    (ha : ∀ (A : Around) (outer : List Env) (s : Shared) (H : Hp) (E : XK), PaK (cxS (L2.CX P w) P w K mg base ps (fnS name qual params (bodyS p0 p1 p2 p3 p4 e es rest) scope dV kV doc pm an (.ref cda) ct cc) f A outer s H E) ps.length (e :: es))
    (hb : ∀ (A : Around) (outer : List Env) (s : Shared) (H : Hp) (E : XK), Sto (cxS (L2.CX P w) P w K mg base ps (fnS name qual params (bodyS p0 p1 p2 p3 p4 e es rest) scope dV kV doc pm an (.ref cda) ct cc) f A outer s H E) 1 fs rest)
    (hm1 : eval (.Call (.Attribute (.Call (.Name "super" p0) [] [] p1) "__init__" p2) (e :: es) [] p3) = fun env => (do
      let ov ← attributeBase (.Call (.Name "super" p0) [] [] p1) "__init__" env (eval (.Call (.Name "super" p0) [] [] p1) env)
      standAt p2.atName
      let (f, first) ← holding [ov] (getMethod ov "__init__" (pure false))
      callWith p3 f first (backTo p3 (starEach (e :: es) env)) []) := by rfl)
    (he : ∀ env, starEach (e :: es) env = (false, eval e env) :: starEach es env := by intro _; rfl) (hp3 : ∀ env, (backTo p3 (starEach es env)).any (·.1) = false := by intro _; rfl) :
    FnOk P w K mg base (L2.CX P w) 1 f (fnS name qual params (bodyS p0 p1 p2 p3 p4 e es rest) scope dV kV doc pm an (.ref cda) ct cc) ps (spX K C fs) := by
  refine FdX.fn_sup (k := 0) lk hcd S har hps T hcode hvs hfile hcell hD hsub hsuper htop hboot hop hsu hB (fun vs H Q E h => ?_) (fun A outer s H vs Q E hr h => ?_) hm1 he hp3
  · obtain ⟨a, ws, rfl, h1, _⟩ := h
    simp [h1, hpl]
  · obtain ⟨a, ws, rfl, h1, T', h2, k⟩ := h
    obtain ⟨ta, pa, ra⟩ := pak_run (ha A outer s H E)
    obtain ⟨t, pt, rt⟩ := sto_new (hb A outer s H E) hf
    refine ⟨a, ws, ta, t, rfl, h2, pa, ra _ H _ (by simp [h1, hpl]) fun zs hz => ⟨rfl, by omega⟩, pt, rt _ _ H a C ws (fun k x e => ?_) h1 rfl T' hno h2 hn fun dx H' n ne k1 k2 k3 => k dx H' n ne k1 k2 k3⟩
    rw [Nat.add_comm]
    simpa using e
end
/-! ## errors by name -/
structure ErrX (P : Program) (w : World) (K : PySem.W.Frag) (mg : Str → Option Value) (base : Heap) (ct : Nat → Addr) (x : Str) (c : Nat) (fs : List Str) : Prop where
  ex : ∃ (fI : Addr) (fd : FuncData) (ps : List Str), OexC K (ct c) ∧ PySem.W.findIn K (.ref (ct c)) "__init__" = some (some (.ref fI)) ∧ PySem.W.typeIn K (.ref fI) = some (.type "function") ∧ FnOk P w K mg base (L2.CX P w) 1 fI fd ps (spX K (ct c) fs) ∧ Binds K fd ps [] ∧ mg x = some (.ref (ct c))
structure ErrH (K : PySem.W.Frag) (mg : Str → Option Value) (ct : Nat → Addr) (x : Str) (c : Nat) (exs : Nat → Option Bool) : Prop where
  xf : XfC K (ct c)
  mg : mg x = some (.ref (ct c))
  exm : ∀ c1 b, exs c1 = some b → PySem.W.exmOne K (.ref (ct c1)) (.ref (ct c)) = some b
section
variable {X : Cx} {ct : Nat → Addr} {W : WX} {pos p : Pos} {e : Expr} {es : List Expr} {mA : M (List SV)}
theorem sd_raiseE {x : Str} {c : Nat} {fs : List Str} (O : ErrX X.prog X.w X.K X.mg X.base ct x c fs) (hfs : fs.length ≤ 1000) (hc : X.calm = true) (tk : Takes X W) (hr : Room 2 X.A) (ha : AD X ct W (e :: es) mA) (hg : Gl X x := by rfl)
    (hdb : (x == ("__debug__" : Str)) = false := by decide) (he : starEach (e :: es) X.env = (false, eval e X.env) :: starEach es X.env := by rfl) (hpl : ∀ pos : Pos, (backTo pos (starEach es X.env)).any (·.1) = false := by intro _; rfl) {pos2 : Pos} :
    SD X ct W (.Raise (some (.Call (.Name x p) (e :: es) [] pos)) none pos2) (raiseF c fs mA) := by
  obtain ⟨fI, fd, ps, T, iC, tI, F1, hb, hm⟩ := O.ex
  exact sd_raise hc tk T rfl iC tI F1 hfs hr hb hg hm ha hdb he hpl
theorem sd_tryE {x n : Str} {c : Nat} {i : Nat} {body suite : List Stmt} {b₀ : Stmt} {np pos' : Pos} {mb : M Fl} {exs : Nat → Option Bool} {hf : Exn → M Fl} (O : ErrH X.K X.mg ct x c exs) (hs : X.stack = X.env :: X.outer) (hfr : X.env.frame = some X.env.locals) (hN : X.N.Nodup) (hi : X.N[i]? = some n) (hln : X.env.kindOf n = some .local) (tk : Takes X W)
    (hone : ∀ c1, exs c1 = some true → c1 = c)
    (hb : ∀ (W' : WX) (pn : List (Addr × Obj)) (xe : Value → Shared → Prop), Takes (X.tr pn xe) W' → PassesOwn (model X.prog X.w) X.A X.env xe → SDs (X.tr pn xe) ct W' body mb)
    (hh : HD X ct c i (b₀ :: suite) hf) (hg : Gl X x := by rfl) (hdb : (x == ("__debug__" : Str)) = false := by decide) : SD X ct W (.Try body [.ExceptHandler (some (.Name x np)) (some n) (b₀ :: suite) pos'] [] [] pos) (tryF mb exs i hf) :=
  sd_try_as hs hfr hN hi hln ⟨hg, hdb, .inl O.mg⟩ tk O.exm hone hb hh
end
end Fd
set_option Elab.async false
set_option linter.all false
set_option maxRecDepth 100000
set_option maxHeartbeats 4000000
namespace Fd
open PySem PySem.Spec PyProof.Rows L2
/-! ## facts of the top by names -/
/-- a name of the module that holds data -/
structure CsT (K : PySem.W.Frag) (mg : Str → Option Value) (ct : Nat → Addr) (x : Str) (d : D) : Prop where
  ex : ∃ v u, mg x = some u ∧ RelV v u ∧ ∀ H, RepD K ct H v d
theorem ed_glob {X : Cx} {ct : Nat → Addr} {W : WX} {x : Str} {pos : Pos} {d : D} (T : CsT X.K X.mg ct x d) (hg : Gl X x := by rfl) (hd : (x == ("__debug__" : Str)) = false := by decide) : ED X ct W (.Name x pos) (pur (RD d)) := by
  obtain ⟨v, u, h1, h2, h3⟩ := T.ex
  exact ed_c (pe_glob hg h1 h2 hd) h3
/-- a tuple that the top has written -/
inductive KD2 (K : PySem.W.Frag) (ct : Nat → Addr) : V → D → Prop
  | non : KD2 K ct .non .non
  | bl (b : Bool) : KD2 K ct (.bl b) (.bl b)
  | int (i : Int) : KD2 K ct (.int i) (.int i)
  | str (x : Str) : KD2 K ct (.str x) (.str x)
theorem sqT_K {K : PySem.W.Frag} {H : Hp} {a : Addr} {o : Obj} {its : Array Value} {n : Nat} {vs : List V} (l : K.lookup a = some o) (hc : o.cls = .type "tuple") (hd : o.data = .seq its n) (hl : its.size ≤ 1000) (hv : Vals vs its.toList) : SqT K H a vs :=
  .inr ⟨o, its, n, l, hc, hd, Nat.le_trans hl (by rw [sizeLine_eq]; decide), hv⟩
section
variable {K : PySem.W.Frag} {ct : Nat → Addr} {mg : Str → Option Value} {h : Heap}
theorem csT_tup {x : Str} {a : Addr} {c2 : Option Addr} {its : Array Value} {n : Nat} {sl : Array (Option Value)} {vs : List V} {ds : List D} (KX : K.In h) (G : h.Ns mainGlobals mg) (e : PySem.W.nsIn K mainGlobals x = some (some (.ref a))) (l : K.lookup a = some ⟨.type "tuple", c2, .seq its n, sl⟩) (hl : its.size ≤ 1000) (hv : Vals vs its.toList) (hr : ∀ H, RepDs K ct H vs ds) : CsT K mg ct x (.tup ds) :=
  ⟨.ref a, _, PySem.W.mg_of KX G e, rfl, fun H => .tup (sqT_K l rfl rfl hl hv) (hr H)⟩
theorem csT_int {x : Str} {i : Int} {t : Tok} (KX : K.In h) (G : h.Ns mainGlobals mg) (e : PySem.W.nsIn K mainGlobals x = some (some (.int i t))) : CsT K mg ct x (.int i) :=
  ⟨.int i, _, PySem.W.mg_of KX G e, ⟨_, rfl⟩, fun H => .int i⟩
theorem csT_str {x : Str} {z : Str} {t : Tok} (KX : K.In h) (G : h.Ns mainGlobals mg) (e : PySem.W.nsIn K mainGlobals x = some (some (.str z t))) : CsT K mg ct x (.str z) :=
  ⟨.str z, _, PySem.W.mg_of KX G e, ⟨_, rfl⟩, fun H => .str z⟩
/-- a def with no defaults -/
theorem fnT0 {x : Str} {st : Stmt} {f : Addr} {oc : Value} {od an : Option Addr} {osl : Array (Option Value)} {kV doc pm cdv ct : Value} (KX : K.In h) (G : h.Ns mainGlobals mg) (e : PySem.W.nsIn K mainGlobals x = some (some (.ref f)))
    (l : K.lookup f = some ⟨oc, od, .func (PySem.W.fnOf x x (defArgs st) (defBody st) (defScope st) .none kV doc pm an cdv ct), osl⟩) (c : PySem.W.codeIn K cdv x = true) (k : PySem.W.keepIn K (.ref f) = true) : FnT K mg x st [] :=
  ⟨f, _, PySem.W.mg_of KX G e, ⟨⟨oc, od, _, kV, doc, pm, an, cdv, ct, osl, rfl, l, c, .inl ⟨rfl, rfl⟩, .inl rfl⟩, k⟩⟩
theorem fnT1 {x : Str} {st : Stmt} {f T : Addr} {oc : Value} {od an : Option Addr} {osl : Array (Option Value)} {kV doc pm cdv ct : Value} {o2 : Value} {c2 : Option Addr} {its : Array Value} {n : Nat} {sl : Array (Option Value)} {dvs : List V} (KX : K.In h) (G : h.Ns mainGlobals mg) (e : PySem.W.nsIn K mainGlobals x = some (some (.ref f)))
    (l : K.lookup f = some ⟨oc, od, .func (PySem.W.fnOf x x (defArgs st) (defBody st) (defScope st) (.ref T) kV doc pm an cdv ct), osl⟩) (c : PySem.W.codeIn K cdv x = true) (k : PySem.W.keepIn K (.ref f) = true) (lT : K.lookup T = some ⟨o2, c2, .seq its n, sl⟩) (hd : dvs ≠ []) (hv : Vals dvs its.toList) : FnT K mg x st dvs :=
  ⟨f, _, PySem.W.mg_of KX G e, ⟨⟨oc, od, _, kV, doc, pm, an, cdv, ct, osl, rfl, l, c, .inr ⟨hd, T, _, its.toList, n, rfl, lT, by simp, hv⟩, .inl rfl⟩, k⟩⟩
end
def exsOf (n c : Nat) (c1 : Nat) : Option Bool := if c1 < n then some (c1 == c) else none
theorem exsOf_one {n c : Nat} : ∀ c1, exsOf n c c1 = some true → c1 = c := fun c1 h => by
  unfold exsOf at h
  split at h
  · simpa using h
  · cases h
def ctOf (l : List Addr) (n : Nat) : Addr := l.getD n 0
theorem errH_mk {K : PySem.W.Frag} {mg : Str → Option Value} {h : Heap} {l : List Addr} {x : Str} {c : Nat} {C : Addr} (KX : K.In h) (G : h.Ns mainGlobals mg) (hc : l.getD c 0 = C) (e : PySem.W.nsIn K mainGlobals x = some (some (.ref C))) (hx : xfB K C = true)
    (hm : (List.range l.length).all (fun c1 => PySem.W.exmOne K (.ref (l.getD c1 0)) (.ref C) == some (c1 == c)) = true) : ErrH K mg (ctOf l) x c (exsOf l.length c) := by
  subst hc
  refine ⟨xfB_ok hx, PySem.W.mg_of KX G e, fun c1 b h => ?_⟩
  unfold exsOf at h
  split at h
  · rename_i lt
    cases h
    have := List.all_eq_true.mp hm c1 (List.mem_range.mpr lt)
    exact eq_of_beq this
  · cases h
end Fd
namespace Fd
open PySem PySem.Spec PyProof.Rows L2
/-! ## which argument goes where: (0, i) the i-th positional one, (1, i) the i-th default, (2, i) the i-th keyword -/
def pick {α : Type} (us its ws : List α) (p : Nat × Nat) : Option α := match p.1 with
  | 0 => us[p.2]?
  | 1 => its[p.2]?
  | _ => ws[p.2]?
def gsel (sel : List (Nat × Nat)) {α : Type} (us its ws : List α) : List α := sel.filterMap (pick us its ws)
theorem paired_at {α β : Type} {R : α → β → Prop} {as : List α} {bs : List β} (h : Paired R as bs) : ∀ i : Nat, (∃ a b, as[i]? = some a ∧ bs[i]? = some b ∧ R a b) ∨ (as[i]? = none ∧ bs[i]? = none) := by
  induction bs generalizing as with
  | nil => cases h; intro i; exact .inr ⟨by simp, by simp⟩
  | cons b bs ih =>
    cases h with
    | cons r t =>
      intro i
      cases i with
      | zero => exact .inl ⟨_, _, rfl, rfl, r⟩
      | succ i => simpa using ih t i
theorem repDs_paired {K : PySem.W.Frag} {ct : Nat → Addr} {H : Hp} {vs : List V} {ds : List D} (h : RepDs K ct H vs ds) : Paired (RepD K ct H) vs ds := by
  induction ds generalizing vs with
  | nil => cases h; exact .nil
  | cons d ds ih => cases h with | cons r t => exact .cons r (ih t)
theorem paired_repDs {K : PySem.W.Frag} {ct : Nat → Addr} {H : Hp} {vs : List V} {ds : List D} (h : Paired (RepD K ct H) vs ds) : RepDs K ct H vs ds := by
  induction ds generalizing vs with
  | nil => cases h; exact .nil
  | cons d ds ih => cases h with | cons r t => exact .cons r (ih t)
theorem gsel_rel {α β : Type} {R : α → β → Prop} (sel : List (Nat × Nat)) {us its ws : List α} {us' its' ws' : List β} (h1 : Paired R us us') (h2 : Paired R its its') (h3 : Paired R ws ws') : Paired R (gsel sel us its ws) (gsel sel us' its' ws') := by
  unfold gsel
  induction sel with
  | nil => exact .nil
  | cons p sel ih =>
    have key : (∃ a b, pick us its ws p = some a ∧ pick us' its' ws' p = some b ∧ R a b) ∨ (pick us its ws p = none ∧ pick us' its' ws' p = none) := by
      unfold pick
      split
      · exact paired_at h1 _
      · exact paired_at h2 _
      · exact paired_at h3 _
    rcases key with ⟨a, b, e1, e2, r⟩ | ⟨e1, e2⟩
    · rw [List.filterMap_cons_some e1, List.filterMap_cons_some e2]
      exact .cons r ih
    · rw [List.filterMap_cons_none e1, List.filterMap_cons_none e2]
      exact ih
section
variable {P : Program} {w : World} {K : PySem.W.Frag} {mg : Str → Option Value} {base : Heap} {x : Str} {dvs : List V}
theorem okKs {st : Stmt} {N ps : List Str} {k : Nat} {ct : Nat → Addr} {m : M Fl} {dd : List D} (T : FnT K mg x st dvs) (S : FnScope N ps (defScope st)) (n : Nat) (ks : List Str) (sel : List (Nat × Nat)) (hd : dvs ≠ []) (hdd : ∀ H, RepDs K ct H dvs dd)
    (hbd : ∀ (T : Addr) (kV doc pm : Value) (an : Option Addr) (cdv ct : Value) (us its ws : List Value), us.length = n → its.length = dvs.length → ws.length = ks.length →
      ∃ k, bindArgs (PySem.W.fnOf x x (defArgs st) (defBody st) (defScope st) (.ref T) kV doc pm an cdv ct) ⟨us, ks.zip ws⟩ = seqItems? (.ref T) >>= k ∧ k (some its.toArray) = pure (ps.zip (gsel sel us its ws)))
    (hb : ∀ (f : Addr) (cdv : Value) (A : Around) (outer : List Env) (s : Shared) (H : Hp) (E : XK), Room k (A.deeper (envOfC x (defScope st) s.heap.objs.size f cdv)) →
      SDs (cxOf (L2.CX P w) P w K mg base N x (defScope st) f cdv A outer s H E) ct (fun cls d _ H => E cls d H) (defBody st) m) : OkK P w K mg base ct x ps.length (k + 1) (runP N.length m) n ks (fun ds es => gsel sel ds dd es) :=
  okKw T S n ks (gsel sel) hd hdd (fun h1 h2 h3 => gsel_rel sel h1 h2 h3) (fun H vs ds zs us its ws h1 h2 h3 => paired_repDs (gsel_rel sel (repDs_paired h1) (repDs_paired h2) (repDs_paired h3))) hbd hb
end
end Fd
set_option Elab.async false
set_option linter.all false
set_option maxRecDepth 100000
set_option maxHeartbeats 4000000
namespace Fd
open PySem PySem.Spec PyProof.Rows L2
/-! ## the hand: what a take does -/
def skipZ (g : List Int) : List Int := g.dropWhile (· == 0)
def mixH (h : Hand) : Hand := ⟨[], (h.mixed * 69621 + 12345) % 2147483647, h.cnt + 1⟩
def onceH (h : Hand) : Int := (h.mixed * 48271 + h.cnt * 7919) % 2147483629
def twiceH (h : Hand) : Int := (onceH h * onceH h + h.cnt * 104729 + onceH h / 131) % 2147483587
def takeF (n : Int) (h : Hand) : Int × Hand := match skipZ h.great with
  | c :: r => (c % n, { h with great := c.fdiv n :: r })
  | [] => ((twiceH (mixH h) / 17) % n, mixH h)
def R_law_take (xs : List SV) (h : Hand) : Res × Hand := match xs with
  | [.hand, .dat (.int n)] => if 0 < n ∧ n.natAbs.log2 < 9000 then (.ret (.dat (.int (takeF n h).1)), (takeF n h).2) else (.bad, h)
  | _ => (.bad, h)
theorem once_lt (h : Hand) : 0 ≤ onceH h ∧ onceH h < 2147483629 := ⟨Int.emod_nonneg _ (by decide), Int.emod_lt_of_pos _ (by decide)⟩
theorem r_ix {K : PySem.W.Frag} {σ : L2.St} {H : Hp} {Q : VK} {j : Nat} {a : Addr} {xs : List V} {i : Int} {v : V} (h1 : σ[j]? = some (some (.ref a))) (h2 : H a = some (.lst xs)) (h3 : atI xs i = some v) (q : Q v H) : tOp (rIxL K) (tVar j) (tC (.int i)) σ H Q :=
  ⟨_, h1, a, xs, i, v, rfl, rfl, .inl (.inl h2), h3, q⟩
theorem r_ix2 {K : PySem.W.Frag} {σ : L2.St} {H : Hp} {Q : VK} {j : Nat} {a b : Addr} {xs ys : List V} {i k : Int} {v : V} (h1 : σ[j]? = some (some (.ref a))) (h2 : H a = some (.lst xs)) (h3 : atI xs i = some (.ref b)) (h4 : H b = some (.lst ys)) (h5 : atI ys k = some v) (q : Q v H) : tOp (rIxL K) (tOp (rIxL K) (tVar j) (tC (.int i))) (tC (.int k)) σ H Q :=
  r_ix h1 h2 h3 ⟨b, ys, k, v, rfl, rfl, .inl (.inl h4), h5, q⟩
theorem cutV_tail (x : V) (xs : List V) : cutV (x :: xs) (some 1) none = xs := by
  unfold cutV
  have : HT.sIx (x :: xs).length 0 (some 1) = 1 := by
    have := HT.sIx_nat (x :: xs).length 0 1
    rw [show ((1 : Nat) : Int) = 1 from rfl] at this
    rw [this]; simp
  rw [this, HT.sIx_none]; simp
theorem skipZ_cons0 (r : List Int) : skipZ (0 :: r) = skipZ r := rfl
theorem skipZ_ne {c : Int} (r : List Int) (h : ¬ c = 0) : skipZ (c :: r) = c :: r := by
  unfold skipZ
  rw [List.dropWhile_cons_of_neg (by simpa using h)]
end Fd
namespace Fd
open PySem PySem.Spec PyProof.Rows L2
/-! ## reading a take -/
def tI (i : Int) : TE := tC (.int i)
def hIx (K : PySem.W.Frag) (i : Int) : TE := tOp (rIxL K) (tVar 0) (tI i)
def tInt1 (t : TE) : TE := tCB (fun xs H Q => (∃ i, xs = [.int i] ∧ Q (.int i) H) ∨ ∃ k, xs = [.bl k] ∧ Q (.int (if k then 1 else 0)) H) (tCons t tNil)
def opA : R2 := rI0 fun i j => .int (i + j)
def opM : R2 := rI CMul fun i j => .int (i * j)
def opR : R2 := rI (fun _ j => 0 < j) fun i j => .int (i % j)
def takeT (K : PySem.W.Frag) : TS :=
  tSeq (tWhile (tAnd (fun σ H Q => hIx K 0 σ H fun x H' => ∃ k, TruV K x H' k ∧ Q k H') (tTest (tOp rEq (tOp (rIxL K) (hIx K 0) (tI 0)) (tI 0))))
      (tAsg (tSl (rSlL K) (hIx K 0) (tPart (tI 1)) tNoPart) (gSub (tVar 0) (tI 0) rSetL)))
    (tSeq (tIfS (fun σ H Q => hIx K 0 σ H fun x H' => ∃ k, TruV K x H' k ∧ Q k H')
      (tSeq (tAsg (tOp (rIxL K) (hIx K 0) (tI 0)) (gName 2))
      (tSeq (tAsg (tOp (rI (fun _ j => j ≠ 0 ∧ j.natAbs.log2 < 9000) fun i j => .int (i.fdiv j)) (tInt1 (tVar 2)) (tVar 1)) (gSub (hIx K 0) (tI 0) rSetL))
      (tRet (tOp opR (tInt1 (tVar 2)) (tVar 1))))) tNext)
    (tSeq (tAsg (tOp opA (hIx K 2) (tI 1)) (gSub (tVar 0) (tI 2) rSetL))
    (tSeq (tAsg (tOp opR (tInt1 (tOp opA (tOp opM (hIx K 1) (tI 69621)) (tI 12345))) (tI 2147483647)) (gSub (tVar 0) (tI 1) rSetL))
    (tSeq (tAsg (tOp opR (tInt1 (tOp opA (tOp opM (hIx K 1) (tI 48271)) (tOp opM (hIx K 2) (tI 7919)))) (tI 2147483629)) (gName 3))
    (tSeq (tAsg (tOp opR (tInt1 (tOp opA (tOp opA (tOp opM (tVar 3) (tVar 3)) (tOp opM (hIx K 2) (tI 104729))) (tOp (rI CDiv fun i j => .int (i / j)) (tVar 3) (tI 131)))) (tI 2147483587)) (gName 4))
    (tRet (tOp opR (tInt1 (tOp (rI CDiv fun i j => .int (i / j)) (tVar 4) (tI 17))) (tVar 1))))))))
theorem atI_0 {α : Type} {x : α} {xs : List α} : atI (x :: xs) 0 = some x := by
  unfold atI ixN; simp
theorem atI3 {α : Type} {x y z : α} : atI [x, y, z] 0 = some x ∧ atI [x, y, z] 1 = some y ∧ atI [x, y, z] 2 = some z := by
  unfold atI ixN; simp
theorem ixN3 : ixN 3 0 = some 0 ∧ ixN 3 1 = some 1 ∧ ixN 3 2 = some 2 := by
  unfold ixN; simp
theorem ixN_0 {n : Nat} : ixN (n + 1) 0 = some 0 := by unfold ixN; simp
theorem cmulR {i j : Int} (h : -(2 ^ 64) < j ∧ j < 2 ^ 64) : CMul i j := .inr h
theorem hx {K : PySem.W.Frag} {σ : L2.St} {H : Hp} {Q : VK} {a g : Addr} {m c : Int} (h1 : σ[0]? = some (some (.ref a))) (h2 : H a = some (.lst [.ref g, .int m, .int c])) :
    (Q (.ref g) H → hIx K 0 σ H Q) ∧ (Q (.int m) H → hIx K 1 σ H Q) ∧ (Q (.int c) H → hIx K 2 σ H Q) :=
  ⟨fun q => r_ix h1 h2 atI3.1 q, fun q => r_ix h1 h2 atI3.2.1 q, fun q => r_ix h1 h2 atI3.2.2 q⟩
structure TkInv (H0 : Hp) (ah g : Addr) (h : Hand) (g' : Addr) (gr : List Int) (H : Hp) : Prop where
  hr : HandR ah g' H ⟨gr, h.mixed, h.cnt⟩
  gg : g' = g ∨ H0 g' = none
  sk : skipZ gr = skipZ h.great
  kp : ∀ a o, H0 a = some o → a ≠ ah → a ≠ g → H a = some o
  th : ∀ a, H0 a ≠ none → H a ≠ none
theorem handR_ne {ah g : Addr} {H : Hp} {h : Hand} (x : HandR ah g H h) : g ≠ ah := fun z => by
  obtain ⟨h1, h2⟩ := x
  rw [z, h1] at h2
  have := HO.lst.inj (Option.some.inj h2)
  cases e : h.great with
  | nil => rw [e] at this; cases this
  | cons c r => rw [e] at this; injection this with t1 t2; cases t1
theorem take_read {K : PySem.W.Frag} {ct : Nat → Addr} {vs : List V} {H : Hp} {Q : VK} {E : XK} {N : List Str} (hN : N.length = 5) (h : spH K ct 2 R_law_take vs H Q E) : takeT K { nx := fun _ H' => Q .non H', rt := Q } (L2.start N vs) H := by
  obtain ⟨hl, ah, g, hd, xs, hh, rp, gd⟩ := h
  match xs, rp, gd with
  | [.hand, .dat (.int n)], rp, gd =>
    cases rp with
    | cons r1 rp =>
      cases rp with
      | cons r2 rp =>
        cases rp
        cases r2
        obtain rfl := r1
        unfold GoodH R_law_take at gd
        by_cases hc : 0 < n ∧ n.natAbs.log2 < 9000
        · simp only [if_pos hc] at gd
          obtain ⟨σ, e⟩ : ∃ σ, L2.start N [V.ref ah, V.int n] = σ := ⟨_, rfl⟩
          have eσ : L2.start N [V.ref ah, V.int n] = [some (.ref ah), some (.int n), none, none, none] := by
            unfold L2.start; simp [hN]
          rw [eσ]
          clear e σ
          let σ0 : L2.St := [some (.ref ah), some (.int n), none, none, none]
          refine ⟨fun m σ H' => σ = σ0 ∧ ∃ g' gr, gr.length = m ∧ TkInv H ah g hd g' gr H', ⟨hd.great.length, rfl, g, hd.great, rfl, ⟨hh, .inl rfl, rfl, fun a o e _ _ => e, fun a z => z⟩⟩, ?_⟩
          rintro m σ H1 ⟨rfl, g', gr, hm, I⟩
          have e1 : H1 ah = some (.lst [.ref g', .int hd.mixed, .int hd.cnt]) := I.hr.1
          have e2 : H1 g' = some (.lst (gr.map V.int)) := I.hr.2
          have ne : g' ≠ ah := handR_ne I.hr
          refine (hx (K := K) (σ := σ0) rfl e1).1 ⟨!gr.isEmpty, .inl ⟨gr.map V.int, .inl (.inl e2), by cases gr <;> rfl⟩, ?_⟩
          -- what the loop leaves: the cells from the first that is not 0
          have rest : ∀ c r, gr = c :: r → ¬ c = 0 → skipZ hd.great = c :: r := fun c r e hz => by rw [← I.sk, e, skipZ_ne r hz]
          cases gr with
          | nil =>
            refine iteF ?_
            refine iteF ?_
            have sk0 : skipZ hd.great = [] := I.sk.symm
            -- no cell
            refine (hx (K := K) (σ := σ0) rfl e1).1 ⟨false, .inl ⟨[], .inl (.inl e2), rfl⟩, ?_⟩
            refine iteF ?_
            refine (hx (K := K) (σ := σ0) rfl e1).2.2 ⟨_, _, rfl, rfl, _, rfl, ah, _, 2, 2, rfl, rfl, e1, ixN3.2.2, ?_⟩
            have e3 : (upd H1 ah (.lst [.ref g', .int hd.mixed, .int (hd.cnt + 1)])) ah = some (.lst [.ref g', .int hd.mixed, .int (hd.cnt + 1)]) := upd_same
            generalize hH2 : (upd H1 ah (.lst [.ref g', .int hd.mixed, .int (hd.cnt + 1)])) = H2 at e3
            have hH2' : (upd H1 ah (.lst ([V.ref g', V.int hd.mixed, V.int hd.cnt].set 2 (V.int (hd.cnt + 1))))) = H2 := hH2
            rw [hH2']
            refine (hx (K := K) (σ := σ0) rfl e3).2.1 ⟨_, _, rfl, rfl, cmulR (by decide), _, _, rfl, rfl, .inl ⟨_, rfl, _, _, rfl, rfl, (show (0 : Int) < 2147483647 by decide), _, rfl, ah, _, 1, 1, rfl, rfl, e3, ixN3.2.1, ?_⟩⟩
            have e4 : (upd H2 ah (.lst [.ref g', .int (mixH hd).mixed, .int (mixH hd).cnt])) ah = some (.lst [.ref g', .int (mixH hd).mixed, .int (mixH hd).cnt]) := upd_same
            generalize hH3 : (upd H2 ah (.lst [.ref g', .int (mixH hd).mixed, .int (mixH hd).cnt])) = H3 at e4
            have hH3' : (upd H2 ah (.lst ([V.ref g', V.int hd.mixed, V.int (hd.cnt + 1)].set 1 (V.int ((hd.mixed * 69621 + 12345) % 2147483647))))) = H3 := hH3
            rw [hH3']
            refine (hx (K := K) (σ := σ0) rfl e4).2.1 ⟨_, _, rfl, rfl, cmulR (by decide), (hx (K := K) (σ := σ0) rfl e4).2.2 ⟨_, _, rfl, rfl, cmulR (by decide), _, _, rfl, rfl, .inl ⟨_, rfl, _, _, rfl, rfl, (show (0 : Int) < 2147483629 by decide), ?_⟩⟩⟩
            have ol := once_lt (mixH hd)
            let σ1 : L2.St := [some (.ref ah), some (.int n), none, some (.int (onceH (mixH hd))), none]
            refine ⟨_, rfl, _, rfl, _, _, rfl, rfl, cmulR (show -(2 ^ 64) < onceH (mixH hd) ∧ onceH (mixH hd) < 2 ^ 64 by omega), (hx (K := K) (σ := σ1) rfl e4).2.2 ⟨_, _, rfl, rfl, cmulR (by decide), _, _, rfl, rfl, _, rfl, _, _, rfl, rfl, ⟨by decide, by decide⟩, _, _, rfl, rfl, .inl ⟨_, rfl, _, _, rfl, rfl, (show (0 : Int) < 2147483587 by decide), ?_⟩⟩⟩
            refine ⟨_, rfl, _, _, rfl, rfl, ⟨by decide, by decide⟩, .inl ⟨_, rfl, _, rfl, _, _, rfl, rfl, hc.1, ?_⟩⟩
            have tk : takeF n hd = ((twiceH (mixH hd) / 17) % n, mixH hd) := by unfold takeF; rw [sk0]
            rw [tk] at gd
            have kp3 : ∀ a o, H a = some o → a ≠ ah → a ≠ g → H3 a = some o := fun a o ea n1 n2 => by
              rw [← hH3, upd_ne n1, ← hH2, upd_ne n1]
              exact I.kp a o ea n1 n2
            refine gd _ H3 g' kp3 (fun a ha => ?_) ⟨e4, ?_⟩ I.gg (RepD.int _) (fun ds z => by cases z)
            · rw [← hH3, ← hH2]
              exact there_upd _ (there_upd _ (I.th a ha))
            · rw [← hH3, upd_ne ne, ← hH2, upd_ne ne]
              exact e2
          | cons c r =>
            refine iteT ?_
            refine (hx (K := K) (σ := σ0) rfl e1).1 ⟨_, _, 0, .int c, rfl, rfl, .inl (.inl e2), atI_0, ?_⟩
            refine ⟨rfl, _, rfl, ?_⟩
            by_cases hz : c = 0
            · -- a 0 in front
              subst hz
              rw [show decide (V.int 0 = V.int 0) = true from decide_eq_true rfl]
              refine iteT ?_
              refine ⟨fun σ H' => σ = σ0 ∧ ∃ g2, TkInv H ah g hd g2 r H', fun σ' H' w => ⟨r.length, by rw [← hm]; simp, w.1, w.2.elim fun g2 J => ⟨g2, r, rfl, J⟩⟩, ?_⟩
              refine (hx (K := K) (σ := σ0) rfl e1).1 ⟨_, rfl, g', _, rfl, .inl (.inl e2), fun p np => ?_⟩
              have nap : ah ≠ p := fun z => by rw [← z, e1] at np; cases np
              have e1p : (upd H1 p (.lst (cutV ((0 :: r).map V.int) (some 1) none))) ah = some (.lst [.ref g', .int hd.mixed, .int hd.cnt]) := by rw [upd_ne nap]; exact e1
              refine ⟨_, rfl, ah, _, 0, 0, rfl, rfl, e1p, ixN3.1, rfl, p, ⟨⟨upd_same, ?_⟩, .inr ?_, ?_, fun a o ea n1 n2 => ?_, fun a ha => there_upd _ (there_upd _ (I.th a ha))⟩⟩
              · rw [upd_ne nap.symm, upd_same, List.map_cons, cutV_tail]
              · cases ep : H p with
                | none => rfl
                | some o => exact absurd np (I.th p (by rw [ep]; exact fun z => by cases z))
              · exact (skipZ_cons0 r).symm.trans I.sk
              · have npa : a ≠ p := fun z => I.th a (by rw [ea]; exact fun z => by cases z) (by rw [z]; exact np)
                rw [upd_ne n1, upd_ne npa]
                exact I.kp a o ea n1 n2
            · rw [show decide (V.int c = V.int 0) = false from decide_eq_false fun z => hz (V.int.inj z)]
              refine iteF ?_
              refine (hx (K := K) (σ := σ0) rfl e1).1 ⟨true, .inl ⟨_, .inl (.inl e2), rfl⟩, ?_⟩
              refine iteT ?_
              have sk1 : skipZ hd.great = c :: r := rest c r rfl hz
              refine (hx (K := K) (σ := σ0) rfl e1).1 ⟨_, _, 0, .int c, rfl, rfl, .inl (.inl e2), atI_0, ?_⟩
              let σ1 : L2.St := [some (.ref ah), some (.int n), some (.int c), none, none]
              refine ⟨_, rfl, .inl ⟨_, rfl, _, rfl, _, _, rfl, rfl, ⟨by omega, hc.2⟩, ?_⟩⟩
              refine (hx (K := K) (σ := σ1) rfl e1).1 ⟨g', _, 0, 0, rfl, rfl, e2, ixN_0, ?_⟩
              refine ⟨_, rfl, .inl ⟨_, rfl, _, rfl, _, _, rfl, rfl, hc.1, ?_⟩⟩
              have tk : takeF n hd = (c % n, { hd with great := c.fdiv n :: r }) := by unfold takeF; rw [sk1]
              rw [tk] at gd
              refine gd _ _ g' (fun a o ea n1 n2 => ?_) (fun a ha => there_upd _ (I.th a ha)) ⟨by rw [upd_ne ne.symm]; exact e1, upd_same⟩ I.gg (RepD.int _) (fun ds z => by cases z)
              have : a ≠ g' := fun z => by
                rcases I.gg with q | q
                · exact n2 (z.trans q)
                · rw [← z, ea] at q; cases q
              rw [upd_ne this]
              exact I.kp a o ea n1 n2
        · simp only [if_neg hc] at gd
end Fd
set_option Elab.async false
set_option linter.all false
set_option maxRecDepth 100000
set_option maxHeartbeats 4000000
namespace Fd
open PySem PySem.Spec PyProof.Rows L2
/-! ## the law's own hand from its script -/
def spN (K : PySem.W.Frag) : Sp := fun vs H Q _ => ∃ (a : Addr) (ns : List Int), vs = [.ref a] ∧ SqL K H a (ns.map V.int) ∧ ns.length ≤ 63 ∧ ∀ ah g h H', L2.Same H H' → H ah = none → H g = none → HandR ah g H' h → Q (.ref ah) H'
theorem spN_len {K : PySem.W.Frag} (vs : List V) (H : Hp) (Q : VK) (E : XK) (h : spN K vs H Q E) : vs.length = 1 := by
  obtain ⟨a, ns, rfl, _⟩ := h
  rfl
structure OkN (P : Program) (w : World) (K : PySem.W.Frag) (mg : Str → Option Value) (base : Heap) (x : Str) (k : Nat) : Prop where
  ex : ∃ (f : Addr) (fd : FuncData) (ps : List Str), ps.length = 1 ∧ mg x = some (.ref f) ∧ PySem.W.keepIn K (.ref f) = true ∧ FnOk P w K mg base (L2.CX P w) k f fd ps (spN K) ∧ Binds K fd ps []
def tAbs (t : TE) : TE := tCB (fun xs H Q => ∃ i, xs = [.int i] ∧ Q (.int (if i < 0 then -i else i)) H) (tCons t tNil)
def opG : R2 := rI0 fun i j => .bl (decide (j ≤ i))
def handT (K : PySem.W.Frag) : TS :=
  tSeq (tAsg (tLst tNil) (gName 1))
  (tSeq (tAsg (tOp opA (tCB (fun xs H Q => ∃ x n, xs = [x] ∧ LenV K x H n ∧ Q (.int n) H) (tCons (tVar 0) tNil)) (tI 7)) (gName 2))
  (tSeq (tFor (iList K (tVar 0)) (gName 3)
    (tSeq (tAsg (tAbs (tInt1 (tVar 3))) (gName 4))
    (tSeq (tAsg (tOp opA (tOp opR (tInt1 (tOp opA (tOp opM (tVar 2) (tI 31337)) (tVar 4))) (tI 2147483629)) (tI 1)) (gName 2))
    (tIfS (tTest (tOp opG (tVar 4) (tOp (rI CPow fun i j => .int (i ^ j.toNat)) (tI 10) (tI 18)))) (tDrop (tBM K "list" rAppend (tVar 1) (tCons (tVar 4) tNil))) tNext))))
  (tRet (tLst (tCons (tVar 1) (tCons (tVar 2) (tCons (tI 0) tNil)))))))
theorem hand_read {K : PySem.W.Frag} {vs : List V} {H : Hp} {Q : VK} {E : XK} {N : List Str} (hN : N.length = 5) (h : spN K vs H Q E) : handT K { nx := fun _ H' => Q .non H', rt := Q } (L2.start N vs) H := by
  obtain ⟨a, ns, rfl, hS, hl, k⟩ := h
  have eσ : L2.start N [V.ref a] = [some (.ref a), none, none, none, none] := by
    unfold L2.start; simp [hN]
  rw [eσ]
  refine ⟨Nat.zero_le _, fun g ng => ?_⟩
  have s1 : L2.Same H (upd H g (.lst [])) := fun b o e => by rw [upd_ne (ne_of_none e ng)]; exact e
  have sq : ∀ {H'}, L2.Same H H' → SqL K H' a (ns.map V.int) := fun s => s.seq hS
  refine ⟨_, rfl, _, _, rfl, .inl ⟨_, sq s1, rfl⟩, _, _, rfl, rfl, ?_⟩
  refine ⟨_, rfl, a, rfl, ⟨_, sq s1⟩, for_list (K := K) (a := a) (xs := ns.map V.int) (fun i σ H2 => ∃ (m : Int) (gr : List Int) (x y : Option V), σ = [some (.ref a), some (.ref g), some (.int m), x, y] ∧ L2.Same H H2 ∧ H2 g = some (.lst (gr.map V.int)) ∧ gr.length ≤ i)
    ⟨_, [], none, none, rfl, s1, upd_same, Nat.zero_le _⟩ (fun i σ H2 _ ⟨_, _, _, _, _, s2, _⟩ => sq s2) ?_ ?_⟩
  · rintro i y σ H2 hi ⟨m, gr, x, z, rfl, s2, hg, hi2⟩
    obtain ⟨c, rfl⟩ : ∃ c, y = V.int c := by
      rw [List.getElem?_map] at hi
      cases e : ns[i]? with
      | none => rw [e] at hi; cases hi
      | some c => rw [e] at hi; exact ⟨c, (Option.some.inj hi).symm⟩
    have hil : i < (ns.map V.int).length := (List.getElem?_eq_some_iff.mp hi).1
    rw [List.length_map] at hil
    refine ⟨_, rfl, .inl ⟨_, rfl, _, rfl, ?_⟩⟩
    refine ⟨_, rfl, _, _, rfl, rfl, cmulR (by decide), _, rfl, _, _, rfl, rfl, .inl ⟨_, rfl, _, _, rfl, rfl, (show (0 : Int) < 2147483629 by decide), _, _, rfl, rfl, ?_⟩⟩
    refine ⟨_, rfl, _, _, rfl, rfl, ⟨by decide, by decide, by decide⟩, _, _, rfl, rfl, _, rfl, ?_⟩
    refine ite2 (fun _ => ?_) fun _ => ?_
    · refine ⟨_, rfl, .inl ⟨rfl, _, .inl (.inl hg)⟩, _, rfl, g, _, _, rfl, rfl, hg, ?_, ?_⟩
      · rw [List.length_map]
        exact small1000 (by omega)
      · refine ⟨_, gr ++ [_], _, _, rfl, fun b o e => ?_, by rw [upd_same, List.map_append]; rfl, by simp; omega⟩
        rw [upd_ne (ne_of_none e ng)]
        exact s2 b o e
    · exact ⟨_, gr, _, _, rfl, s2, hg, by omega⟩
  · rintro σ H2 ⟨m, gr, x, y, rfl, s2, hg, _⟩
    refine ⟨_, rfl, _, rfl, Nat.le_of_lt (show 3 < sizeLine from small1000 (by decide)), fun p np => ?_⟩
    have ngp : g ≠ p := fun z => by rw [z, np] at hg; cases hg
    refine k p g ⟨gr, m, 0⟩ _ (fun b o e => ?_) ?_ ng ⟨upd_same, by rw [upd_ne ngp]; exact hg⟩
    · rw [upd_ne fun z => by rw [← z, s2 b o e] at np; cases np]
      exact s2 b o e
    · cases e : H p with
      | none => rfl
      | some o => rw [s2 p o e] at np; cases np
end Fd
set_option Elab.async false
set_option linter.all false
set_option maxRecDepth 100000
set_option maxHeartbeats 4000000
namespace Fd
open PySem PySem.Spec PyProof.Rows L2
/-! ## the law -/
def spLaw (K : PySem.W.Frag) : Sp := fun vs H Q _ => ∃ (a : Addr) (ns : List Int), vs = [.ref a] ∧ SqL K H a (ns.map V.int) ∧ ns.length ≤ 63 ∧ ∀ H', Q (.bl true) H'
def startL (n : Nat) (h : Hand) : S := ⟨none :: some .hand :: List.replicate (n - 2) none, [], some h⟩
/-- the law's first statement -/
structure HandSt (X : Cx) (st : Stmt) : Prop where
  ex : ∃ t0, PS X st t0 ∧ ∀ (N : Ends) (σ : L2.St) (H : Hp) (a : Addr) (ns : List Int), σ[0]? = some (some (.ref a)) → SqL X.K H a (ns.map V.int) → ns.length ≤ 63 →
    (∀ ah g h H', L2.Same H H' → H ah = none → H g = none → HandR ah g H' h → N.nx (σ.set 1 (some (.ref ah))) H') → t0 N σ H
theorem hand_st {X : Cx} {y z : Str} {p p2 p' pos pos2 : Pos} (O : OkN X.prog X.w X.K X.mg X.base "_law_hand" 1) (hr : Room 1 X.A) (hv : PE X (.Name z p2) (tVar 0)) (hgt : PG X (.Name y p') (gName 1)) (hg : Gl X "_law_hand" := by rfl)
    (he : starEach [.Name z p2] X.env = (false, eval (.Name z p2) X.env) :: starEach [] X.env := by rfl) (hpl : (backTo pos (starEach [] X.env)).any (·.1) = false := by rfl)
    (hs : swapsWithSole [.Name y p'] (.Call (.Name "_law_hand" p) [.Name z p2] [] pos) pos2.line X.env = pure false := by rfl) (hw : swappedStores [.Name y p'] (.Call (.Name "_law_hand" p) [.Name z p2] [] pos) X.env = pure none := by rfl)
    (h1 : (assignEach [.Name y p'] X.env).map (·.2) = [assign (.Name y p') X.env] := by rfl) : HandSt X (.Assign [.Name y p'] (.Call (.Name "_law_hand" p) [.Name z p2] [] pos) pos2) := by
  obtain ⟨f, fd, ps, _, hm, hk, F, hb⟩ := O.ex
  refine ⟨_, ps_asg (pe_call F hr hg hm hk hb .nil passL (pa_cons hv pa_nil he) (by decide) he hpl) hgt hs hw h1, fun N σ H a ns h0 hS hl k => ?_⟩
  refine ⟨_, h0, a, ns, rfl, hS, hl, fun ah g h H' s1 n1 n2 hR => ?_⟩
  exact k ah g h H' s1 n1 n2 hR
section
variable {P : Program} {w : World} {K : PySem.W.Frag} {mg : Str → Option Value} {base : Heap}
theorem okL {st st0 : Stmt} {rest : List Stmt} {N : List Str} {k : Nat} {ct : Nat → Addr} {m : M Fl} {x z : Str} {f : Addr} {fd : FuncData} (F : FunD K x x (defArgs st) (defBody st) (defScope st) [] [] f fd) (S : FnScope N [z] (defScope st)) (hN : 2 ≤ N.length) (hbd : defBody st = st0 :: rest)
    (hm : ∀ h, ∃ s', m (startL N.length h) = .ok (.rt (RB true)) s')
    (hb : ∀ (cdv : Value) (A : Around) (outer : List Env) (s : Shared) (H : Hp) (E : XK), Room k (A.deeper (envOfC x (defScope st) s.heap.objs.size f cdv)) →
      HandSt (cxOf (L2.CX P w) P w K mg base N x (defScope st) f cdv A outer s H E) st0 ∧ SDs (cxOf (L2.CX P w) P w K mg base N x (defScope st) f cdv A outer s H E) ct (fun cls d _ H => E cls d H) rest m) :
    FnOk P w K mg base (L2.CX P w) (k + 1) f fd [z] (spLaw K) := by
  refine F.ok S (fun vs H Q E h => ?_) fun cdv A outer s H vs Q E hr h => ?_
  · obtain ⟨a, ns, rfl, _⟩ := h
    rfl
  · obtain ⟨a, ns, rfl, hS, hl, kq⟩ := h
    obtain ⟨h0, hD⟩ := hb cdv A outer s H E hr
    obtain ⟨t0, p0, r0⟩ := h0.ex
    obtain ⟨t, p, r⟩ := hD.ex
    rw [hbd]
    refine ⟨_, pss_cons p0 p, ?_⟩
    have es : (L2.start N [V.ref a]) = some (.ref a) :: List.replicate (N.length - 1) none := by
      unfold L2.start; simp
    refine r0 _ _ H a ns (by rw [es]; rfl) hS hl fun ah g h H' s1 n1 n2 hR => ?_
    obtain ⟨s', em⟩ := hm h
    let γ0 : G := ⟨fun _ => 0, ah, g⟩
    have len0 : (L2.start N [V.ref a]).length = N.length := by rw [es]; simp; omega
    have R0 : Rep K ct γ0 H' ((L2.start N [V.ref a]).set 1 (some (.ref ah))) (startL N.length h) := by
      refine ⟨?_, fun i x e => ?_, fun k xs e => by simp [startL] at e, fun j k hj => ?_, fun h' e => ?_, fun _ k hk => ?_⟩
      · rw [List.length_set, len0]; simp [startL]; omega
      · match i, e with
        | 0, e => simp [startL] at e
        | 1, e =>
          simp [startL] at e
          subst e
          exact ⟨.ref ah, by rw [List.getElem?_set_self (by rw [len0]; omega)], rfl⟩
        | i + 2, e =>
          simp [startL, List.getElem?_replicate] at e
      · obtain ⟨xs, e⟩ := hj
        simp [startL] at e
      · simp [startL] at e; subst e; exact hR
      · obtain ⟨xs, e⟩ := hk
        simp [startL] at e
    refine r _ _ H' γ0 (startL N.length h) R0 ?_
    unfold GoodS
    rw [em]
    intro v σ' γ' H2 st2 R2 q
    cases q
    exact kq H2
/-- the end: a def law, its facts, its walk over every base -/
theorem law_end {l : PySem.W.OpenLaw} {q : Program} {loose : List Str} {XP : (Str → Option Value) → Heap → Prop} {YP : World → Heap → Prop} {d : DefRec} {K : Params → PySem.W.Frag} {k : Nat} (hn : l.most = some 63) (hdf : d.params.defaults = []) (hr : Room k callerA)
    (hY : ∀ (w : World) (h : Heap), YP w h → (K w.params).In h)
    (F : ∀ (w : World) (mg : Str → Option Value) (fa : Addr) (h : Heap), (K w.params).In h → h.Ns mainGlobals mg → mg d.name = some (.ref fa) →
      ∃ fd : FuncData, (∀ (s : Shared) (u : Value), BindsTo s fd ⟨[u], []⟩ [("_law_script", u)]) ∧ ∀ base : Heap, (K w.params).In base → base.Ns mainGlobals mg → FnOk l.prog w (K w.params) mg base (L2.CX l.prog w) k fa fd ["_law_script"] (spLaw (K w.params))) :
    PySem.W.WalkO q loose XP YP l.row.toRowW d [] (fun f vs => PySem.call f vs) :=
  L2.walk_of (n := 63) (k := k) (x := "_law_script") (CX := fun w => L2.CX l.prog w) (sp := fun w => spLaw (K w.params)) hn (by decide) hdf hr hY F (fun _ _ a ns hl _ hS => ⟨a, ns, rfl, hS, hl, fun _ => rfl⟩) fun w H s e s' h => by
    obtain ⟨a, B, H', cls, d, _, _, _, _, _, _, _, z⟩ := h
    exact z
end
end Fd
namespace Fd
open PySem
theorem freeNames_of {c : Str} : ∀ {l : List (Str × NameKind)}, (∀ p ∈ l, p.2 = .free → p.1 = c) → ∀ x, l.lookup x = some .free → x = c
  | [], _, x, h => by cases h
  | (y, k) :: l, hl, x, h => by
    rw [List.lookup_cons] at h
    split at h
    · rename_i e
      cases h
      have := hl (y, .free) (by simp) rfl
      rw [eq_of_beq e]; exact this
    · exact freeNames_of (fun p hp => hl p (by simp [hp])) x h
end Fd
set_option Elab.async false
set_option linter.all false
set_option maxRecDepth 100000
set_option maxHeartbeats 4000000
namespace Fd
open PySem PySem.Spec PyProof.Rows L2
/-! ## how the combinators compute, for simp -/
def isNoD : D → Bool
  | .non => true
  | _ => false
@[simp] theorem no_non : isNoD .non = true := rfl
@[simp] theorem no_int (a : Int) : isNoD (.int a) = false := rfl
@[simp] theorem no_bl (a : Bool) : isNoD (.bl a) = false := rfl
@[simp] theorem no_str (a : Str) : isNoD (.str a) = false := rfl
@[simp] theorem no_tup (a : List D) : isNoD (.tup a) = false := rfl
@[simp] theorem no_lst (a : List D) : isNoD (.lst a) = false := rfl
section
variable {α β : Type} (s : S)
@[simp] theorem e_pur (a : α) : (pur a : M α) s = .ok a s := rfl
@[simp] theorem e_bnd (m : M α) (f : α → M β) : bnd m f s = match m s with
  | .ok a s' => f a s'
  | .exc x s' => .exc x s'
  | .bad => .bad := rfl
@[simp] theorem e_stuck : (stuck : M α) s = .bad := rfl
@[simp] theorem e_m2 (a b : M RV) (f) : m2 a b f s = bnd a (fun x => bnd b fun y => f x y) s := rfl
@[simp] theorem e_getV (i : Nat) : getV i s = match s.env[i]? with
  | some (some x) => .ok (.sv x) s
  | _ => .bad := rfl
@[simp] theorem e_setV (i : Nat) (x : SV) : setV i x s = .ok () { s with env := s.env.set i (some x) } := rfl
@[simp] theorem e_retF (m : M RV) : retF m s = bnd m (fun r => pur (.rt r)) s := rfl
@[simp] theorem e_dropF (m : M RV) : dropF m s = bnd m (fun r => pur .nx) s := rfl
@[simp] theorem e_seqF (m g : M Fl) : seqF m g s = match m s with
  | .ok .nx s' => g s'
  | .ok f s' => .ok f s'
  | .exc x s' => .exc x s'
  | .bad => .bad := by
  unfold seqF bnd
  cases m s with
  | ok f s' => cases f <;> rfl
  | exc => rfl
  | bad => rfl
@[simp] theorem e_ifF (t : M Bool) (a b : M Fl) : ifF t a b s = match t s with
  | .ok true s' => a s'
  | .ok false s' => b s'
  | .exc x s' => .exc x s'
  | .bad => .bad := by
  unfold ifF bnd
  cases t s with
  | ok f s' => cases f <;> rfl
  | exc => rfl
  | bad => rfl
@[simp] theorem e_ifE (t : M Bool) (a b : M RV) : ifE t a b s = match t s with
  | .ok true s' => a s'
  | .ok false s' => b s'
  | .exc x s' => .exc x s'
  | .bad => .bad := by
  unfold ifE bnd
  cases t s with
  | ok f s' => cases f <;> rfl
  | exc => rfl
  | bad => rfl
@[simp] theorem e_asgF (m : M RV) (f) : asgF m f s = match m s with
  | .ok (.sv x) s' => nxU (f x) s'
  | .ok (.new _) _ => .bad
  | .exc x s' => .exc x s'
  | .bad => .bad := by
  unfold asgF bnd
  cases m s with
  | ok f s' => cases f <;> rfl
  | exc => rfl
  | bad => rfl
@[simp] theorem e_consA (m : M RV) (mA) : consA m mA s = match m s with
  | .ok (.sv x) s' => bnd mA (fun xs => pur (x :: xs)) s'
  | .ok (.new _) _ => .bad
  | .exc x s' => .exc x s'
  | .bad => .bad := by
  unfold consA bnd
  cases m s with
  | ok f s' => cases f <;> rfl
  | exc => rfl
  | bad => rfl
@[simp] theorem e_consB (m : M RV) (mA) : consB m mA s = bnd m (fun x => bnd mA fun xs => pur (x :: xs)) s := rfl
@[simp] theorem e_parF (i j : Nat) (mA) : parF i j mA s = bnd mA (fun xs s => match xs with
  | [x, y] => .ok .nx { s with env := (s.env.set i (some x)).set j (some y) }
  | _ => .bad) s := rfl
@[simp] theorem e_andT (a b : M Bool) : andT a b s = match a s with
  | .ok true s' => b s'
  | .ok false s' => .ok false s'
  | .exc x s' => .exc x s'
  | .bad => .bad := by
  unfold andT bnd
  cases a s with
  | ok f s' => cases f <;> rfl
  | exc => rfl
  | bad => rfl
@[simp] theorem e_orT (a b : M Bool) : orT a b s = match a s with
  | .ok true s' => .ok true s'
  | .ok false s' => b s'
  | .exc x s' => .exc x s'
  | .bad => .bad := by
  unfold orT bnd
  cases a s with
  | ok f s' => cases f <;> rfl
  | exc => rfl
  | bad => rfl
@[simp] theorem e_notT (a : M Bool) : notT a s = bnd a (fun b => pur (!b)) s := rfl
@[simp] theorem e_truthM (r : RV) : truthM r s = match trB s r with
  | some b => .ok b s
  | none => .bad := rfl
@[simp] theorem e_notM (r : RV) : notM r s = match trB s r with
  | some b => .ok (RB (!b)) s
  | none => .bad := rfl
@[simp] theorem e_andV (a b : M RV) : andV a b s = bnd a (fun x s => match trB s x with
  | some true => b s
  | some false => .ok x s
  | none => .bad) s := rfl
@[simp] theorem e_orV (a b : M RV) : orV a b s = bnd a (fun x s => match trB s x with
  | some true => .ok x s
  | some false => b s
  | none => .bad) s := rfl
@[simp] theorem e_tupM (xs : List SV) : tupM xs s = match datL xs with
  | some ds => if ds.length ≤ 1000 then .ok (RT ds) s else .bad
  | none => .bad := rfl
@[simp] theorem e_lstM (xs : List SV) : lstM xs s = if xs.length ≤ 1000 then .ok (.new xs) s else .bad := rfl
@[simp] theorem e_callM (n F dd xs) : callM n F dd xs s = match datL xs with
  | some ds => if (ds ++ dd).length = n then toRes (F (ds ++ dd)) s else .bad
  | none => .bad := by
  unfold callM
  cases datL xs with
  | none => rfl
  | some ds => dsimp only; split <;> rfl
@[simp] theorem e_callH (n F dd xs) : callH n F dd xs s = match s.hd with
  | some (.hand h) => if (xs ++ dd.map SV.dat).length = n then if xs.all noRef = true then match F (xs ++ dd.map SV.dat) h with
    | (.ret (.dat d), h') => .ok (RD d) { s with hd := some h' }
    | (.ret (.new ds), h') => .ok (.new (ds.map SV.dat)) { s with hd := some h' }
    | _ => .bad
    else .bad else .bad
  | _ => .bad := rfl
@[simp] theorem e_toResD (d : D) : toRes (.ret (.dat d)) s = .ok (RD d) s := rfl
@[simp] theorem e_toResN (ds : List D) : toRes (.ret (.new ds)) s = .ok (.new (ds.map SV.dat)) s := rfl
@[simp] theorem e_toResX (x : Exn) : toRes (.exc x) s = .exc x s := rfl
@[simp] theorem e_toResB : toRes .bad s = .bad := rfl
@[simp] theorem e_datL0 : datL [] = some [] := rfl
@[simp] theorem e_datL1 (d : D) (r : List SV) : datL (.dat d :: r) = match datL r with
  | some ds => some (d :: ds)
  | none => none := rfl
@[simp] theorem e_datLm (ds : List D) : datL (ds.map SV.dat) = some ds := datL_map ds
@[simp] theorem e_frzD (d : D) : frz (.sv (.dat d)) s = .ok (.sv (.dat d)) s := rfl
@[simp] theorem e_frzN (xs : List SV) : frz (.new xs) s = match datL xs with
  | some ds => .ok (.sv (.dat (.lst ds))) s
  | none => .bad := rfl
@[simp] theorem e_nxU (m : M Unit) : nxU m s = match m s with
  | .ok _ s' => .ok .nx s'
  | _ => .bad := rfl
@[simp] theorem e_asB (b : Bool) : asB (RB b) s = .ok b s := rfl
@[simp] theorem e_asI (i : Int) : asI (RI i) s = .ok (some i) s := rfl
@[simp] theorem e_int2 (g i j) : int2 g (RI i) (RI j) s = .ok (g i j) s := rfl
@[simp] theorem e_int2g (C g i j) : int2g C g (RI i) (RI j) s = if C i j = true then .ok (g i j) s else .bad := rfl
@[simp] theorem e_subM (i j : Int) : subM (RI i) (RI j) s = .ok (RI (i - j)) s := rfl
@[simp] theorem e_ltM (i j : Int) : ltM (RI i) (RI j) s = .ok (RB (decide (i < j))) s := rfl
@[simp] theorem e_leM (i j : Int) : leM (RI i) (RI j) s = .ok (RB (decide (i ≤ j))) s := rfl
@[simp] theorem e_gtM (i j : Int) : gtM (RI i) (RI j) s = .ok (RB (decide (j < i))) s := rfl
@[simp] theorem e_geM (i j : Int) : geM (RI i) (RI j) s = .ok (RB (decide (j ≤ i))) s := rfl
@[simp] theorem e_mulI (i j : Int) : mulI (RI i) (RI j) s = if mulC i j = true then .ok (RI (i * j)) s else .bad := rfl
@[simp] theorem e_divM (i j : Int) : divM (RI i) (RI j) s = if divC i j = true then .ok (RI (i.fdiv j)) s else .bad := rfl
@[simp] theorem e_modM (i j : Int) : modM (RI i) (RI j) s = if modC i j = true then .ok (RI (i.fmod j)) s else .bad := rfl
@[simp] theorem e_powM (i j : Int) : powM (RI i) (RI j) s = if powC i j = true then .ok (RI (i ^ j.toNat)) s else .bad := rfl
@[simp] theorem e_negM (i : Int) : negM (RI i) s = .ok (RI (-i)) s := rfl
@[simp] theorem e_addI (i j : Int) : addM (RI i) (RI j) s = .ok (RI (i + j)) s := rfl
@[simp] theorem e_addT (x y : List D) : addM (RT x) (RT y) s = if x.length + y.length ≤ 100000 then .ok (RT (x ++ y)) s else .bad := rfl
@[simp] theorem e_absM (i : Int) : absM [RI i] s = .ok (RI (if i < 0 then -i else i)) s := rfl
@[simp] theorem e_intM (i : Int) : intM [RI i] s = .ok (RI i) s := rfl
@[simp] theorem e_gcdM (i j : Int) : gcdM [RI i, RI j] s = .ok (RI ((Nat.gcd i.natAbs j.natAbs : Nat) : Int)) s := rfl
@[simp] theorem e_lenT (ds : List D) : lenM [RT ds] s = .ok (RI ds.length) s := rfl
@[simp] theorem e_lenL (ds : List D) : lenM [RD (.lst ds)] s = .ok (RI ds.length) s := by simp [lenM, seqL]
@[simp] theorem e_lenN (xs : List SV) : lenM [.new xs] s = .ok (RI xs.length) s := rfl
@[simp] theorem e_ixT (ds : List D) (i : Int) : ixM (RT ds) (RI i) s = match atI ds i with
  | some d => .ok (RD d) s
  | none => .bad := rfl
@[simp] theorem e_ixL (ds : List D) (i : Int) : ixM (RD (.lst ds)) (RI i) s = match atI ds i with
  | some d => .ok (RD d) s
  | none => .bad := by
  show (match atI (ds.map SV.dat) i with | some y => Out.ok (RV.sv y) s | none => .bad) = _
  unfold atI
  cases h : ixN ds.length i with
  | none => simp [h]
  | some j => simp only [List.length_map, h, Option.bind_some, List.getElem?_map]; cases ds[j]? <;> rfl
@[simp] theorem e_ixN (xs : List SV) (i : Int) : ixM (.new xs) (RI i) s = match atI xs i with
  | some d => .ok (.sv d) s
  | none => .bad := rfl
@[simp] theorem e_trI (i : Int) : trB s (RI i) = some (i != 0) := rfl
@[simp] theorem e_trB (b : Bool) : trB s (RB b) = some b := rfl
@[simp] theorem e_trN : trB s RN = some false := rfl
@[simp] theorem e_trT (ds : List D) : trB s (RT ds) = some (!ds.isEmpty) := rfl
@[simp] theorem e_trW (xs : List SV) : trB s (.new xs) = some (!xs.isEmpty) := rfl
@[simp] theorem e_trL (ds : List D) : trB s (RD (.lst ds)) = some (!ds.isEmpty) := by
  show (match some (ds.map SV.dat) with | some xs => some (!xs.isEmpty) | none => none) = _
  simp
@[simp] theorem e_isi (t : Ty) (r : RV) : isiM t r s = match tyR s r with
  | some u => .ok (RB (subTy u t)) s
  | none => .bad := rfl
@[simp] theorem e_tyN : tyR s RN = some .none := rfl
@[simp] theorem e_tyB (b) : tyR s (RB b) = some .bool := rfl
@[simp] theorem e_tyI (b) : tyR s (RI b) = some .int := rfl
@[simp] theorem e_tyS (b) : tyR s (RS b) = some .str := rfl
@[simp] theorem e_tyT (b) : tyR s (RT b) = some .tuple := rfl
@[simp] theorem e_tyL (b) : tyR s (RD (.lst b)) = some .list := rfl
@[simp] theorem e_tyW (b) : tyR s (.new b) = some .list := rfl
@[simp] theorem e_notNM (d : D) : notNM (RD d) RN s = .ok (RB (!isNoD d)) s := by cases d <;> rfl
@[simp] theorem e_isNM (d : D) : isNM (RD d) RN s = .ok (RB (isNoD d)) s := by cases d <;> rfl
@[simp] theorem e_deepD (d : D) : deep s (RD d) = some d := rfl
@[simp] theorem e_eqM (x y : RV) : eqM x y s = match deep s x, deep s y with
  | some d, some e => if okD d = true then if okD e = true then .ok (RB (eqD d e)) s else .bad else .bad
  | _, _ => .bad := rfl
@[simp] theorem e_neM (x y : RV) : neM x y s = match deep s x, deep s y with
  | some d, some e => if okD d = true then if okD e = true then .ok (RB (!eqD d e)) s else .bad else .bad
  | _, _ => .bad := rfl
@[simp] theorem e_inC (n : Bool) (x y : RV) : inC n x y s = match deep s x, deep s y with
  | some d, some (.lst es) => if okD d = true then if okD (.lst es) = true then .ok (RB (if n then !(es.any fun z => eqD z d) else es.any fun z => eqD z d)) s else .bad else .bad
  | _, _ => .bad := rfl
@[simp] theorem e_raiseF (c fs mA) : raiseF c fs mA s = bnd mA (fun xs s => match datL xs with
  | some ds => if ds.length = fs.length then .exc ⟨c, (fs.zip ds).reverse⟩ s else .bad
  | none => .bad) s := rfl
@[simp] theorem e_tupG (g n) (ds : List D) : tupG g n (.dat (.tup ds)) s = if ds.length = n then g (ds.map SV.dat) s else .bad := by
  show (if ds.length = n then g (ds.map SV.dat) else stuck) s = _
  split <;> rfl
@[simp] theorem e_consG (f g) (x : SV) (xs : List SV) : consG f g (x :: xs) s = bnd (f x) (fun _ => g xs) s := rfl
@[simp] theorem e_seqT (ds : List D) : seqSrc (RT ds) s = .ok ⟨ds.map SV.dat, none⟩ s := rfl
@[simp] theorem e_seqL (ds : List D) : seqSrc (RD (.lst ds)) s = .ok ⟨ds.map SV.dat, none⟩ s := rfl
@[simp] theorem e_seqN (xs : List SV) : seqSrc (.new xs) s = .ok ⟨xs, none⟩ s := rfl
@[simp] theorem e_forF (mi f b) : forF mi f b s = match mi s with
  | .ok src s' => forL src.Ok f b src.items s'
  | .exc x s' => .exc x s'
  | .bad => .bad := by
  unfold forF bnd
  cases mi s <;> rfl
@[simp] theorem e_runP (n m ds) : runP n m ds = resP (m (startP n ds)) := rfl
@[simp] theorem e_startP (n ds) : startP n ds = ⟨ds.map (fun d => some (.dat d)) ++ List.replicate (n - ds.length) none, [], none⟩ := rfl
@[simp] theorem e_startH (n xs h) : startH n xs h = ⟨xs.map some ++ List.replicate (n - xs.length) none, [], some h⟩ := rfl
@[simp] theorem e_runH (n m xs h) : runH n m xs h = match m (startH n xs h) with
  | .ok f s => match s.hd with
    | some (.hand h') => (resP (.ok f s), h')
    | _ => (.bad, h)
  | _ => (.bad, h) := rfl
@[simp] theorem e_resP1 : resP (.ok .nx s) = .ret (.dat .non) := rfl
@[simp] theorem e_resP2 (d : D) : resP (.ok (.rt (RD d)) s) = .ret (.dat d) := rfl
@[simp] theorem e_resP3 (xs : List SV) : resP (.ok (.rt (.new xs)) s) = match datL xs with
  | some ds => .ret (.new ds)
  | none => .bad := by
  show (match (match datL xs with | some ds => some (Rs.new ds) | none => none) with | some x => Res.ret x | none => .bad) = _
  cases datL xs <;> rfl
@[simp] theorem e_resP4 (x : Exn) : resP (.exc x s) = .exc x := rfl
end
/-! ### walks over data -/
theorem forL_nil {ok : S → Prop} {f b} {s : S} (h : ok s) : forL ok f b [] s = .ok .nx s := if_pos h
theorem src_ok {l : List SV} {s : S} : (Src.mk l none).Ok s := trivial
@[simp] theorem forL0 {l : List SV} {f b} (s : S) : forL (Src.mk l none).Ok f b [] s = .ok .nx s := if_pos trivial
@[simp] theorem forL1 {l : List SV} {f b} (x : SV) (xs : List SV) (s : S) : forL (Src.mk l none).Ok f b (x :: xs) s = match f x s with
    | .ok _ s1 => match b s1 with
      | .ok .nx s2 => forL (Src.mk l none).Ok f b xs s2
      | .ok .ct s2 => forL (Src.mk l none).Ok f b xs s2
      | .ok .bk s2 => .ok .nx s2
      | .ok (.rt r) s2 => .ok (.rt r) s2
      | .exc x s2 => .exc x s2
      | .bad => .bad
    | _ => .bad := if_pos trivial
end Fd
namespace Fd
open PySem PySem.Spec PyProof.Rows L2
/-! ### == of data -/
def eqDs : List D → List D → Bool
  | [], [] => true
  | x :: xs, y :: ys => eqD x y && eqDs xs ys
  | _, _ => false
theorem pys_eqv : ∀ x y : List D, PyData.eqvAll (D.pys x) (D.pys y) = eqDs x y
  | [], [] => rfl
  | [], _ :: _ => rfl
  | _ :: _, [] => rfl
  | x :: xs, y :: ys => by
    show (PyData.eqv x.py y.py && PyData.eqvAll (D.pys xs) (D.pys ys)) = (eqD x y && eqDs xs ys)
    rw [pys_eqv xs ys]
    rfl
@[simp] theorem eqD_int (a b : Int) : eqD (.int a) (.int b) = decide (a = b) := by
  show (a == b) = _
  by_cases h : a = b <;> simp [h]
@[simp] theorem eqD_str (a b : Str) : eqD (.str a) (.str b) = (a == b) := rfl
@[simp] theorem eqD_tup (a b : List D) : eqD (.tup a) (.tup b) = eqDs a b := pys_eqv a b
@[simp] theorem eqD_lst (a b : List D) : eqD (.lst a) (.lst b) = eqDs a b := pys_eqv a b
@[simp] theorem eqD_bl (a b : Bool) : eqD (.bl a) (.bl b) = (a == b) := rfl
@[simp] theorem eqD_nn : eqD .non .non = true := rfl
@[simp] theorem eqD_ns (x : Str) : eqD .non (.str x) = false := rfl
@[simp] theorem eqD_sn (x : Str) : eqD (.str x) .non = false := rfl
@[simp] theorem eqD_ni (x : Int) : eqD .non (.int x) = false := rfl
@[simp] theorem eqD_in (x : Int) : eqD (.int x) .non = false := rfl
@[simp] theorem eqD_nt (x : List D) : eqD .non (.tup x) = false := rfl
@[simp] theorem eqD_tn (x : List D) : eqD (.tup x) .non = false := rfl
@[simp] theorem eqD_ts (x : List D) (y : Str) : eqD (.tup x) (.str y) = false := rfl
@[simp] theorem eqD_st (x : List D) (y : Str) : eqD (.str y) (.tup x) = false := rfl
@[simp] theorem eqD_it (x : List D) (y : Int) : eqD (.int y) (.tup x) = false := rfl
@[simp] theorem eqD_ti (x : List D) (y : Int) : eqD (.tup x) (.int y) = false := rfl
@[simp] theorem eqD_is (x : Str) (y : Int) : eqD (.int y) (.str x) = false := rfl
@[simp] theorem eqD_si (x : Str) (y : Int) : eqD (.str x) (.int y) = false := rfl
@[simp] theorem eqDs_nil : eqDs [] [] = true := rfl
@[simp] theorem eqDs_cons (x y : D) (xs ys : List D) : eqDs (x :: xs) (y :: ys) = (eqD x y && eqDs xs ys) := rfl
@[simp] theorem eqDs_n1 (y : D) (ys : List D) : eqDs [] (y :: ys) = false := rfl
@[simp] theorem eqDs_n2 (y : D) (ys : List D) : eqDs (y :: ys) [] = false := rfl
/-! ### data that == may see: no object within, not too deep -/
mutual
def D.dep : D → Nat
  | .tup ds => D.deps ds + 1
  | .lst ds => D.deps ds + 1
  | _ => 0
def D.deps : List D → Nat
  | [] => 0
  | d :: ds => max d.dep (D.deps ds)
end
mutual
def D.fine : D → Bool
  | .tup ds => D.fines ds
  | .lst ds => D.fines ds
  | .str x => PyData.canLay0 (.str x)
  | .obj _ _ => false
  | .dct _ => false
  | _ => true
def D.fines : List D → Bool
  | [] => true
  | d :: ds => d.fine && D.fines ds
end
end Fd
namespace Fd
open PySem PySem.Spec PyProof.Rows L2
mutual
theorem py_lay : ∀ d : D, d.py.canLay0 = d.fine
  | .non => by simp [D.py, PyData.canLay0, D.fine]
  | .bl _ => by simp [D.py, PyData.canLay0, D.fine]
  | .int _ => by simp [D.py, PyData.canLay0, D.fine]
  | .str _ => by simp [D.py, D.fine]
  | .tup ds => by simp [D.py, PyData.canLay0, D.fine, pys_lay ds]
  | .lst ds => by simp [D.py, PyData.canLay0, D.fine, pys_lay ds]
  | .obj _ _ => by simp [D.py, PyData.canLay0, D.fine]
  | .dct _ => by simp [D.py, PyData.canLay0, D.fine]
theorem pys_lay : ∀ ds : List D, PyData.canLayAll0 (D.pys ds) = D.fines ds
  | [] => by simp [D.pys, PyData.canLayAll0, D.fines]
  | d :: ds => by simp [D.pys, PyData.canLayAll0, D.fines, py_lay d, pys_lay ds]
end
mutual
theorem py_dep : ∀ d : D, (∀ c fs, d ≠ .obj c fs) → d.fine = true → d.py.depth = d.dep
  | .non, _, _ => by simp [D.py, PyData.depth, D.dep]
  | .bl _, _, _ => by simp [D.py, PyData.depth, D.dep]
  | .int _, _, _ => by simp [D.py, PyData.depth, D.dep]
  | .str _, _, _ => by simp [D.py, PyData.depth, D.dep]
  | .tup ds, _, h => by simp [D.py, PyData.depth, D.dep, pys_dep ds (by simpa [D.fine] using h)]
  | .lst ds, _, h => by simp [D.py, PyData.depth, D.dep, pys_dep ds (by simpa [D.fine] using h)]
  | .obj _ _, _, h => by simp [D.fine] at h
  | .dct _, _, h => by simp [D.fine] at h
theorem pys_dep : ∀ ds : List D, D.fines ds = true → PyData.depthAll (D.pys ds) = D.deps ds
  | [], _ => by simp [D.pys, PyData.depthAll, D.deps]
  | d :: ds, h => by
    have h' : d.fine = true ∧ D.fines ds = true := by simpa [D.fines] using h
    have : ∀ c fs, d ≠ .obj c fs := fun c fs e => by rw [e] at h'; simp [D.fine] at h'
    simp [D.pys, PyData.depthAll, D.deps, py_dep d this h'.1, pys_dep ds h'.2]
end
theorem okD_of {d : D} (h : d.fine = true) (hd : d.dep ≤ 64) : okD d = true := by
  unfold okD SeqAt.shaped
  have : ∀ c fs, d ≠ .obj c fs := fun c fs e => by rw [e] at h; simp [D.fine] at h
  rw [py_lay, h, py_dep d this h]
  simpa using hd
theorem fines_all {ds : List D} (h : ∀ d ∈ ds, d.fine = true) : D.fines ds = true := by
  induction ds with
  | nil => rfl
  | cons d ds ih => simp [D.fines, h d (by simp), ih fun x hx => h x (by simp [hx])]
theorem deps_all {ds : List D} {n : Nat} (h : ∀ d ∈ ds, d.dep ≤ n) : D.deps ds ≤ n := by
  induction ds with
  | nil => simp [D.deps]
  | cons d ds ih => 
    have := h d (by simp)
    have := ih fun x hx => h x (by simp [hx])
    simp [D.deps]; omega
@[simp] theorem okD_int (a : Int) : okD (.int a) = true := rfl
@[simp] theorem okD_bl (a : Bool) : okD (.bl a) = true := rfl
@[simp] theorem okD_non : okD .non = true := rfl
@[simp] theorem okD_t2 (a b : Int) : okD (.tup [.int a, .int b]) = true := rfl
@[simp] theorem okD_t3 (a b c : Int) : okD (.tup [.int a, .int b, .int c]) = true := rfl
/-! ### sizes -/
def Bd (n : Nat) (x : Int) : Prop := x.natAbs < 2 ^ n
theorem Bd.mono {n m : Nat} {x : Int} (h : Bd n x) (l : n ≤ m) : Bd m x := Nat.lt_of_lt_of_le h (Nat.pow_le_pow_right (by decide) l)
theorem Bd.mul {n m : Nat} {x y : Int} (h : Bd n x) (k : Bd m y) : Bd (n + m) (x * y) := by
  unfold Bd at *
  rw [Int.natAbs_mul, Nat.pow_add]
  exact Nat.mul_lt_mul'' h k
theorem Bd.add {n m : Nat} {x y : Int} (h : Bd n x) (k : Bd m y) : Bd (max n m + 1) (x + y) := by
  have h' := h.mono (Nat.le_max_left n m)
  have k' := k.mono (Nat.le_max_right n m)
  unfold Bd at *
  have := Int.natAbs_add_le x y
  rw [Nat.pow_succ]; omega
theorem Bd.neg {n : Nat} {x : Int} (h : Bd n x) : Bd n (-x) := by unfold Bd at *; rwa [Int.natAbs_neg]
theorem Bd.sub {n m : Nat} {x y : Int} (h : Bd n x) (k : Bd m y) : Bd (max n m + 1) (x - y) := by
  rw [Int.sub_eq_add_neg]; exact h.add k.neg
theorem Bd.log {n : Nat} {x : Int} (h : Bd n x) : x.natAbs.log2 ≤ n := by
  unfold Bd at h
  by_cases z : x.natAbs = 0
  · rw [z]; simp
  · exact Nat.le_of_lt ((Nat.log2_lt z).mpr h)
theorem Bd.mulC {n m : Nat} {x y : Int} (h : Bd n x) (k : Bd m y) (l : n + m < 100000000 := by omega) : Fd.mulC x y = true := decide_eq_true (by have := h.log; have := k.log; omega)
theorem Bd.divC {n : Nat} {x y : Int} (k : Bd n y) (z : y ≠ 0) (l : n < 9000 := by omega) : Fd.divC x y = true := decide_eq_true ⟨z, by have := k.log; omega⟩
theorem modC_of {x y : Int} (z : y ≠ 0) : Fd.modC x y = true := decide_eq_true z
theorem bd_of {n : Nat} {x : Int} (h1 : -(2 ^ n) < x) (h2 : x < 2 ^ n) : Bd n x := by
  unfold Bd
  have : ((2 ^ n : Nat) : Int) = 2 ^ n := by simp
  omega
theorem bd_le {n : Nat} {x y : Int} (h : Bd n y) (l : x.natAbs ≤ y.natAbs) : Bd n x := Nat.lt_of_le_of_lt l h
end Fd
namespace Fd
open PySem PySem.Spec PyProof.Rows L2
/-! ### takes -/
theorem take_lt {n : Int} (h : Hand) (hn : 0 < n) : 0 ≤ (takeF n h).1 ∧ (takeF n h).1 < n := by
  unfold takeF
  split
  · exact ⟨Int.emod_nonneg _ (by omega), Int.emod_lt_of_pos _ hn⟩
  · exact ⟨Int.emod_nonneg _ (by omega), Int.emod_lt_of_pos _ hn⟩
theorem v_take {n : Int} (h : Hand) (hn : 0 < n ∧ n.natAbs.log2 < 9000) : R_law_take [.hand, .dat (.int n)] h = (.ret (.dat (.int (takeF n h).1)), (takeF n h).2) := by
  show (if 0 < n ∧ n.natAbs.log2 < 9000 then _ else _) = _
  rw [if_pos hn]
@[simp] theorem nr_hand : noRef .hand = true := rfl
@[simp] theorem nr_dat (d : D) : noRef (.dat d) = true := rfl
/-- a take gives some number below n and another hand -/
theorem take_ex {n : Int} (h : Hand) (hn : 0 < n ∧ n.natAbs.log2 < 9000) : ∃ t h', R_law_take [.hand, .dat (.int n)] h = (.ret (.dat (.int t)), h') ∧ 0 ≤ t ∧ t < n :=
  ⟨_, _, v_take h hn, (take_lt h hn.1).1, (take_lt h hn.1).2⟩
theorem lg9 {n : Int} (h : 0 < n ∧ n < 2 ^ 64) : 0 < n ∧ n.natAbs.log2 < 9000 := ⟨h.1, by
  have : Bd 64 n := bd_of (by omega) h.2
  have := this.log
  omega⟩
end Fd
namespace Fd
open PySem PySem.Spec PyProof.Rows L2
section
variable (s : S)
@[simp] theorem e_tryF (mb : M Fl) (es : Nat → Option Bool) (i : Nat) (hf : Exn → M Fl) : tryF mb es i hf s = match mb s with
  | .exc x s1 => match es x.c with
    | some true => if i < s1.env.length then match hf x (clrS i s1) with
      | .ok f s2 => .ok f (clrS i s2)
      | _ => .bad
      else .bad
    | some false => .exc x s1
    | none => .bad
  | o => o := rfl
@[simp] theorem e_fieldH (f : Str) (x : Exn) : fieldH f x s = match x.fs.lookup f with
  | some d => .ok (.rt (RD d)) s
  | none => .bad := by
  unfold fieldH
  cases x.fs.lookup f <;> rfl
@[simp] theorem e_clrS (i : Nat) : clrS i s = { s with env := s.env.set i none } := rfl
@[simp] theorem e_rng1 (j : Int) : rng1 [RI j] s = ifC (-(2 ^ 62) ≤ j ∧ j < 2 ^ 62) (.ok ⟨rangeL 0 j.toNat, none⟩ s) .bad := rfl
@[simp] theorem e_ifCT {α : Type} (a b : α) : ifC True a b = a := ifC_pos trivial
@[simp] theorem e_ifCF {α : Type} (a b : α) : ifC False a b = b := ifC_neg id
@[simp] theorem e_rng2 (i j : Int) : rng2 [RI i, RI j] s = ifC (-(2 ^ 62) ≤ i ∧ i < 2 ^ 62 ∧ -(2 ^ 62) ≤ j ∧ j < 2 ^ 62) (.ok ⟨rangeL i (j - i).toNat, none⟩ s) .bad := rfl
@[simp] theorem e_callK (n np nk F g mA mK) : callK n np nk F g mA mK s = bnd mA (fun xs => bnd mK fun zs s => match datL xs, datL zs with
  | some ds, some es => if ds.length = np ∧ es.length = nk ∧ (g ds es).length = n then toRes (noX (F (g ds es))) s else .bad
  | _, _ => .bad) s := by
  unfold callK bnd
  cases mA s with
  | ok xs s1 =>
    dsimp only
    cases mK s1 with
    | ok zs s2 => 
      dsimp only
      cases datL xs with
      | none => rfl
      | some ds =>
        cases datL zs with
        | none => rfl
        | some es => dsimp only; split <;> rfl
    | exc => rfl
    | bad => rfl
  | exc => rfl
  | bad => rfl
@[simp] theorem e_tupleL (ds : List D) : tupleM [RD (.lst ds)] s = .ok (RT ds) s := by
  simp [tupleM, seqL]
@[simp] theorem e_tupleT (ds : List D) : tupleM [RT ds] s = .ok (RT ds) s := rfl
@[simp] theorem e_tupleN (xs : List SV) : tupleM [.new xs] s = match datL xs with
  | some ds => .ok (RT ds) s
  | none => .bad := rfl
@[simp] theorem e_listT (ds : List D) : listM [RT ds] s = .ok (.new (ds.map SV.dat)) s := rfl
@[simp] theorem e_listL (ds : List D) : listM [RD (.lst ds)] s = .ok (.new (ds.map SV.dat)) s := rfl
@[simp] theorem e_notBM1 (b : Bool) : notBM (RB b) (RB true) s = .ok (RB (!b)) s := by cases b <;> rfl
@[simp] theorem e_wipeS (vs : List Nat) : wipeS vs s = { s with env := wipeE s.env vs } := rfl
@[simp] theorem e_wipeE0 (e : List (Option SV)) : wipeE e [] = e := rfl
@[simp] theorem e_wipeE1 (e : List (Option SV)) (v : Nat) (vs : List Nat) : wipeE e (v :: vs) = (wipeE e vs).set v none := rfl
@[simp] theorem e_lcM (mi vs f tt me) : lcM mi vs f tt me s = match mi s with
  | .ok src s' => lcL src.Ok vs f tt me src.items [] (wipeS vs s')
  | .exc x s' => .exc x s'
  | .bad => .bad := by
  unfold lcM bnd
  cases mi s <;> rfl
@[simp] theorem e_setLcZ (i mi vs f tt me) : setLcZ i mi vs f tt me s = bnd (lcM mi vs f tt me) (fun r s => match r with
  | .new xs => match datL xs with
    | some ds => .ok .nx { s with env := s.env.set i (some (.dat (.lst ds))) }
    | none => .bad
  | _ => .bad) s := rfl
end
theorem lcL_none {l : List SV} {vs : List Nat} {f : SV → M Unit} {tt : M Bool} {me : M RV} {st : S} : ∀ (xs acc : List SV), (∀ x ∈ xs, ∃ s1 s2, f x st = .ok () s1 ∧ tt s1 = .ok false s2 ∧ wipeS vs s2 = st) → lcL (Src.mk l none).Ok vs f tt me xs acc st = .ok (.new acc) st := by
  intro xs
  induction xs with
  | nil => intro acc _; exact if_pos trivial
  | cons x xs ih =>
    intro acc h
    obtain ⟨s1, s2, h1, h2, h3⟩ := h x (by simp)
    unfold lcL
    rw [if_pos src_ok, h1]
    simp only [h2, h3]
    exact ih acc fun y hy => h y (by simp [hy])
theorem lcL_all {l : List SV} {vs : List Nat} {f : SV → M Unit} {tt : M Bool} {me : M RV} (I : List SV → S → Prop) : ∀ (xs acc : List SV) (st : S), I acc st → acc.length + xs.length ≤ 100000 →
    (∀ x ∈ xs, ∀ acc st, I acc st → ∃ s1 s2 s3 y, f x st = .ok () s1 ∧ tt s1 = .ok true s2 ∧ me s2 = .ok (.sv y) s3 ∧ I (acc ++ [y]) (wipeS vs s3)) →
    ∃ acc' st', lcL (Src.mk l none).Ok vs f tt me xs acc st = .ok (.new acc') st' ∧ I acc' st' ∧ acc'.length = acc.length + xs.length := by
  intro xs
  induction xs with
  | nil => intro acc st hi _ _; exact ⟨acc, st, if_pos trivial, hi, by simp⟩
  | cons x xs ih =>
    intro acc st hi hl h
    obtain ⟨s1, s2, s3, y, h1, h2, h3, h4⟩ := h x (by simp) acc st hi
    obtain ⟨acc', st', e1, e2, e3⟩ := ih (acc ++ [y]) (wipeS vs s3) h4 (by simp at hl ⊢; omega) fun z hz => h z (by simp [hz])
    refine ⟨acc', st', ?_, e2, by rw [e3]; simp; omega⟩
    conv => lhs; unfold lcL
    rw [if_pos src_ok, h1]
    simp only [h2, h3]
    rw [if_pos (by simp at hl; omega)]
    exact e1
theorem rangeL_cons (lo : Int) (n : Nat) : rangeL lo (n + 1) = .dat (.int lo) :: rangeL (lo + 1) n := by
  unfold rangeL
  rw [List.range_succ_eq_map, List.map_cons, List.map_map]
  simp only [Function.comp_def]
  congr 1
  · simp
  · refine List.map_congr_left fun i _ => ?_
    congr 2
    simp; omega
@[simp] theorem rangeL_len (lo : Int) (n : Nat) : (rangeL lo n).length = n := by simp [rangeL]
end Fd
namespace Fd
open PySem PySem.Spec PyProof.Rows L2
section
variable (s : S)
@[simp] theorem e_addLN (x : List D) (y : List SV) : addM (RD (.lst x)) (.new y) s = if x.length + y.length ≤ 100000 then .ok (.new (x.map SV.dat ++ y)) s else .bad := by simp [addM, seqL]
@[simp] theorem e_addNL (x : List SV) (y : List D) : addM (.new x) (RD (.lst y)) s = if x.length + y.length ≤ 100000 then .ok (.new (x ++ y.map SV.dat)) s else .bad := by simp [addM, seqL]
@[simp] theorem e_addLL (x y : List D) : addM (RD (.lst x)) (RD (.lst y)) s = if x.length + y.length ≤ 100000 then .ok (.new (x.map SV.dat ++ y.map SV.dat)) s else .bad := by simp [addM, seqL]
@[simp] theorem e_addNN (x y : List SV) : addM (.new x) (.new y) s = if x.length + y.length ≤ 100000 then .ok (.new (x ++ y)) s else .bad := by simp [addM, seqL]
end
end Fd
set_option Elab.async false
set_option linter.all false
set_option maxRecDepth 100000
set_option maxHeartbeats 4000000
namespace Fd
open PySem PySem.Spec PyProof.Rows L2
/-! ## ratios -/
def gI (a b : Int) : Int := ((Nat.gcd a.natAbs b.natAbs : Nat) : Int)
def nT (a b : Int) : Int := (if b < 0 then -a else a) / gI a b
def nB (a b : Int) : Int := (if b < 0 then -b else b) / gI a b
theorem gI_dvd_left (a b : Int) : gI a b ∣ a := Int.gcd_dvd_left a b
theorem gI_dvd_right (a b : Int) : gI a b ∣ b := Int.gcd_dvd_right a b
theorem gI_pos {a b : Int} (h : b ≠ 0) : 0 < gI a b := by
  unfold gI
  have : 0 < Nat.gcd a.natAbs b.natAbs := Nat.gcd_pos_of_pos_right _ (by omega)
  omega
theorem gI_nonneg (a b : Int) : 0 ≤ gI a b := by unfold gI; omega
theorem low_T (a b : Int) : (if b < 0 then -a else a).fdiv (gI a b) = nT a b := Int.fdiv_eq_ediv_of_nonneg _ (gI_nonneg _ _)
theorem low_B (a b : Int) : (if b < 0 then -b else b).fdiv (gI a b) = nB a b := Int.fdiv_eq_ediv_of_nonneg _ (gI_nonneg _ _)
theorem law_T (a b : Int) : a.fdiv (if b < 0 then -(gI a b) else gI a b) = nT a b := by
  rw [← low_T]
  split
  · rw [← Int.neg_fdiv_neg, Int.neg_neg]
  · rfl
theorem law_B (a b : Int) : b.fdiv (if b < 0 then -(gI a b) else gI a b) = nB a b := by
  rw [← low_B]
  split
  · rw [← Int.neg_fdiv_neg, Int.neg_neg]
  · rfl
theorem nB_pos {a b : Int} (h : b ≠ 0) : 0 < nB a b := by
  unfold nB
  refine Int.ediv_pos_of_pos_of_dvd (by split <;> omega) (gI_nonneg _ _) ?_
  split
  · exact Int.dvd_neg.mpr (gI_dvd_right a b)
  · exact gI_dvd_right a b
theorem n_gcd {a b : Int} (h : b ≠ 0) : gI (nT a b) (nB a b) = 1 := by
  have hp := gI_pos (a := a) h
  have key : ∀ x y : Int, gI x y = gI a b → gI (x / gI a b) (y / gI a b) = 1 := fun x y e => by
    have h1 : 0 < Int.gcd x y := by
      have : (0 : Int) < gI x y := by rw [e]; exact hp
      unfold gI at this
      show 0 < Nat.gcd x.natAbs y.natAbs
      omega
    have := Int.gcd_ediv_gcd_ediv_gcd h1
    rw [← e]
    unfold gI
    show (((x / (Int.gcd x y : Int)).gcd (y / (Int.gcd x y : Int)) : Nat) : Int) = 1
    rw [this]; rfl
  unfold nT nB
  refine key _ _ ?_
  unfold gI
  split <;> simp [Int.natAbs_neg]
theorem n_scale {a b f : Int} (h : 0 < f) : nT (a * f) (b * f) = nT a b ∧ nB (a * f) (b * f) = nB a b := by
  have hs : (b * f < 0) = (b < 0) := by
    refine propext ⟨fun z => ?_, fun z => Int.mul_neg_of_neg_of_pos z h⟩
    by_cases c : b < 0
    · exact c
    · exact absurd (Int.mul_nonneg (Int.not_lt.mp c) (Int.le_of_lt h)) (by omega)
  have hg : gI (a * f) (b * f) = gI a b * f := by
    unfold gI
    have := Int.gcd_mul_right a f b
    show ((Int.gcd (a * f) (b * f) : Nat) : Int) = _
    rw [Int.gcd_mul_right]
    show ((Nat.gcd a.natAbs b.natAbs * f.natAbs : Nat) : Int) = _
    rw [Int.natCast_mul, Int.natAbs_of_nonneg (Int.le_of_lt h)]
  unfold nT nB
  simp only [hs]
  rw [hg]
  constructor
  · split
    · rw [← Int.neg_mul, Int.mul_ediv_mul_of_pos_left _ _ h]
    · rw [Int.mul_ediv_mul_of_pos_left _ _ h]
  · split
    · rw [← Int.neg_mul, Int.mul_ediv_mul_of_pos_left _ _ h]
    · rw [Int.mul_ediv_mul_of_pos_left _ _ h]
theorem nT_le (a b : Int) : (nT a b).natAbs ≤ a.natAbs := by
  unfold nT
  refine Nat.le_trans (Int.natAbs_ediv_le_natAbs _ _) ?_
  split <;> simp
theorem nB_le (a b : Int) : (nB a b).natAbs ≤ b.natAbs := by
  unfold nB
  refine Nat.le_trans (Int.natAbs_ediv_le_natAbs _ _) ?_
  split <;> simp
theorem gI_le {a b : Int} (h : b ≠ 0) : (gI a b).natAbs ≤ b.natAbs := by
  unfold gI
  have := Nat.gcd_le_right a.natAbs (show 0 < b.natAbs by omega)
  omega
theorem n_one (a : Int) : nT a 1 = a ∧ nB a 1 = 1 := by
  unfold nT nB gI
  simp
/-! ### the loop that finds the gcd -/
theorem gcd_step (x y : Nat) : Nat.gcd y (x % y) = Nat.gcd x y := by
  rw [Nat.gcd_comm y, ← Nat.gcd_rec, Nat.gcd_comm]
theorem mod_half {y r : Nat} (h : r < y) (h0 : 0 < r) : 2 * (y % r) < y := by
  have h1 := Nat.mod_lt y h0
  have h2 := Nat.div_add_mod y r
  have h3 : 1 ≤ y / r := (Nat.le_div_iff_mul_le h0).mpr (by omega)
  have h4 : r * 1 ≤ r * (y / r) := Nat.mul_le_mul_left r h3
  omega
theorem whileL_gcd {tc : M Bool} {b : M Fl} (stt : Int → Int → S) (ht : ∀ x y, tc (stt x y) = .ok (y != 0) (stt x y)) (hb : ∀ x y, y ≠ 0 → b (stt x y) = .ok .nx (stt y (x.fmod y))) :
    ∀ (k : Nat) (x y : Nat) (n : Nat), y < 2 ^ k → 2 * k + 1 ≤ n → whileL tc b n (stt x y) = .ok .nx (stt ((Nat.gcd x y : Nat) : Int) 0) := by
  have hz : ∀ (x : Nat) n, whileL tc b (n + 1) (stt x 0) = .ok .nx (stt ((Nat.gcd x 0 : Nat) : Int) 0) := fun x n => by
    unfold whileL
    rw [ht]; simp
  have hs : ∀ (x y : Nat) n, y ≠ 0 → whileL tc b (n + 1) (stt x y) = whileL tc b n (stt y ((x % y : Nat) : Int)) := fun x y n hy => by
    have hy' : (y : Int) ≠ 0 := by omega
    conv => lhs; unfold whileL
    rw [ht]
    have e1 : ((y : Int) != 0) = true := by simpa using hy
    rw [e1]
    simp only
    rw [hb _ _ hy']
    simp only
    rw [Int.fmod_eq_emod_of_nonneg _ (by omega)]
    rfl
  intro k
  induction k with
  | zero =>
    intro x y n hy hn
    obtain rfl : y = 0 := by simpa using hy
    obtain ⟨m, rfl⟩ : ∃ m, n = m + 1 := ⟨n - 1, by omega⟩
    exact hz x m
  | succ k ih =>
    intro x y n hy hn
    obtain ⟨m, rfl⟩ : ∃ m, n = m + 2 := ⟨n - 2, by omega⟩
    by_cases h0 : y = 0
    · subst h0; exact hz x _
    · rw [hs x y _ h0]
      by_cases h1 : x % y = 0
      · rw [h1]
        have := hz y m
        have e : Nat.gcd y 0 = Nat.gcd x y := by rw [← gcd_step x y, h1]
        rw [e] at this
        exact this
      · rw [hs y (x % y) _ h1, ih _ _ _ ?_ (by omega), gcd_step, gcd_step]
        have := mod_half (Nat.mod_lt x (Nat.pos_of_ne_zero h0)) (Nat.pos_of_ne_zero h1)
        rw [Nat.pow_succ] at hy
        omega
end Fd
namespace Fd
open PySem PySem.Spec PyProof.Rows L2
theorem atI_mem {α : Type} (xs : List α) {i : Int} (h0 : 0 ≤ i) (h1 : i < xs.length) : ∃ d, d ∈ xs ∧ atI xs i = some d := by
  refine ⟨xs[i.toNat]'(by omega), List.getElem_mem _, ?_⟩
  unfold atI ixN
  simp [h0, h1]
theorem gI_two (t : Int) : gI (t * 2) 2 = 2 ∧ gI (2 * t) 2 = 2 := by
  unfold gI
  constructor
  · rw [Int.natAbs_mul, show (2 : Int).natAbs = 2 from rfl, Nat.gcd_eq_right (Nat.dvd_mul_left 2 _)]; rfl
  · rw [Int.natAbs_mul, show (2 : Int).natAbs = 2 from rfl, Nat.gcd_eq_right (Nat.dvd_mul_right 2 _)]; rfl
theorem gI_dbl (a b : Int) : gI (a * 2) (b * 2) = gI a b * 2 := by
  unfold gI
  rw [Int.natAbs_mul, Int.natAbs_mul, show (2 : Int).natAbs = 2 from rfl, Nat.gcd_mul_right, Int.natCast_mul]; rfl
def qadd (p q : Int × Int) : Int × Int := (nT (p.1 * q.2 + q.1 * p.2) (p.2 * q.2), nB (p.1 * q.2 + q.1 * p.2) (p.2 * q.2))
def qle (p q : Int × Int) : Prop := p.1 * q.2 ≤ q.1 * p.2
theorem qle_refl (p : Int × Int) : qle p p := Int.le_refl _
theorem qle_trans {p q r : Int × Int} (hp : 0 < p.2) (hq : 0 < q.2) (hr : 0 < r.2) (h1 : qle p q) (h2 : qle q r) : qle p r := by
  unfold qle at *
  have a1 := Int.mul_le_mul_of_nonneg_right h1 (Int.le_of_lt hr)
  have a2 := Int.mul_le_mul_of_nonneg_right h2 (Int.le_of_lt hp)
  refine Int.le_of_mul_le_mul_left (a := q.2) ?_ hq
  have e1 : q.2 * (p.1 * r.2) = p.1 * q.2 * r.2 := by rw [← Int.mul_assoc, Int.mul_comm q.2 p.1]
  have e2 : q.1 * p.2 * r.2 = q.1 * r.2 * p.2 := Int.mul_right_comm _ _ _
  have e3 : q.2 * (r.1 * p.2) = r.1 * q.2 * p.2 := by rw [← Int.mul_assoc, Int.mul_comm q.2 r.1]
  rw [e1, e3]
  rw [e2] at a1
  exact Int.le_trans a1 a2
theorem qle_total (p q : Int × Int) : ¬ qle p q → qle q p := fun h => Int.le_of_lt (Int.not_le.mp h)
/-- good rows of ratios -/
def Gq (n : Nat) (q : Int × Int) : Prop := Bd n q.1 ∧ Bd n q.2 ∧ 0 < q.2
theorem qadd_good {n m : Nat} {p q : Int × Int} (h : Gq n p) (k : Gq m q) : Gq (n + m + 1) (qadd p q) := by
  obtain ⟨a, b, c⟩ := h
  obtain ⟨d, e, f⟩ := k
  refine ⟨bd_le ((a.mul e).add (d.mul b)) (nT_le _ _) |>.mono (by omega), bd_le (b.mul e) (nB_le _ _) |>.mono (by omega), nB_pos (Int.mul_ne_zero (by omega) (by omega))⟩
end Fd
namespace Fd
open PySem PySem.Spec PyProof.Rows L2
theorem atI_map {α β : Type} (f : α → β) {xs : List α} {i : Int} {x : α} (h : atI xs i = some x) : atI (xs.map f) i = some (f x) := by
  unfold atI at *
  rw [List.length_map]
  cases e : ixN xs.length i with
  | none => rw [e] at h; cases h
  | some j => rw [e] at h; simp at h ⊢; exact ⟨x, h, rfl⟩
end Fd
set_option Elab.async false
set_option linter.all false
set_option maxRecDepth 100000
set_option maxHeartbeats 4000000
namespace Fd
open PySem PySem.Spec PyProof.Rows L2
section
variable {X : Cx} {ct : Nat → Addr} {W : WX} {pos : Pos} {e : Expr} {m : M RV}
/-! ## text that is never reached: its meaning is stuck -/
theorem ed_dead : ED X ct W e stuck := ⟨fun _ _ _ => False, ⟨fun _ _ _ _ _ _ h => False.elim h⟩, fun _ _ _ _ _ _ g => g⟩
theorem td_dead : TD X ct W e stuck := ⟨fun _ _ _ => False, ⟨fun _ _ _ _ _ _ h => False.elim h⟩, fun _ _ _ _ _ _ g => g⟩
theorem sd_dead {st : Stmt} : SD X ct W st stuck := ⟨fun _ _ _ => False, ⟨fun _ _ _ _ _ _ h => False.elim h⟩, fun _ _ _ _ _ _ g => g⟩
theorem sds_dead {st : List Stmt} : SDs X ct W st stuck := ⟨fun _ _ _ => False, ⟨fun _ _ _ _ _ _ h => False.elim h⟩, fun _ _ _ _ _ _ g => g⟩
/-! ## isinstance(e, (T, U)) -/
theorem tyX_step {K : PySem.W.Frag} {ct : Nat → Addr} {γ : G} {s : S} {H H0 : Hp} {σ : L2.St} (R : Rep K ct γ H σ s) {v : V} {x : RV} {u : Ty} {p : Addr} {o : HO} (e1 : tyR s x = some u) (q : RepR K ct γ s H0 H v x) (hp : H p = none) : TyX K (upd H p o) v (.type u.nm) :=
  tyR_rep (R.laid hp) e1 (RepR.mono (Step.laid hp) q)
theorem ed_isi2 {p p2 p3 tpos : Pos} {x y : Str} {k : Nat} (t t' : Ty) (ht : t ≠ .none) (ht' : t' ≠ .none) (hg : Gl X "isinstance") (hm : X.mg "isinstance" = none) (h : ED X ct W e m) (hx : PE X (.Name x p2) (tC (.ty t.nm))) (hy : PE X (.Name y p3) (tC (.ty t'.nm)))
    (he : starEach [e, .Tuple [.Name x p2, .Name y p3] k tpos] X.env = (false, eval e X.env) :: starEach [.Tuple [.Name x p2, .Name y p3] k tpos] X.env := by rfl) (hpl : (backTo pos (starEach [.Tuple [.Name x p2, .Name y p3] k tpos] X.env)).any (·.1) = false := by rfl)
    (he2 : starEach [.Tuple [.Name x p2, .Name y p3] k tpos] X.env = (false, eval (.Tuple [.Name x p2, .Name y p3] k tpos) X.env) :: starEach [] X.env := by rfl)
    (he3 : starEach [.Name x p2, .Name y p3] X.env = (false, eval (.Name x p2) X.env) :: starEach [.Name y p3] X.env := by rfl) (he4 : starEach [.Name y p3] X.env = (false, eval (.Name y p3) X.env) :: starEach [] X.env := by rfl) :
    ED X ct W (.Call (.Name "isinstance" p) [e, .Tuple [.Name x p2, .Name y p3] k tpos] [] pos) (bnd m (isiM2 t t')) := by
  obtain ⟨te, pe, r⟩ := h.ex
  refine ⟨_, pe_callB call_isiT hg hm boot_isinstance (pa_cons pe (pa_cons (pe_tup (pa_cons hx (pa_cons hy pa_nil he4) he3)) pa_nil he2) he) (he := he) (hpl := hpl), fun σ H γ s Q R h => ?_⟩
  refine r σ H γ s _ R (use_e h (fun _ _ z => z) fun x s1 v γ1 H1 t1 R1 q1 g => ?_)
  unfold isiM2 at g
  cases e1 : tyR s1 x with
  | none => simp only [e1] at g; exact False.elim g
  | some u =>
    simp only [e1] at g
    refine ⟨Nat.le_of_lt (show 2 < sizeLine from small1000 (by decide)), fun q nq => ?_⟩
    exact ⟨v, q, _, .type u.nm, [.type t.nm, .type t'.nm], subTy u t || subTy u t', rfl, upd_same, .cons (.ty _) (.cons (.ty _) .nil), tyX_step R1 e1 q1 nq, kitAny2 ht ht', g _ γ1 _ (t1.trans (Step.laid nq)) (R1.laid nq) (repB _)⟩
@[simp] theorem e_isi2 (s : S) (t t' : Ty) (r : RV) : isiM2 t t' r s = match tyR s r with
  | some u => .ok (RB (subTy u t || subTy u t')) s
  | none => .bad := rfl
/-! ## isqrt -/
def rIsq : List V → Hp → VK → Prop := fun vs H Q => ∃ a : Int, vs = [.int a] ∧ 0 ≤ a ∧ a < 2 ^ 64 ∧ Q (.int ((Float64.isqrt a.toNat : Nat) : Int)) H
theorem cr_isqrt : CallR X (.builtin "math.isqrt") rIsq := by
  intro pins s σ H vs us Q I r h
  obtain ⟨a, rfl, h0, h1, q⟩ := h
  cases r with
  | cons r1 r2 =>
    cases r2
    obtain ⟨t, rfl⟩ := r1
    exact PySem.W.mg_isqrt h0 h1 ⟨.int _, H, I.tok _, ⟨_, rfl⟩, q⟩
def isqM : List RV → M RV
  | [.sv (.dat (.int i))] => fun s => if 0 ≤ i ∧ i < 2 ^ 64 then .ok (RI ((Float64.isqrt i.toNat : Nat) : Int)) s else .bad
  | _ => stuck
theorem isqM_ok : CallOk X ct rIsq isqM := by
  intro W σ γ s H Ha vs rs Q R q h
  unfold isqM at h
  split at h
  · rename_i i
    cases q with
    | cons q1 q2 =>
      cases q2
      by_cases c : 0 ≤ i ∧ i < 2 ^ 64
      · rw [if_pos c] at h
        exact ⟨i, by rw [rep_int q1], c.1, c.2, h _ γ H Step.refl R (repI _)⟩
      · rw [if_neg c] at h; exact False.elim h
  · exact False.elim h
@[simp] theorem e_isqM (s : S) (i : Int) : isqM [RI i] s = if 0 ≤ i ∧ i < 2 ^ 64 then .ok (RI ((Float64.isqrt i.toNat : Nat) : Int)) s else .bad := rfl
end
/-! ## constants of the module: None, tuples of tuples -/
section
variable {K : PySem.W.Frag} {ct : Nat → Addr} {mg : Str → Option Value} {h : Heap}
theorem csT_non {x : Str} (KX : K.In h) (G : h.Ns mainGlobals mg) (e : PySem.W.nsIn K mainGlobals x = some (some .none)) : CsT K mg ct x .non :=
  ⟨.non, _, PySem.W.mg_of KX G e, rfl, fun H => .non⟩
theorem repD_tupK {a : Addr} {c2 : Option Addr} {its : Array Value} {n : Nat} {sl : Array (Option Value)} {vs : List V} {ds : List D} (l : K.lookup a = some ⟨.type "tuple", c2, .seq its n, sl⟩) (hl : its.size ≤ 1000) (hv : Vals vs its.toList) (hr : ∀ H, RepDs K ct H vs ds) : ∀ H, RepD K ct H (.ref a) (.tup ds) :=
  fun H => .tup (sqT_K l rfl rfl hl hv) (hr H)
theorem csT_tt {x : Str} {a b c : Addr} {c2 c3 c4 : Option Addr} {its jts kts : Array Value} {n n2 n3 : Nat} {sl sl2 sl3 : Array (Option Value)} {us ws : List V} {ds es : List D} (KX : K.In h) (G : h.Ns mainGlobals mg) (e : PySem.W.nsIn K mainGlobals x = some (some (.ref a))) (l : K.lookup a = some ⟨.type "tuple", c2, .seq its n, sl⟩)
    (hi : its.toList = [.ref b, .ref c]) (l2 : K.lookup b = some ⟨.type "tuple", c3, .seq jts n2, sl2⟩) (l3 : K.lookup c = some ⟨.type "tuple", c4, .seq kts n3, sl3⟩) (hl : its.size ≤ 1000) (hl2 : jts.size ≤ 1000) (hl3 : kts.size ≤ 1000)
    (hv : Vals us jts.toList) (hw : Vals ws kts.toList) (hr : ∀ H, RepDs K ct H us ds) (hr2 : ∀ H, RepDs K ct H ws es) : CsT K mg ct x (.tup [.tup ds, .tup es]) :=
  ⟨.ref a, _, PySem.W.mg_of KX G e, rfl, fun H => .tup (vs := [.ref b, .ref c]) (sqT_K l rfl rfl hl (by rw [hi]; exact .cons rfl (.cons rfl .nil))) (.cons (repD_tupK l2 hl2 hv hr H) (.cons (repD_tupK l3 hl3 hw hr2 H) .nil))⟩
end
end Fd
namespace Fd
open PySem PySem.Spec PyProof.Rows L2
section
variable {X : Cx} {ct : Nat → Addr} {W : WX} {pos : Pos} {e : Expr} {m : M RV} {es : List Expr}
/-! ## x, y = e, e a tuple or a list -/
theorem pg_or {tg : Expr} {g1 g2 : TG} (h1 : PG X tg g1) (h2 : PG X tg g2) : PG X tg (fun v σ H Q => g1 v σ H Q ∨ g2 v σ H Q) :=
  ⟨fun pins s σ H v u Q I r h => h.elim (h1.run pins s σ H v u Q I r) (h2.run pins s σ H v u Q I r)⟩
def seqG (g : List SV → M Unit) (n : Nat) (x : SV) : M Unit := match x with
  | .dat (.tup ds) => if ds.length = n then g (ds.map SV.dat) else stuck
  | .dat (.lst ds) => if ds.length = n then g (ds.map SV.dat) else stuck
  | _ => stuck
theorem gd_seq {is : List Nat} {k n : Nat} {g : List SV → M Unit} (hc : X.calm = true) (h : GDs X ct es is g) (hn : (assignEach es X.env).length = n := by rfl) (hst : (assignEach es X.env).findIdx? (·.1) = none := by rfl) : GD X ct (.Tuple es k pos) is (seqG g n) := by
  obtain ⟨t, p, r⟩ := h.ex
  refine ⟨_, pg_or (pg_tup hc p hn hst) (pg_lst hc p hn hst), fun σ H γ s v x Q R q h => ?_⟩
  unfold seqG at h
  split at h
  · rename_i ds
    obtain ⟨a, vs, e1, hq, w⟩ := tup_rep (s := s) (H0 := H) (γ := γ) (show RepR X.K ct γ s H H v (RT ds) from q)
    by_cases c : ds.length = n
    · rw [if_pos c] at h
      exact .inl ⟨a, vs, e1, hq, by rw [w.length]; exact c, r σ H γ s vs _ Q R (rep_map w) h⟩
    · rw [if_neg c] at h; exact False.elim h
  · rename_i ds
    have q' : RepD X.K ct H v (.lst ds) := q
    cases q' with
    | lst hq w =>
      by_cases c : ds.length = n
      · rw [if_pos c] at h
        exact .inr ⟨_, _, rfl, hq.sq, by rw [w.length]; exact c, r σ H γ s _ _ Q R (rep_map w) h⟩
      · rw [if_neg c] at h; exact False.elim h
  · exact False.elim h
@[simp] theorem e_seqGt (s : S) (g n) (ds : List D) : seqG g n (.dat (.tup ds)) s = if ds.length = n then g (ds.map SV.dat) s else .bad := by
  show (if ds.length = n then g (ds.map SV.dat) else stuck) s = _
  split <;> rfl
@[simp] theorem e_seqGl (s : S) (g n) (ds : List D) : seqG g n (.dat (.lst ds)) s = if ds.length = n then g (ds.map SV.dat) s else .bad := by
  show (if ds.length = n then g (ds.map SV.dat) else stuck) s = _
  split <;> rfl
end
end Fd
set_option Elab.async false
set_option linter.all false
set_option maxRecDepth 100000
set_option maxHeartbeats 4000000
namespace Fd
open PySem PySem.Spec PyProof.Rows L2
/-! ## ratios as rational numbers -/
theorem normN (a : Int) (d : Nat) (h : d ≠ 0) : (Rat.normalize a d h).num = a / gI a d ∧ ((Rat.normalize a d h).den : Int) = (d : Int) / gI a d := by
  rw [Rat.normalize_eq]
  unfold gI
  constructor
  · show a / _ = _
    rfl
  · show ((d / a.natAbs.gcd d : Nat) : Int) = _
    rw [Int.natCast_ediv]; rfl
theorem nq {a b : Int} (hb : b ≠ 0) : nT a b = ((a : Rat) / (b : Rat)).num ∧ nB a b = (((a : Rat) / (b : Rat)).den : Int) := by
  rw [← Rat.divInt_eq_div]
  unfold nT nB
  match b, hb with
  | Int.ofNat d, hb =>
    have hd : d ≠ 0 := fun z => hb (by rw [z]; rfl)
    have e : Rat.divInt a (Int.ofNat d) = Rat.normalize a d hd := by
      show mkRat a d = _
      unfold mkRat
      rw [dif_neg hd]
    rw [e]
    have := normN a d hd
    rw [if_neg (by simp), if_neg (by simp)]
    exact ⟨this.1.symm, this.2.symm⟩
  | Int.negSucc d, hb =>
    have e : Rat.divInt a (Int.negSucc d) = Rat.normalize (-a) d.succ (Nat.succ_ne_zero d) := rfl
    rw [e]
    have := normN (-a) d.succ (Nat.succ_ne_zero d)
    have hn : Int.negSucc d < 0 := Int.negSucc_lt_zero d
    rw [if_pos hn, if_pos hn]
    have hg : gI a (Int.negSucc d) = gI (-a) (d.succ : Nat) := by unfold gI; rw [Int.natAbs_neg]; rfl
    rw [hg]
    exact ⟨this.1.symm, this.2.symm⟩
/-- a ratio's data -/
def qr (r : Rat) : D := .tup [.int r.num, .int r.den]
theorem qr_of {a b : Int} (hb : b ≠ 0) : D.tup [.int (nT a b), .int (nB a b)] = qr ((a : Rat) / (b : Rat)) := by
  rw [(nq hb).1, (nq hb).2]; rfl
@[simp] theorem eqD_qr (r s : Rat) : eqD (qr r) (qr s) = decide (r = s) := by
  unfold qr
  simp only [eqD_tup, eqDs_cons, eqDs_nil, eqD_int, Bool.and_true]
  by_cases h : r = s
  · subst h; simp
  · have : ¬ (r.num = s.num ∧ r.den = s.den) := fun z => h (Rat.ext z.1 z.2)
    simp only [h, decide_false]
    by_cases h1 : r.num = s.num
    · have h2 : ¬ r.den = s.den := fun z => this ⟨h1, z⟩
      have h3 : ¬ ((r.den : Int) = s.den) := by omega
      simp [h1, h3]
    · simp [h1]
@[simp] theorem no_qr (r : Rat) : isNoD (qr r) = false := rfl
@[simp] theorem okD_qr (r : Rat) : okD (qr r) = true := rfl
theorem den_pos (r : Rat) : (0 : Int) < r.den := by have := r.den_pos; omega
theorem den_nz (r : Rat) : (r.den : Int) ≠ 0 := by have := r.den_pos; omega
theorem rat_eq (r : Rat) : r = (r.num : Rat) / ((r.den : Int) : Rat) := by
  have h := Rat.divInt_eq_div r.num r.den
  rw [← h, Rat.divInt_ofNat]
  exact (Rat.mkRat_self r).symm
theorem qr_gcd (r : Rat) : gI r.num r.den = 1 := by
  have := r.reduced
  unfold gI
  show ((Nat.gcd r.num.natAbs r.den : Nat) : Int) = 1
  rw [this]; rfl
theorem denQ_nz (r : Rat) : ((r.den : Int) : Rat) ≠ 0 := fun z => den_nz r (Rat.intCast_eq_zero_iff.mp z)
theorem q_add (r s : Rat) : ((r.num * s.den + s.num * r.den : Int) : Rat) / ((r.den * s.den : Int) : Rat) = r + s := by
  have h1 := denQ_nz r
  have h2 := denQ_nz s
  have e1 := rat_eq r
  have e2 := rat_eq s
  rw [Rat.intCast_add, Rat.intCast_mul, Rat.intCast_mul, Rat.intCast_mul]
  generalize ((r.den : Int) : Rat) = d1 at *
  generalize ((s.den : Int) : Rat) = d2 at *
  generalize (r.num : Rat) = a1 at *
  generalize (s.num : Rat) = a2 at *
  subst e1; subst e2
  grind
theorem q_sub (r s : Rat) : ((r.num * s.den - s.num * r.den : Int) : Rat) / ((r.den * s.den : Int) : Rat) = r - s := by
  have h1 := denQ_nz r
  have h2 := denQ_nz s
  have e1 := rat_eq r
  have e2 := rat_eq s
  rw [Int.sub_eq_add_neg, Rat.intCast_add, Rat.intCast_neg, Rat.intCast_mul, Rat.intCast_mul, Rat.intCast_mul]
  generalize ((r.den : Int) : Rat) = d1 at *
  generalize ((s.den : Int) : Rat) = d2 at *
  generalize (r.num : Rat) = a1 at *
  generalize (s.num : Rat) = a2 at *
  subst e1; subst e2
  grind
theorem q_mul (r s : Rat) : ((r.num * s.num : Int) : Rat) / ((r.den * s.den : Int) : Rat) = r * s := by
  have h1 := denQ_nz r
  have h2 := denQ_nz s
  have e1 := rat_eq r
  have e2 := rat_eq s
  rw [Rat.intCast_mul, Rat.intCast_mul]
  generalize ((r.den : Int) : Rat) = d1 at *
  generalize ((s.den : Int) : Rat) = d2 at *
  generalize (r.num : Rat) = a1 at *
  generalize (s.num : Rat) = a2 at *
  subst e1; subst e2
  grind
theorem num_nz {s : Rat} (h : s ≠ 0) : s.num ≠ 0 := fun z => h (Rat.num_eq_zero.mp z)
theorem q_div (r s : Rat) (hs : s ≠ 0) : ((r.num * s.den : Int) : Rat) / ((r.den * s.num : Int) : Rat) = r / s := by
  have h1 := denQ_nz r
  have h2 := denQ_nz s
  have h3 : (s.num : Rat) ≠ 0 := fun z => num_nz hs (Rat.intCast_eq_zero_iff.mp z)
  have e1 := rat_eq r
  have e2 := rat_eq s
  rw [Rat.intCast_mul, Rat.intCast_mul]
  generalize ((r.den : Int) : Rat) = d1 at *
  generalize ((s.den : Int) : Rat) = d2 at *
  generalize (r.num : Rat) = a1 at *
  generalize (s.num : Rat) = a2 at *
  subst e1; subst e2
  grind
/-- sizes -/
structure Rb (n : Nat) (r : Rat) : Prop where
  num : Bd n r.num
  den : Bd n (r.den : Int)
theorem Rb.mono {n m : Nat} {r : Rat} (h : Rb n r) (l : n ≤ m) : Rb m r := ⟨h.num.mono l, h.den.mono l⟩
theorem rb_frac {n : Nat} {a b : Int} (hb : b ≠ 0) (h1 : Bd n a) (h2 : Bd n b) : Rb n ((a : Rat) / (b : Rat)) := by
  obtain ⟨e1, e2⟩ := nq (a := a) hb
  exact ⟨by rw [← e1]; exact bd_le h1 (nT_le _ _), by rw [← e2]; exact bd_le h2 (nB_le _ _)⟩
theorem Rb.add {n m : Nat} {r s : Rat} (h : Rb n r) (k : Rb m s) : Rb (n + m + 1) (r + s) := by
  rw [← q_add]
  exact rb_frac (Int.mul_ne_zero (den_nz r) (den_nz s)) (((h.num.mul k.den).add (k.num.mul h.den)).mono (by omega)) ((h.den.mul k.den).mono (by omega))
theorem Rb.sub {n m : Nat} {r s : Rat} (h : Rb n r) (k : Rb m s) : Rb (n + m + 1) (r - s) := by
  rw [← q_sub]
  exact rb_frac (Int.mul_ne_zero (den_nz r) (den_nz s)) (((h.num.mul k.den).sub (k.num.mul h.den)).mono (by omega)) ((h.den.mul k.den).mono (by omega))
theorem Rb.mul {n m : Nat} {r s : Rat} (h : Rb n r) (k : Rb m s) : Rb (n + m) (r * s) := by
  rw [← q_mul]
  exact rb_frac (Int.mul_ne_zero (den_nz r) (den_nz s)) (h.num.mul k.num) (h.den.mul k.den)
theorem Rb.div {n m : Nat} {r s : Rat} (h : Rb n r) (k : Rb m s) (z : s ≠ 0) : Rb (n + m) (r / s) := by
  rw [← q_div r s z]
  exact rb_frac (Int.mul_ne_zero (den_nz r) (num_nz z)) (h.num.mul k.den) (h.den.mul k.num)
theorem neg_qr (r : Rat) : D.tup [.int (-r.num), .int r.den] = qr (-r) := by
  unfold qr; rw [Rat.neg_num, Rat.neg_den]
theorem Rb.neg {n : Nat} {r : Rat} (h : Rb n r) : Rb n (-r) := ⟨by rw [Rat.neg_num]; exact h.num.neg, by rw [Rat.neg_den]; exact h.den⟩
theorem qr_int (a : Int) : qr (a : Rat) = .tup [.int a, .int 1] := by unfold qr; simp
theorem rb_int {n : Nat} {a : Int} (h : Bd n a) (hn : 1 ≤ n := by decide) : Rb n (a : Rat) := ⟨by simpa using h, by simpa using (show Bd n 1 from bd_of (n := 1) (by decide) (by decide) |>.mono hn)⟩
end Fd
namespace Fd
open PySem PySem.Spec PyProof.Rows L2
theorem sqn (t : Rat) : 0 ≤ t * t := by
  rcases Rat.le_total (a := 0) (b := t) with h | h
  · exact Rat.mul_nonneg h h
  · have : 0 ≤ -t := by grind
    have := Rat.mul_nonneg this this
    grind
theorem one_sq (t : Rat) : 1 + t * t ≠ 0 := by
  have := sqn t
  grind
theorem qr_0 : qr 0 = .tup [.int 0, .int 1] := rfl
theorem qr_1 : qr 1 = .tup [.int 1, .int 1] := rfl
theorem qr_m1 : qr (-1) = .tup [.int (-1), .int 1] := rfl
theorem qr_2 : qr 2 = .tup [.int 2, .int 1] := rfl
theorem qr_m2 : qr (-2) = .tup [.int (-2), .int 1] := rfl
theorem eq_qr0 (r : Rat) : eqD (qr r) (.tup [.int 0, .int 1]) = decide (r = 0) := eqD_qr r 0
theorem eq_qr1 (r : Rat) : eqD (qr r) (.tup [.int 1, .int 1]) = decide (r = 1) := eqD_qr r 1
theorem eq_qrm1 (r : Rat) : eqD (qr r) (.tup [.int (-1), .int 1]) = decide (r = -1) := eqD_qr r (-1)
theorem rb1 : Rb 2 (1 : Rat) := ⟨bd_of (by decide) (by decide), bd_of (by decide) (by decide)⟩
theorem rb0 : Rb 2 (0 : Rat) := ⟨bd_of (by decide) (by decide), bd_of (by decide) (by decide)⟩
theorem rb2 : Rb 3 (2 : Rat) := ⟨bd_of (by decide) (by decide), bd_of (by decide) (by decide)⟩
theorem rbm1 : Rb 2 (-1 : Rat) := ⟨bd_of (by decide) (by decide), bd_of (by decide) (by decide)⟩
theorem rbm2 : Rb 3 (-2 : Rat) := ⟨bd_of (by decide) (by decide), bd_of (by decide) (by decide)⟩
theorem tup_qr (r : Rat) : D.tup [.int r.num, .int r.den] = qr r := rfl
end Fd
namespace Fd
open PySem PySem.Spec PyProof.Rows L2
@[simp] theorem e_deepN (s : S) (xs : List SV) : deep s (.new xs) = match datL xs with
  | some ds => some (.lst ds)
  | none => none := rfl
@[simp] theorem okD_l0 : okD (.lst []) = true := rfl
@[simp] theorem okD_q2 (x y : Rat) : okD (.tup [qr x, qr y]) = true := rfl
end Fd
namespace Fd
open PySem PySem.Spec PyProof.Rows L2
theorem qr_lit (a b : Int) (hb : 0 < b) (hg : gI a b = 1) : D.tup [.int a, .int b] = qr ((a : Rat) / (b : Rat)) := by
  rw [← qr_of (by omega)]
  unfold nT nB
  rw [hg, if_neg (by omega), if_neg (by omega)]
  simp
theorem lit_ex (a b : Int) (hb : 0 < b) (hg : gI a b = 1) {n : Nat} (h1 : Bd n a) (h2 : Bd n b) : ∃ q : Rat, D.tup [.int a, .int b] = qr q ∧ Rb n q := ⟨_, qr_lit a b hb hg, rb_frac (by omega) h1 h2⟩
end Fd
set_option Elab.async false
set_option linter.all false
set_option maxRecDepth 100000
set_option maxHeartbeats 4000000
namespace Fd
open PySem PySem.Spec PyProof.Rows L2
/-! ## methods of a string with one argument -/
def mS (mo me : M RV) (f : Str → RV → M RV) : M RV := bnd mo fun x => match x with
  | .sv (.dat (.str a)) => bnd me (fun y => f a y)
  | _ => stuck
def SmOk (X : Cx) (ct : Nat → Addr) (r : V → List V → Hp → VK → Prop) (f : Str → RV → M RV) : Prop := ∀ (W : WX) (σ : L2.St) (γ : G) (s : S) (H Hb : Hp) (a : Str) (y : V) (r2 : RV) (Q : VK), Rep X.K ct γ H σ s → RepR X.K ct γ s Hb H y r2 → Good X.K ct W σ γ s H (f a r2 s) Q → r (.str a) [y] H Q
section
variable {X : Cx} {ct : Nat → Addr} {W : WX} {pos : Pos} {o e : Expr} {mo me : M RV}
theorem ed_sm {r : V → List V → Hp → VK → Prop} {f : Str → RV → M RV} {ca : Expr} (hf : SmOk X ct r f) (ho : ED X ct W o mo) (he : ED X ct W e me) (hp : ∀ {to : TE} {t : TA}, PE X o to → PA X [e] t → PE X ca (tBM X.K "str" r to t)) (hs : starEach [e] X.env = (false, eval e X.env) :: starEach [] X.env := by rfl) : ED X ct W ca (mS mo me f) := by
  obtain ⟨to, po, ro⟩ := ho.ex
  obtain ⟨te, pe, re⟩ := he.ex
  refine ⟨_, hp po (pa_cons pe pa_nil hs), fun σ H γ s Q R h => ?_⟩
  refine ro σ H γ s _ R (use_e h (fun _ _ z => z) fun x s1 v γ1 H1 t1 R1 q1 g => ?_)
  split at g
  · rename_i a
    obtain rfl := rep_str q1
    refine ⟨rfl, ?_⟩
    have g1 : Good X.K ct W σ γ1 s1 H1 ((bnd me fun y => f a y) s1) Q := Good.step t1 g
    exact re σ H1 γ1 s1 _ R1 (use_e g1 (fun _ _ z => z) fun y s2 w γ2 H2 t2 R2 q2 g2 => hf W σ γ2 s2 H2 _ a w y Q R2 q2 (Good.step t2 g2))
  · exact False.elim g
def startsM (a : Str) : RV → M RV
  | .sv (.dat (.str b)) => fun s => .ok (RB (Txt.startswith a b)) s
  | _ => stuck
theorem startsM_ok : SmOk X ct (fun x xs H Q => ∃ a b, x = .str a ∧ xs = [.str b] ∧ Q (.bl (Txt.startswith a b)) H) startsM := by
  intro W σ γ s H Hb a y r2 Q R q h
  unfold startsM at h
  split at h
  · rename_i b
    exact ⟨a, b, rfl, by rw [rep_str q], h _ γ H Step.refl R (repB _)⟩
  · exact False.elim h
def rmpM (a : Str) : RV → M RV
  | .sv (.dat (.str b)) => fun s => if a.length ≤ 100000 then .ok (RS (Txt.removeprefix a b)) s else .bad
  | _ => stuck
theorem rmpM_ok : SmOk X ct (fun x xs H Q => ∃ a b, x = .str a ∧ xs = [.str b] ∧ a.length ≤ sizeLine ∧ Q (.str (Txt.removeprefix a b)) H) rmpM := by
  intro W σ γ s H Hb a y r2 Q R q h
  unfold rmpM at h
  split at h
  · rename_i b
    by_cases c : a.length ≤ 100000
    · rw [if_pos c] at h
      exact ⟨a, b, rfl, by rw [rep_str q], lim_ok c, h _ γ H Step.refl R (RepD.str _)⟩
    · rw [if_neg c] at h; exact False.elim h
  · exact False.elim h
def partM (a : Str) : RV → M RV
  | .sv (.dat (.str b)) => fun s => if a.length ≤ 100000 ∧ (b.length == 0) = false then .ok (RT [.str (Txt.partition a b).1, .str (Txt.partition a b).2.1, .str (Txt.partition a b).2.2]) s else .bad
  | _ => stuck
theorem partM_ok : SmOk X ct (fun x xs H Q => ∃ a b, x = .str a ∧ xs = [.str b] ∧ (b.length == 0) = false ∧ a.length ≤ sizeLine ∧ ∀ p, H p = none → Q (.ref p) (upd H p (.tup [.str (Txt.partition a b).1, .str (Txt.partition a b).2.1, .str (Txt.partition a b).2.2]))) partM := by
  intro W σ γ s H Hb a y r2 Q R q h
  unfold partM at h
  split at h
  · rename_i b
    by_cases c : a.length ≤ 100000 ∧ (b.length == 0) = false
    · rw [if_pos c] at h
      exact ⟨a, b, rfl, by rw [rep_str q], c.2, lim_ok c.1, good_tup R (.cons (.str _) (.cons (.str _) (.cons (.str _) .nil))) h⟩
    · rw [if_neg c] at h; exact False.elim h
  · exact False.elim h
end
end Fd
namespace Fd
open PySem PySem.Spec PyProof.Rows L2
section
variable {X : Cx} {ct : Nat → Addr} {W : WX} {pos : Pos} {e tg a b : Expr} {m ma mb : M RV}
/-! ## for c in text -/
def chars (z : Str) : List SV := z.cps.toList.map fun c => .dat (.str ⟨#[c]⟩)
def strSrc : RV → M Src
  | .sv (.dat (.str z)) => pur ⟨chars z, none⟩
  | _ => stuck
theorem walkD_str {K : PySem.W.Frag} {γ : G} {s : S} {H : Hp} {z : Str} : WalkD K ct (Its z) ⟨chars z, none⟩ γ s H := by
  refine ⟨_, _, by rw [show (Src.mk (chars z) none).items.length = z.cps.size by simp [chars]]; exact walk_str, fun _ _ _ _ _ _ _ => trivial, ?_⟩
  rintro i γ1 s1 H1 σ1 x H2 y st R1 ok e ⟨rfl, c, ec, rfl⟩
  have e' : (chars z)[i]? = some y := e
  unfold chars at e'
  rw [List.getElem?_map, Array.getElem?_toList, ec] at e'
  cases e'
  exact ⟨Same.refl _, RepD.str _⟩
theorem id_str (h : ED X ct W e m) : ID X ct W tg e (bnd m strSrc) := by
  obtain ⟨t, p, r⟩ := h.ex
  refine ⟨_, pi_str p, fun σ H γ s R0 R h => ?_⟩
  refine r σ H γ s _ R (use_e h (fun _ _ z => z) fun x s1 v γ1 H1 t1 R1 q1 g => ?_)
  unfold strSrc at g
  split at g
  · rename_i z
    exact ⟨z, rep_str q1, g γ1 H1 _ t1 R1 walkD_str⟩
  · exact False.elim g
@[simp] theorem e_strSrc (s : S) (z : Str) : strSrc (RS z) s = .ok ⟨chars z, none⟩ s := rfl
/-! ## a sign in a text, int(text), text * number -/
def inS (neg : Bool) : RV → RV → M RV
  | .sv (.dat (.str i)), .sv (.dat (.str j)) => pur (RB (if neg then !(!(Builtin.Str.occurrences j i 0 j.length 1).isEmpty) else !(Builtin.Str.occurrences j i 0 j.length 1).isEmpty))
  | _, _ => stuck
theorem inS_ok : BinOk X ct (fun x y H Q => ∃ i j, x = .str i ∧ y = .str j ∧ Q (.bl (!(Builtin.Str.occurrences j i 0 j.length 1).isEmpty)) H) (inS false) := by
  intro W σ γ s H Ha Hb x y r1 r2 Q R q1 q2 h
  unfold inS at h
  split at h
  · rename_i i j
    exact ⟨i, j, rep_str q1, rep_str q2, h _ γ H Step.refl R (repB _)⟩
  · exact False.elim h
theorem notinS_ok : BinOk X ct (fun x y H Q => ∃ i j, x = .str i ∧ y = .str j ∧ Q (.bl (!(!(Builtin.Str.occurrences j i 0 j.length 1).isEmpty))) H) (inS true) := by
  intro W σ γ s H Ha Hb x y r1 r2 Q R q1 q2 h
  unfold inS at h
  split at h
  · rename_i i j
    exact ⟨i, j, rep_str q1, rep_str q2, h _ γ H Step.refl R (repB _)⟩
  · exact False.elim h
theorem td_inS (ha : ED X ct W a ma) (hb : ED X ct W b mb) (hm : behindInMarks .In b = false := by rfl) : TD X ct W (.Compare a [.In] [b] pos) (bnd (m2 ma mb (inS false)) asB) := td_cmp op_in_str inS_ok ha hb hm
theorem td_notinS (ha : ED X ct W a ma) (hb : ED X ct W b mb) (hm : behindInMarks .NotIn b = false := by rfl) : TD X ct W (.Compare a [.NotIn] [b] pos) (bnd (m2 ma mb (inS true)) asB) := td_cmp op_notin_str notinS_ok ha hb hm
def intS : List RV → M RV
  | [.sv (.dat (.str z))] => fun s => match PySem.intText? z with
    | some n => if z.length ≤ 640 then .ok (RI n) s else .bad
    | none => .bad
  | _ => stuck
theorem intS_ok : CallOk X ct (fun xs H Q => ∃ a n, xs = [.str a] ∧ PySem.intText? a = some n ∧ a.length ≤ 640 ∧ Q (.int n) H) intS := by
  intro W σ γ s H Ha vs rs Q R q h
  unfold intS at h
  split at h
  · rename_i z
    cases q with
    | cons q1 q2 =>
      cases q2
      cases e : PySem.intText? z with
      | none => simp only [e] at h; exact False.elim h
      | some n =>
        simp only [e] at h
        by_cases c : z.length ≤ 640
        · rw [if_pos c] at h
          exact ⟨z, n, by rw [rep_str q1], e, c, h _ γ H Step.refl R (repI _)⟩
        · rw [if_neg c] at h; exact False.elim h
  · exact False.elim h
end
end Fd
namespace Fd
open PySem PySem.Spec PyProof.Rows L2
section
variable {X : Cx} {ct : Nat → Addr} {W : WX} {pos : Pos} {e a b : Expr} {m ma mb : M RV}
/-! ## text * number -/
def repS (x : Str) (n : Nat) : Str := ⟨(List.replicate n x.cps).foldl (· ++ ·) #[]⟩
theorem fold_len (x : Array Nat) : ∀ (n : Nat) (acc : Array Nat), ((List.replicate n x).foldl (· ++ ·) acc).size = acc.size + n * x.size
  | 0, acc => by simp
  | n + 1, acc => by
    rw [List.replicate_succ, List.foldl_cons, fold_len x n]
    simp [Array.size_append, Nat.succ_mul]; omega
theorem repS_len (x : Str) (n : Nat) : (repS x n).length = n * x.length := by
  show ((List.replicate n x.cps).foldl (· ++ ·) #[]).size = _
  rw [fold_len]; simp; rfl
def rMulS : R2 := fun x y H Q => ∃ (z : Str) (n : Int), x = .str z ∧ y = .int n ∧ 2 ≤ n ∧ n ≤ 100000 ∧ z.length ≤ 8 ∧ 1 ≤ z.length ∧ Q (.str (repS z n.toNat)) H
theorem op_mulS : OpR X (binaryOp .Mult) rMulS := by
  intro pins s σ H x y v u Q I rx ry h
  obtain ⟨z, n, rfl, rfl, h1, h2, h3, h4, q⟩ := h
  obtain ⟨t, rfl⟩ := rx
  obtain ⟨t', rfl⟩ := ry
  have n1 : (n == 1 || z.length == 0) = false := by
    have a1 : (n == 1) = false := by simpa using (show ¬ n = 1 by omega)
    have a2 : (z.length == 0) = false := by simpa using (show ¬ z.length = 0 by omega)
    rw [a1, a2]; rfl
  refine P.mul_str (by simp; omega) (fun _ _ => ?_) (fun _ _ => ?_) ?_
  · have hn : 0 < n := by omega
    have : 8 ≤ (2 ^ 63 - 1) / n := (Int.le_ediv_iff_mul_le hn).mpr (by omega)
    omega
  · have e1 : z.length * n.toNat ≤ 8 * 100000 := Nat.mul_le_mul h3 (by omega)
    unfold Builtin.Str.tooLong
    simp [sizeLine_eq]
    omega
  · rw [if_neg (by omega), if_neg (by rw [n1]; exact Bool.false_ne_true)]
    refine ⟨?_, .str (repS z n.toNat), H, I.tok _, ⟨_, rfl⟩, q⟩
    have := repS_len z n.toNat
    have e1 : n.toNat * z.length ≤ 100000 * 8 := Nat.mul_le_mul (by omega) h3
    show (repS z n.toNat).length ≤ sizeLine
    rw [this, sizeLine_eq]; omega
end
end Fd
namespace Fd
open PySem PySem.Spec PyProof.Rows L2
section
variable {X : Cx} {ct : Nat → Addr} {W : WX} {pos : Pos} {e a b : Expr} {m ma mb : M RV}
def mulSM : RV → RV → M RV
  | .sv (.dat (.str z)), .sv (.dat (.int n)) => fun s => if 2 ≤ n ∧ n ≤ 100000 ∧ z.length ≤ 8 ∧ 1 ≤ z.length then .ok (RS (repS z n.toNat)) s else .bad
  | _, _ => stuck
theorem mulSM_ok : BinOk X ct rMulS mulSM := by
  intro W σ γ s H Ha Hb x y r1 r2 Q R q1 q2 h
  unfold mulSM at h
  split at h
  · rename_i z n
    by_cases c : 2 ≤ n ∧ n ≤ 100000 ∧ z.length ≤ 8 ∧ 1 ≤ z.length
    · rw [if_pos c] at h
      exact ⟨z, n, rep_str q1, rep_int q2, c.1, c.2.1, c.2.2.1, c.2.2.2, h _ γ H Step.refl R (RepD.str _)⟩
    · rw [if_neg c] at h; exact False.elim h
  · exact False.elim h
theorem ed_mulS (ha : ED X ct W a ma) (hb : ED X ct W b mb) : ED X ct W (.BinOp a .Mult b pos) (m2 ma mb mulSM) := ed_bin op_mulS mulSM_ok ha hb
/-! ## f-strings -/
def fmtM : RV → M RV
  | .sv (.dat (.str z)) => fun s => if z.length ≤ 100000 then .ok (RS z) s else .bad
  | .sv (.dat (.int i)) => fun s => if i.natAbs.log2 < 1920 then .ok (RS (toString i)) s else .bad
  | _ => stuck
theorem ed_fmt (h : ED X ct W e m) : ED X ct W (.FormattedValue e (-1) none pos) (bnd m fmtM) := by
  obtain ⟨t, p, r⟩ := h.ex
  refine ⟨_, pe_fmt p, fun σ H γ s Q R h => ?_⟩
  refine r σ H γ s _ R (use_e h (fun _ _ z => z) fun x s1 v γ1 H1 t1 R1 q1 g => ?_)
  unfold fmtM at g
  split at g
  · rename_i z
    by_cases c : z.length ≤ 100000
    · rw [if_pos c] at g
      exact .inl ⟨z, rep_str q1, lim_ok c, g _ γ1 H1 t1 R1 (RepD.str _)⟩
    · rw [if_neg c] at g; exact False.elim g
  · rename_i i
    by_cases c : i.natAbs.log2 < 1920
    · rw [if_pos c] at g
      exact .inr ⟨i, rep_int q1, c, g _ γ1 H1 t1 R1 (RepD.str _)⟩
    · rw [if_neg c] at g; exact False.elim g
  · exact False.elim g
end
end Fd
namespace Fd
open PySem PySem.Spec PyProof.Rows L2
section
variable {X : Cx} {ct : Nat → Addr} {W : WX} {pos : Pos} {e a b : Expr} {es : List Expr} {m ma mb : M RV}
/-- the texts of an f-string, one behind the other -/
def joinM : List (M RV) → Str → M RV
  | [], acc => pur (RS acc)
  | m :: ms, acc => bnd m fun x => match x with
    | .sv (.dat (.str y)) => fun s => if (acc ++ y).length ≤ 100000 then joinM ms (acc ++ y) s else .bad
    | _ => stuck
theorem joinM_str : ∀ (ms : List (M RV)) (acc : Str) (s s1 : S) (x : RV), joinM ms acc s = .ok x s1 → ∃ z, x = RS z
  | [], acc, s, s1, x, h => by cases h; exact ⟨acc, rfl⟩
  | m :: ms, acc, s, s1, x, h => by
    unfold joinM bnd at h
    cases e : m s with
    | exc y s2 => rw [e] at h; cases h
    | bad => rw [e] at h; cases h
    | ok y s2 =>
      rw [e] at h
      simp only at h
      split at h
      · rename_i z
        by_cases c : (acc ++ z).length ≤ 100000
        · rw [if_pos c] at h; exact joinM_str ms (acc ++ z) s2 s1 x h
        · rw [if_neg c] at h; cases h
      · cases h
structure JD (X : Cx) (ct : Nat → Addr) (W : WX) (es : List Expr) (ms : List (M RV)) : Prop where
  ex : ∃ ts, PJ X es ts ∧ ∀ acc σ H γ s (Q : Str → Hp → Prop), Rep X.K ct γ H σ s → Good X.K ct W σ γ s H (joinM ms acc s) (fun v H' => ∃ z, v = .str z ∧ Q z H') → tJs ts acc σ H Q
theorem jd_nil : JD X ct W [] [] := ⟨[], .nil, fun acc σ H γ s Q R g => by
  obtain ⟨z, e, q⟩ := g (.str acc) γ H Step.refl R (RepD.str _)
  cases e
  exact q⟩
theorem jd_cons {ms : List (M RV)} (h : ED X ct W e m) (r : JD X ct W es ms) : JD X ct W (e :: es) (m :: ms) := by
  obtain ⟨t, p, rt⟩ := h.ex
  obtain ⟨ts, ps, rs⟩ := r.ex
  refine ⟨t :: ts, .cons p ps, fun acc σ H γ s Q R g => ?_⟩
  unfold joinM at g
  refine rt σ H γ s _ R (use_e g (fun _ _ z => z) fun x s1 v γ1 H1 t1 R1 q1 g1 => ?_)
  split at g1
  · rename_i y
    by_cases c : (acc ++ y).length ≤ 100000
    · rw [if_pos c] at g1
      exact ⟨y, rep_str q1, lim_ok c, rs (acc ++ y) σ H1 γ1 s1 Q R1 (Good.step t1 g1)⟩
    · rw [if_neg c] at g1; exact False.elim g1
  · exact False.elim g1
theorem ed_joined {v1 v2 : Expr} {rest : List Expr} {ms : List (M RV)} (h : JD X ct W (v1 :: v2 :: rest) ms) : ED X ct W (.JoinedStr (v1 :: v2 :: rest) pos) (joinM ms Str.empty) := by
  obtain ⟨ts, p, r⟩ := h.ex
  refine ⟨_, pe_joined p, fun σ H γ s Q R g => ?_⟩
  refine r _ σ H γ s _ R ?_
  unfold Good at *
  cases e : joinM ms Str.empty s with
  | bad => rw [e] at g; exact g
  | exc y s1 => rw [e] at g; exact g
  | ok x s1 =>
    rw [e] at g
    obtain ⟨z, rfl⟩ := joinM_str ms _ s s1 x e
    intro v γ1 H1 t1 R1 q1
    have ev := rep_str q1
    exact ⟨z, ev, by rw [← ev]; exact g v γ1 H1 t1 R1 q1⟩
end
end Fd
set_option Elab.async false
set_option linter.all false
set_option maxRecDepth 100000
set_option maxHeartbeats 4000000
namespace Fd
open PySem PySem.Spec PyProof.Rows L2
/-! ## an object in the making -/
def Chg : HO → Prop
  | .ins _ _ _ => True
  | .own _ => True
  | .ext _ => True
  | _ => False
section
variable {X : Cx} {pins : List (Addr × Obj)} {σ : L2.St} {H H' : Hp} {s : Shared} {a b : Addr}
theorem inv_re (I : Inv X pins σ H s) (hk : HOk X.prog X.w H' s.heap) (ag : ∀ x, x ≠ a → x ≠ b → H' x = H x) {o u : HO} (ea : H a = some o) (eb : H b = some u) (ca : Chg o) (cb : Chg u) : Inv X pins σ H' s := by
  have na : ∀ x, H x = none → x ≠ a ∧ x ≠ b := fun x e => ⟨(fun z => by rw [z, ea] at e; cases e), fun z => by rw [z, eb] at e; cases e⟩
  have nc : ∀ x w, H x = some w → ¬ Chg w → x ≠ a ∧ x ≠ b := fun x w e c => ⟨(fun z => by rw [z, ea] at e; cases e; exact c ca), fun z => by rw [z, eb] at e; cases e; exact c cb⟩
  refine ⟨I.ok, I.os, I.bare, ⟨I.base.keep, I.base.slot, fun x o e n hx => ?_, I.base.there, fun x xs e => ?_, fun x o y e => ?_, fun x ps e => ?_⟩, I.loc, I.cell, ?_, fun x c e => ?_, fun p hp => ?_, hk, I.len⟩
  · have q := I.base.free x o e n hx
    rw [ag x (na x q).1 (na x q).2]; exact q
  · have q := I.base.tups x xs e
    have z := nc x _ q (fun z => z)
    rw [ag x z.1 z.2]; exact q
  · have q := I.base.frzs x o y e
    have z := nc x _ q (fun z => z)
    rw [ag x z.1 z.2]; exact q
  · obtain ⟨m, q⟩ := I.base.tbls x ps e
    have z := nc x _ q (fun z => z)
    exact ⟨m, by rw [ag x z.1 z.2]; exact q⟩
  · have q := I.free
    rw [ag _ (na _ q).1 (na _ q).2]; exact q
  · have q := I.freeC x c e
    rw [ag _ (na _ q).1 (na _ q).2]; exact q
  · obtain ⟨p1, p2, p3⟩ := I.pin p hp
    exact ⟨p1, by rw [ag _ (na _ p2).1 (na _ p2).2]; exact p2, p3⟩
/-- the heap is seen otherwise -/
def Cv (X : Cx) (H H' : Hp) : Prop := ∀ (pins : List (Addr × Obj)) (σ : L2.St) (s : Shared), Inv X pins σ H s → Inv X pins σ H' s
def opened (H : Hp) (a C dx : Addr) (fs : List (Str × V)) : Hp := upd (upd H dx (.ext (meD dx fs))) a (.ext (meA a C dx))
def closed (H : Hp) (a C dx : Addr) (fs : List (Str × V)) : Hp := upd (upd H dx (.own a)) a (.ins C dx fs)
theorem cv_open {C dx : Addr} {fs : List (Str × V)} (ea : H a = some (.ins C dx fs)) : Cv X H (opened H a C dx fs) := by
  intro pins σ s I
  obtain ⟨ed, hl, ne, eo, hm⟩ := I.hok a _ ea
  have hm0 := hm
  obtain ⟨mA, ⟨od, es, ep, e2, c⟩, r⟩ := hm
  have st : ∀ h1 h2 : Heap, meD dx fs h1 → (∀ o, h1.get? dx = some o → h2.get? dx = some o) → meD dx fs h2 := fun h1 h2 x k => by
    obtain ⟨l1, mA, ⟨od, es, ep, e2, c⟩, r⟩ := x
    exact ⟨l1, mA, ⟨od, es, ep, k _ e2, c⟩, r⟩
  refine inv_re (a := a) (b := dx) I (fun x u e => ?_) (fun x n1 n2 => by unfold opened; rw [upd_ne n1, upd_ne n2]) ea ed trivial trivial
  by_cases h1 : x = a
  · subst h1
    unfold opened at e
    rw [upd_same] at e; cases e
    exact ⟨eo, ⟨_, eo⟩, fun h1 h2 p k => k _ p⟩
  · by_cases h2 : x = dx
    · subst h2
      unfold opened at e
      rw [upd_ne h1, upd_same] at e; cases e
      exact ⟨⟨hl, hm0⟩, ⟨_, e2⟩, st⟩
    · unfold opened at e
      rw [upd_ne h1, upd_ne h2] at e
      refine (I.hok x u e).stay (fun b u _ q => q) (fun y q => ?_) fun y xs q => ?_
      · have n1 : y ≠ a := fun z => by rw [z, ea] at q; cases q
        have n2 : y ≠ dx := fun z => by rw [z, ed] at q; cases q; exact h1 rfl
        unfold opened; rw [upd_ne n1, upd_ne n2]; exact q
      · have n1 : y ≠ a := fun z => by rw [z, ea] at q; cases q
        have n2 : y ≠ dx := fun z => by rw [z, ed] at q; cases q
        unfold opened; rw [upd_ne n1, upd_ne n2]; exact q
theorem cv_close {C dx : Addr} {fs : List (Str × V)} (ea : H a = some (.ext (meA a C dx))) (ed : H dx = some (.ext (meD dx fs))) (ne : dx ≠ a) : Cv X H (closed H a C dx fs) := by
  intro pins σ s I
  obtain ⟨eo, _, _⟩ := I.hok a _ ea
  have eo' : s.heap.get? a = some (PySem.W.instObj C dx) := eo
  obtain ⟨hd, ⟨od, e2⟩, _⟩ := I.hok dx _ ed
  obtain ⟨hl, hm⟩ := hd
  refine inv_re (a := a) (b := dx) I (fun x u e => ?_) (fun x n1 n2 => by unfold closed; rw [upd_ne n1, upd_ne n2]) ea ed trivial trivial
  by_cases h1 : x = a
  · subst h1
    unfold closed at e
    rw [upd_same] at e; cases e
    exact ⟨by unfold closed; rw [upd_ne ne, upd_same], hl, ne, eo', hm⟩
  · by_cases h2 : x = dx
    · subst h2
      unfold closed at e
      rw [upd_ne h1, upd_same] at e; cases e
      exact ⟨_, e2⟩
    · unfold closed at e
      rw [upd_ne h1, upd_ne h2] at e
      refine (I.hok x u e).stay (fun b u _ q => q) (fun y q => ?_) fun y xs q => ?_
      · have n1 : y ≠ a := fun z => by rw [z, ea] at q; cases q
        have n2 : y ≠ dx := fun z => by rw [z, ed] at q; cases q
        unfold closed; rw [upd_ne n1, upd_ne n2]; exact q
      · have n1 : y ≠ a := fun z => by rw [z, ea] at q; cases q
        have n2 : y ≠ dx := fun z => by rw [z, ed] at q; cases q
        unfold closed; rw [upd_ne n1, upd_ne n2]; exact q
theorem opened_closed {C dx : Addr} {fs : List (Str × V)} (ea : H a = some (.ext (meA a C dx))) (ed : H dx = some (.ext (meD dx fs))) (ne : dx ≠ a) : opened (closed H a C dx fs) a C dx fs = H := by
  funext x
  unfold opened closed
  by_cases h1 : x = a
  · subst h1; rw [upd_same, ea]
  · rw [upd_ne h1]
    by_cases h2 : x = dx
    · subst h2; rw [upd_same, ed]
    · rw [upd_ne h2, upd_ne h1, upd_ne h2]
end
def tCv (X : Cx) (t : TE) : TE := fun σ H Q => t σ H fun v H1 => ∃ H2, Cv X H1 H2 ∧ Q v H2
theorem pe_cv {X : Cx} {e : Expr} {t : TE} (h : PE X e t) : PE X e (tCv X t) := ⟨fun pins s σ H Q I hw =>
  thn (h.run pins s σ H _ I hw) fun u s1 ⟨v, H1, I1, r1, H2, c, q1⟩ => ⟨v, H2, c pins σ s1 I1, r1, q1⟩⟩
def tsCv (X : Cx) (t : TS) : TS := fun N σ H => t { N with nx := fun σ1 H1 => ∃ H2, Cv X H1 H2 ∧ N.nx σ1 H2 } σ H
theorem ps_cv {X : Cx} {st : Stmt} {t : TS} (h : PS X st t) : PS X st (tsCv X t) := ⟨fun pins s σ H D I hw =>
  thn (h.run pins s σ H _ I hw) fun f s1 q => by
    cases f with
    | next =>
      obtain ⟨σ', H', I', H2, c, q⟩ := q
      exact ⟨σ', H2, c pins σ' s1 I', q⟩
    | brk => exact q
    | cont => exact q
    | ret u => exact q⟩
end Fd
set_option Elab.async false
set_option linter.all false
set_option maxRecDepth 100000
set_option maxHeartbeats 4000000
namespace Fd
open PySem PySem.Spec PyProof.Rows L2
theorem Cv.refl {X : Cx} {H : Hp} : Cv X H H := fun _ _ _ I => I
/-! ## x.f -/
def fldM (cs : List Nat) (f : Str) : RV → M RV
  | .sv .hand => fun s => match s.hd with
    | some (.me c ds) => if cs.contains c = true then match ds.lookup f with
      | some d => .ok (RD d) s
      | none => .bad
      else .bad
    | _ => .bad
  | .sv (.dat (.obj c ds)) => fun s => if cs.contains c = true then match ds.lookup f with
    | some d => .ok (RD d) s
    | none => .bad
    else .bad
  | _ => stuck
/-- what is asked of the classes with an attribute f -/
def FldC (K : PySem.W.Frag) (ct : Nat → Addr) (cs : List Nat) (f : Str) : Prop := ∀ c, cs.contains c = true → Cls K (ct c) ∧ NoAttr K (ct c) f
section
variable {X : Cx} {ct : Nat → Addr} {W : WX} {pos : Pos} {e : Expr} {m : M RV} {f : Str} {cs : List Nat}
theorem ed_fld (T : FldC X.K ct cs f) (h : ED X ct W e m) (hb : attributeBase e f X.env (eval e X.env) = eval e X.env := by rfl) : ED X ct W (.Attribute e f pos) (bnd m (fldM cs f)) := by
  obtain ⟨t, p, r⟩ := h.ex
  refine ⟨_, pe_cv (pe_fld (pe_cv p) hb), fun σ H γ s Q R h => ?_⟩
  refine r σ H γ s _ R (use_e h (fun _ _ z => z) fun x s1 v γ1 H1 t1 R1 q1 g => ?_)
  unfold fldM at g
  split at g
  · split at g
    · rename_i c ds eh
      by_cases hc : cs.contains c = true
      · rw [if_pos hc] at g
        cases el : ds.lookup f with
        | none => simp only [el] at g; exact False.elim g
        | some d =>
          simp only [el] at g
          have q1' : v = .ref γ1.ah := q1
          subst q1'
          obtain ⟨fs, ea, ed, ne, en, rp⟩ := R1.hd _ eh
          obtain ⟨w, lw, rw'⟩ := lookup_rep en rp el
          obtain ⟨k1, k2⟩ := T c hc
          refine ⟨closed H1 γ1.ah (ct c) γ1.g fs, cv_close ea ed ne, γ1.ah, ct c, γ1.g, fs, w, rfl, upd_same, k1, k2, lw, H1, ?_, g w γ1 H1 t1 R1 rw'⟩
          have := cv_open (X := X) (H := closed H1 γ1.ah (ct c) γ1.g fs) (a := γ1.ah) (C := ct c) (dx := γ1.g) (fs := fs) upd_same
          rw [opened_closed ea ed ne] at this
          exact this
      · rw [if_neg hc] at g; exact False.elim g
    · exact False.elim g
  · rename_i c ds
    by_cases hc : cs.contains c = true
    · rw [if_pos hc] at g
      cases el : ds.lookup f with
      | none => simp only [el] at g; exact False.elim g
      | some d =>
        simp only [el] at g
        have q1' : RepD X.K ct H1 v (.obj c ds) := q1
        cases q1' with
        | obj ea nf en rp =>
          obtain ⟨w, lw, rw'⟩ := lookup_rep en rp el
          obtain ⟨k1, k2⟩ := T c hc
          exact ⟨H1, .refl, _, _, _, _, w, rfl, ea, k1, k2, lw, H1, .refl, g w γ1 H1 t1 R1 rw'⟩
    · rw [if_neg hc] at g; exact False.elim g
  · exact False.elim g
end
/-! ## self.f = e in an __init__ -/
def putD (f : Str) (v : D) : List (Str × D) → List (Str × D)
  | [] => [(f, v)]
  | (g, x) :: r => if g = f then (g, v) :: r else (g, x) :: putD f v r
theorem put_rep {K : PySem.W.Frag} {ct : Nat → Addr} {H : Hp} {f : Str} {v : V} {d : D} (rv : RepD K ct H v d) : ∀ {fs : List (Str × V)} {ds : List (Str × D)}, fs.map (·.1) = ds.map (·.1) → RepDs K ct H (fs.map (·.2)) (ds.map (·.2)) →
    (putF f v fs).map (·.1) = (putD f d ds).map (·.1) ∧ RepDs K ct H ((putF f v fs).map (·.2)) ((putD f d ds).map (·.2)) := by
  intro fs
  induction fs with
  | nil =>
    intro ds e r
    cases ds with
    | nil => exact ⟨rfl, .cons rv .nil⟩
    | cons _ _ => cases e
  | cons p fs ih =>
    intro ds e r
    cases ds with
    | nil => cases e
    | cons q ds =>
      obtain ⟨g, x⟩ := p
      obtain ⟨g', y⟩ := q
      have e' : g :: fs.map (·.1) = g' :: ds.map (·.1) := e
      obtain ⟨e1, e2⟩ := List.cons.inj e'
      subst e1
      have r' : RepDs K ct H (x :: fs.map (·.2)) (y :: ds.map (·.2)) := r
      cases r' with
      | cons r1 r2 =>
        obtain ⟨i1, i2⟩ := ih e2 r2
        unfold putF putD
        by_cases h : g = f
        · rw [if_pos h, if_pos h]
          exact ⟨by simp [e2], .cons rv r2⟩
        · rw [if_neg h, if_neg h]
          exact ⟨by simp [i1], .cons r1 i2⟩
theorem put_ne {f : Str} {v : V} {fs : List (Str × V)} : putF f v fs ≠ [] := by
  cases fs with
  | nil => exact fun z => by cases z
  | cons p r => obtain ⟨g, x⟩ := p; unfold putF; split <;> exact fun z => by cases z
def setMe (c0 : Nat) (i : Nat) (f : Str) (m : M RV) : M Fl := bnd m fun y => match y with
  | .sv (.dat d) => bnd (getV i) fun x => match x with
    | .sv .hand => fun s => match s.hd with
      | some (.me c ds) => if c = c0 ∧ ds.length < 900 then .ok .nx { s with hd := some (.me c (putD f d ds)) } else .bad
      | _ => .bad
    | _ => stuck
  | _ => stuck
theorem opened_put {H : Hp} {a C dx : Addr} {fs fs' : List (Str × V)} (ne : dx ≠ a) : opened (upd (closed H a C dx fs) a (.ins C dx fs')) a C dx fs' = opened H a C dx fs' := by
  funext x
  unfold opened closed
  by_cases h1 : x = a
  · subst h1; rw [upd_same, upd_same]
  · rw [upd_ne h1, upd_ne h1]
    by_cases h2 : x = dx
    · subst h2; rw [upd_same, upd_same]
    · rw [upd_ne h2, upd_ne h2, upd_ne h1, upd_ne h1, upd_ne h2]
section
variable {X : Cx} {ct : Nat → Addr} {W : WX} {pos pos' : Pos} {e o : Expr} {m : M RV} {f : Str} {c0 i : Nat}
theorem me_step {K : PySem.W.Frag} {γ : G} {s : S} {H : Hp} {σ : L2.St} {c : Nat} {ds ds' : List (Str × D)} (R : Rep K ct γ H σ s) (eh : s.hd = some (.me c ds)) {fs' : List (Str × V)} (en : fs'.map (·.1) = ds'.map (·.1)) (rp : RepDs K ct H (fs'.map (·.2)) (ds'.map (·.2))) :
    Step γ γ s { s with hd := some (.me c ds') } H (opened H γ.ah (ct c) γ.g fs') ∧ Rep K ct γ (opened H γ.ah (ct c) γ.g fs') σ { s with hd := some (.me c ds') } := by
  have nn : s.hd ≠ none := by rw [eh]; exact fun z => by cases z
  obtain ⟨fs, ea, ed, ne, _, _⟩ := R.hd _ eh
  have away : ∀ x, x ≠ γ.ah → x ≠ γ.g → opened H γ.ah (ct c) γ.g fs' x = H x := fun x n1 n2 => by unfold opened; rw [upd_ne n1, upd_ne n2]
  have ki : KeepI H (opened H γ.ah (ct c) γ.g fs') := fun x u e i => by
    rw [away x]
    · exact e
    · rintro rfl; rw [ea] at e; cases e; exact i
    · rintro rfl; rw [ed] at e; cases e; exact i
  have st : Step γ γ s { s with hd := some (.me c ds') } H (opened H γ.ah (ct c) γ.g fs') := by
    refine ⟨fun x u e n => ?_, fun x z => ?_, ki, fun x z => ?_, fun _ _ => rfl, Nat.le_refl _, rfl, fun _ h1 h2 => absurd h2 (Nat.not_lt.mpr h1)⟩
    · rw [away x (fun z => n (.inr ⟨nn, .inl z⟩)) (fun z => n (.inr ⟨nn, .inr z⟩))]; exact e
    · rcases z with ⟨j, lj, rfl⟩ | ⟨_, z⟩
      · exact .inl (.inl ⟨j, lj, rfl⟩)
      · exact .inl (.inr ⟨nn, z⟩)
    · unfold opened upd
      split
      · exact fun q => by cases q
      · split
        · exact fun q => by cases q
        · exact z
  refine ⟨st, R.len, fun j x ex => ?_, fun j ys ey => ?_, R.inj, fun h2 e2 => ?_, fun _ j lj => R.hdk nn j lj⟩
  · obtain ⟨v, q, r⟩ := R.env j x ex
    exact ⟨v, q, r.mono st⟩
  · obtain ⟨vs, q, r⟩ := R.mem j ys ey
    have hk := R.hdk nn j ⟨ys, ey⟩
    exact ⟨vs, by rw [away _ hk.1 hk.2]; exact q, RepSs.mono st r⟩
  · have e2' : some (Hd.me c ds') = some h2 := e2
    cases e2'
    exact ⟨fs', upd_same, by unfold opened; rw [upd_ne ne, upd_same], ne, en, RepDs.mono ki rp⟩
theorem sd_setMe {x : Str} {np : Pos} (k1 : Cls X.K (ct c0)) (k2 : NoAttr X.K (ct c0) f) (h : ED X ct W e m) (hp : PE X (.Name x np) (tVar i)) (hs : swapsWith e (some (.Attribute (.Name x np) f pos')) pos.line X.env = pure false := by rfl) :
    SD X ct W (.Assign [.Attribute (.Name x np) f pos'] e pos) (setMe c0 i f m) := by
  obtain ⟨t, p, r⟩ := h.ex
  refine ⟨_, ps_cv (ps_fld (pe_cv hp) p hs), fun N σ H γ s R h => ?_⟩
  refine r σ H γ s _ R (use_e h (fun _ _ z => z.at) fun y s1 v γ1 H1 t1 R1 q1 g => ?_)
  split at g
  · rename_i d
    unfold getV bnd at g
    cases e1 : s1.env[i]? with
    | none => simp only [e1] at g; exact False.elim g
    | some o =>
      cases o with
      | none => simp only [e1] at g; exact False.elim g
      | some x =>
        simp only [e1] at g
        cases x with
        | dat d => exact False.elim g
        | ref k => exact False.elim g
        | hand =>
          dsimp only at g
          obtain ⟨u, eu, ru⟩ := R1.env i _ e1
          have ru' : u = .ref γ1.ah := ru
          subst ru'
          cases eh : s1.hd with
          | none => simp only [eh] at g; exact False.elim g
          | some hh =>
            cases hh with
            | hand h0 => simp only [eh] at g; exact False.elim g
            | me c ds =>
              simp only [eh] at g
              by_cases cc : c = c0 ∧ ds.length < 900
              · rw [if_pos cc] at g
                obtain ⟨rfl, hl⟩ := cc
                obtain ⟨fs, ea, ed, ne, en, rp⟩ := R1.hd _ eh
                obtain ⟨n1, n2⟩ := put_rep (f := f) (v := v) (d := d) q1 en rp
                obtain ⟨st, R2⟩ := me_step R1 eh n1 n2
                have hfl : fs.length < 1000 := by
                  have := congrArg List.length en
                  simp at this
                  omega
                refine ⟨_, eu, closed H1 γ1.ah (ct c) γ1.g fs, cv_close ea ed ne, γ1.ah, ct c, γ1.g, fs, rfl, upd_same, k1, k2, hfl, _, ?_, g σ γ1 _ (t1.trans st) R2⟩
                have := cv_open (X := X) (H := upd (closed H1 γ1.ah (ct c) γ1.g fs) γ1.ah (.ins (ct c) γ1.g (putF f v fs))) (a := γ1.ah) (C := ct c) (dx := γ1.g) (fs := putF f v fs) upd_same
                rw [opened_put ne] at this
                exact this
              · rw [if_neg cc] at g; exact False.elim g
  · exact False.elim g
end
end Fd
set_option Elab.async false
set_option linter.all false
set_option maxRecDepth 100000
set_option maxHeartbeats 4000000
namespace Fd
open PySem PySem.Spec PyProof.Rows L2
/-! ## one reading or the other -/
def altM {α : Type} (m1 m2 : M α) : M α := fun s => match m1 s with
  | .bad => m2 s
  | o => o
section
variable {X : Cx} {ct : Nat → Addr} {W : WX} {e : Expr} {m1 m2 : M RV}
theorem ed_alt (h1 : ED X ct W e m1) (h2 : ED X ct W e m2) : ED X ct W e (altM m1 m2) := by
  obtain ⟨t1, p1, r1⟩ := h1.ex
  obtain ⟨t2, p2, r2⟩ := h2.ex
  refine ⟨fun σ H Q => t1 σ H Q ∨ t2 σ H Q, ⟨fun pins s σ H Q I h => h.elim (p1.run pins s σ H Q I) (p2.run pins s σ H Q I)⟩, fun σ H γ s Q R g => ?_⟩
  unfold altM at g
  cases e1 : m1 s with
  | bad => rw [e1] at g; exact .inr (r2 σ H γ s Q R g)
  | ok a s' => rw [e1] at g; exact .inl (r1 σ H γ s Q R (by rw [e1]; exact g))
  | exc a s' => rw [e1] at g; exact .inl (r1 σ H γ s Q R (by rw [e1]; exact g))
theorem td_alt {m1 m2 : M Bool} (h1 : TD X ct W e m1) (h2 : TD X ct W e m2) : TD X ct W e (altM m1 m2) := by
  obtain ⟨t1, p1, r1⟩ := h1.ex
  obtain ⟨t2, p2, r2⟩ := h2.ex
  refine ⟨fun σ H Q => t1 σ H Q ∨ t2 σ H Q, ⟨fun pins s σ H Q I h => h.elim (p1.run pins s σ H Q I) (p2.run pins s σ H Q I)⟩, fun σ H γ s Q R g => ?_⟩
  unfold altM at g
  cases e1 : m1 s with
  | bad => rw [e1] at g; exact .inr (r2 σ H γ s Q R g)
  | ok a s' => rw [e1] at g; exact .inl (r1 σ H γ s Q R (by rw [e1]; exact g))
  | exc a s' => rw [e1] at g; exact .inl (r1 σ H γ s Q R (by rw [e1]; exact g))
end
/-! ## making an object -/
section
variable (K : PySem.W.Frag) (ct : Nat → Addr)
def GoodI (x dx : Addr) (H : Hp) (o : Res) (Q : VK) (E : XK) : Prop := match o with
  | .ret (.dat d) => ∀ H', (∀ a o, H a = some o → a ≠ x → a ≠ dx → H' a = some o) → RepD K ct H' (.ref x) d → Q .non H'
  | .exc y => ∀ cl d H', (∀ a o, H a = some o → a ≠ x → a ≠ dx → H' a = some o) → RepX K ct H' y cl d → E cl d H'
  | _ => False
def spI (c n : Nat) (F : List D → Res) : Sp := fun vs H Q E => vs.length = n + 1 ∧ ∃ x dx us ds, vs = .ref x :: us ∧ H x = some (.ins (ct c) dx []) ∧ H dx = some (.own x) ∧ dx ≠ x ∧ RepDs K ct H us ds ∧ GoodI K ct x dx H (F ds) Q E
end
def startI (n c : Nat) (ds : List D) : S := ⟨(SV.hand :: ds.map SV.dat).map some ++ List.replicate (n - (ds.length + 1)) none, [], some (.me c [])⟩
def resI : Out Fl → Res
  | .ok .nx s => match s.hd with
    | some (.me c fs) => if fs.isEmpty = true then .bad else .ret (.dat (.obj c fs))
    | _ => .bad
  | .exc x _ => .exc x
  | _ => .bad
def runI (n c : Nat) (m : M Fl) (ds : List D) : Res := resI (m (startI n c ds))
/-- the end of an __init__ is seen otherwise -/
def tsCvE (X : Cx) (t : TS) : TS := fun N σ H => ∃ H0, Cv X H H0 ∧ t { N with nx := fun σ1 H1 => ∃ H2, Cv X H1 H2 ∧ N.nx σ1 H2 } σ H0
theorem pss_cvE {X : Cx} {sts : List Stmt} {t : TS} (h : PSs X sts t) : PSs X sts (tsCvE X t) := ⟨fun pins s σ H D I ⟨H0, c0, hw⟩ =>
  thn (h.run pins s σ H0 _ (c0 pins σ s I) hw) fun f s1 q => by
    cases f with
    | next =>
      obtain ⟨σ', H', I', H2, c, q⟩ := q
      exact ⟨σ', H2, c pins σ' s1 I', q⟩
    | brk => exact q
    | cont => exact q
    | ret u => exact q⟩
section
variable {P : Program} {w : World} {K : PySem.W.Frag} {mg : Str → Option Value} {base : Heap} {x qual : Str} {params : Arguments} {body : List Stmt} {scope : Scope} {dvs : List V} {kws : List (Str × V)} {f : Addr} {fd : FuncData} {N ps : List Str} {k n c : Nat} {ct : Nat → Addr} {m : M Fl}
theorem fnI (F : FunD K x qual params body scope dvs kws f fd) (S : FnScope N ps scope) (hn : ps.length = n + 1)
    (hb : ∀ (cdv : Value) (A : Around) (outer : List Env) (s : Shared) (H : Hp) (E : XK), Room k (A.deeper (envOfC qual scope s.heap.objs.size f cdv)) →
      SDs (cxOf (L2.CX P w) P w K mg base N qual scope f cdv A outer s H E) ct (fun cls d _ H => E cls d H) body m) : FnOk P w K mg base (L2.CX P w) (k + 1) f fd ps (spI K ct c n (runI N.length c m)) := by
  refine F.ok S (fun vs H Q E h => h.1.trans hn.symm) fun cdv A outer s H vs Q E hr h => ?_
  obtain ⟨hl, xa, dx, us, ds, rfl, ex, ed, ne, rp, g⟩ := h
  obtain ⟨t, p, r⟩ := (hb cdv A outer s H E hr).ex
  refine ⟨_, pss_cvE p, opened H xa (ct c) dx [], cv_open ex, ?_⟩
  let γ0 : G := ⟨fun _ => 0, xa, dx⟩
  have away : ∀ y, y ≠ xa → y ≠ dx → opened H xa (ct c) dx [] y = H y := fun y n1 n2 => by unfold opened; rw [upd_ne n1, upd_ne n2]
  have ki : KeepI H (opened H xa (ct c) dx []) := fun y u e i => by
    rw [away y]
    · exact e
    · rintro rfl; rw [ex] at e; cases e; exact i rfl
    · rintro rfl; rw [ed] at e; cases e; exact i
  have hx0 : opened H xa (ct c) dx [] xa = some (.ext (meA xa (ct c) dx)) := upd_same
  have hd0 : opened H xa (ct c) dx [] dx = some (.ext (meD dx [])) := by unfold opened; rw [upd_ne ne, upd_same]
  have R0 : Rep K ct γ0 (opened H xa (ct c) dx []) (L2.start N (.ref xa :: us)) (startI N.length c ds) := by
    have h1 : Paired (RepS K ct γ0 0 (opened H xa (ct c) dx [])) (.ref xa :: us) (SV.hand :: ds.map SV.dat) := .cons rfl (rep_map (RepDs.mono ki rp))
    have := start_rep (N := N) (K := K) (ct := ct) (γ := γ0) (hd := some (.me c [])) h1 (fun h e => by cases e; exact ⟨[], hx0, hd0, ne, rfl, .nil⟩)
    simpa [startI] using this
  refine r _ _ _ γ0 _ R0 ?_
  have own0 : ∀ a, Own γ0 (startI N.length c ds) a → a = xa ∨ a = dx := fun a z => by
    rcases z with ⟨j, ⟨ys, e⟩, _⟩ | ⟨_, z⟩
    · simp [startI] at e
    · exact z
  have same : ∀ {γ' s' H'}, Step γ0 γ' (startI N.length c ds) s' (opened H xa (ct c) dx []) H' → ∀ a o, H a = some o → a ≠ xa → a ≠ dx → H' a = some o := fun st a o e n1 n2 =>
    st.keep a o (by rw [away a n1 n2]; exact e) fun z => (own0 a z).elim n1 n2
  unfold runI resI at g
  unfold GoodS
  cases e1 : m (startI N.length c ds) with
  | bad => rw [e1] at g; exact False.elim g
  | exc y s1 =>
    rw [e1] at g
    exact fun cl d σ' γ' H' st R' q => g cl d H' (same st) q
  | ok fl s1 =>
    rw [e1] at g
    cases fl with
    | bk => exact False.elim g
    | ct => exact False.elim g
    | rt rr => exact False.elim g
    | nx =>
      intro σ' γ' H' st R'
      dsimp only at g
      cases eh : s1.hd with
      | none => rw [eh] at g; exact False.elim g
      | some hh =>
        cases hh with
        | hand h0 => rw [eh] at g; exact False.elim g
        | me c1 fs =>
          rw [eh] at g
          dsimp only at g
          by_cases z : fs.isEmpty = true
          · rw [if_pos z] at g; exact False.elim g
          · rw [if_neg z] at g
            obtain ⟨vfs, ea, eg, ne', en, rp'⟩ := R'.hd _ eh
            have h1 : γ'.ah = xa := st.ah
            refine ⟨closed H' γ'.ah (ct c1) γ'.g vfs, cv_close ea eg ne', ?_⟩
            have ki' : KeepI H' (closed H' γ'.ah (ct c1) γ'.g vfs) := fun y u e i => by
              unfold closed
              rw [upd_ne, upd_ne]
              · exact e
              · rintro rfl; rw [eg] at e; cases e; exact i
              · rintro rfl; rw [ea] at e; cases e; exact i
            have nz : vfs ≠ [] := fun q => by
              rw [q] at en
              have : fs = [] := by simpa using en.symm
              rw [this] at z; exact z rfl
            -- the dict is the one that was laid
            have hg : γ'.g = dx ∨ H γ'.g = none := by
              rcases st.own γ'.g (.inr ⟨by rw [eh]; exact (fun z => by cases z), .inr rfl⟩) with q | q
              · rcases own0 _ q with q | q
                · exact absurd (q.trans h1.symm) ne'
                · exact .inl q
              · right
                cases e2 : H γ'.g with
                | none => rfl
                | some o =>
                  exfalso
                  have n1 : γ'.g ≠ xa := fun q => ne' (q.trans h1.symm)
                  by_cases n2 : γ'.g = dx
                  · rw [n2, hd0] at q; cases q
                  · rw [away _ n1 n2, e2] at q; cases q
            refine g _ (fun a o e n1 n2 => ?_) (h1 ▸ RepD.obj upd_same nz en (RepDs.mono ki' rp'))
            have e3 := same st a o e n1 n2
            unfold closed
            rw [upd_ne (by rw [h1]; exact n1), upd_ne]
            · exact e3
            · intro q
              rcases hg with hg | hg
              · exact n2 (q.trans hg)
              · rw [← q, e] at hg; cases hg
end
/-! the call -/
def tMakeS (C : Addr) (sp : Sp) (dvs : List V) (E : L2.St → XK) (t : TA) : TE := fun σ H Q => t σ H fun vs H1 => ∀ x dx, H1 x = none → H1 dx = none → dx ≠ x →
  sp (.ref x :: (vs ++ dvs)) (upd (upd H1 dx (.own x)) x (.ins C dx [])) (fun v H2 => v = .non ∧ Q (.ref x) H2) (E σ)
section
variable {X : Cx} {CX : CXT} {k : Nat} {f C : Addr} {fd : FuncData} {ps : List Str} {sp : Sp} {dvs : List V} {ds : List Value} {x m : Str} {p pos apos : Pos} {e o : Expr} {es : List Expr} {ta : TE} {t : TA}
theorem run_makeS {E : XK} {pins : List (Addr × Obj)} {σ : L2.St} {H : Hp} {s : Shared} {Q : VK} {us : List Value} {vs : List V} (M : Mk X.K C f) (F : FnOk X.prog X.w X.K X.mg X.base CX k f fd ps sp) (hr : Room (k + 1) X.A) (hb : Binds X.K fd ps ds) (hd : Vals dvs ds)
    (hx : PassesAt CX X σ E) (I : Inv X pins σ H s) (r : Vals vs us)
    (h : ∀ x dx, H x = none → H dx = none → dx ≠ x → sp (.ref x :: (vs ++ dvs)) (upd (upd H dx (.own x)) x (.ins C dx [])) (fun v H2 => v = .non ∧ Q (.ref x) H2) E) :
    wpAny (model X.prog X.w) X.A (call (.ref C) us) (EP X pins σ Q) X.xe s := by
  have hq := h (s.heap.objs.size + 1) s.heap.objs.size (I.hok.fresh (Nat.le_succ _)) (I.hok.fresh (Nat.le_refl _)) (Nat.ne_of_lt (Nat.lt_succ_self _))
  have I2 := Inv.made (C := C) I
  have r2 : Vals (V.ref (s.heap.objs.size + 1) :: (vs ++ dvs)) (Value.ref (s.heap.objs.size + 1) :: (us ++ ds)) := .cons rfl (r.append hd)
  have hl : (Value.ref (s.heap.objs.size + 1) :: us ++ ds).length = ps.length := by
    have e := r2.length
    rw [F.len _ _ _ _ hq] at e
    exact e.symm
  refine wpAny_call (make_map (f := f) I.kIn M.makes M.init (beq_iff_eq.mp M.fn) (codeAny_mono (F.run _ X.stack _ _ ⟨Value.ref (s.heap.objs.size + 1) :: us, []⟩ (Value.ref (s.heap.objs.size + 1) :: (us ++ ds)) _ _ E (hr.make C us [])
    (I2.env0.make C us []) (hb _ (Value.ref (s.heap.objs.size + 1) :: us) I2.kIn hl) r2 hq) fun rr s' hq' => ?_))
  cases rr with
  | error e => exact hx pins _ _ e s' I2 hq'
  | ok fl =>
    cases fl with
    | ret u =>
      obtain ⟨v, H', I3, rv, ev, q3⟩ := I2.after hq'
      subst ev
      exact ⟨rv, ⟨V.ref (s.heap.objs.size + 1), H', I3, rfl, q3⟩⟩
    | next => exact False.elim hq'
    | brk => exact False.elim hq'
    | cont => exact False.elim hq'
theorem pe_makeS {E : L2.St → XK} (M : Mk X.K C f) (F : FnOk X.prog X.w X.K X.mg X.base CX k f fd ps sp) (hr : Room (k + 1) X.A) (hg : Gl X x) (hm : X.mg x = some (.ref C)) (hb : Binds X.K fd ps ds) (hd : Vals dvs ds) (hx : ∀ σ, PassesAt CX X σ (E σ))
    (ha : PA X (e :: es) t) (hdb : (x == ("__debug__" : Str)) = false := by decide) (he : starEach (e :: es) X.env = (false, eval e X.env) :: starEach es X.env := by rfl) (hpl : (backTo pos (starEach es X.env)).any (·.1) = false := by rfl) :
    PE X (.Call (.Name x p) (e :: es) [] pos) (tMakeS C sp dvs E t) := by
  refine ⟨fun pins s σ H Q I h => ?_⟩
  refine wpAny_Call_Name_kw (ld_glob I hg hm ?_ hdb)
  refine PySem.W.callWith_K (h₀ := X.base) I.ok.mod.kin M.kp (thn (ha.run pos pins s σ H _ I h) fun us s1 ⟨vs, H1, I1, r, q⟩ => ⟨I1.kIn, ?_⟩) he hpl
  exact run_makeS M F hr hb hd (hx σ) I1 r q
end
structure OkI (P : Program) (w : World) (K : PySem.W.Frag) (mg : Str → Option Value) (base : Heap) (ct : Nat → Addr) (x : Str) (c n k : Nat) (F : List D → Res) (dd : List D) : Prop where
  ex : ∃ (f : Addr) (fd : FuncData) (ps : List Str) (ds : List Value) (dvs : List V), Mk K (ct c) f ∧ mg x = some (.ref (ct c)) ∧ FnOk P w K mg base (L2.CX P w) k f fd ps (spI K ct c n F) ∧ Binds K fd ps ds ∧ Vals dvs ds ∧ ∀ H, RepDs K ct H dvs dd
section
variable {X : Cx} {ct : Nat → Addr} {W : WX} {pos p : Pos} {x : Str} {e : Expr} {es : List Expr} {mA : M (List SV)} {k n c0 : Nat} {F : List D → Res} {dd : List D}
def datRes (F : List D → Res) (ds : List D) : Res := match F ds with
  | .ret (.new _) => .bad
  | r => r
theorem made_same {H : Hp} {C xa dx : Addr} (h1 : H xa = none) (h2 : H dx = none) : KeepI H (upd (upd H dx (.own xa)) xa (.ins C dx [])) := fun y u e _ => by
  rw [upd_ne (ne_of_none e h1), upd_ne (ne_of_none e h2)]; exact e
theorem ed_makeP (O : OkI X.prog X.w X.K X.mg X.base ct x c0 n k F dd) (hr : Room (k + 1) X.A) (tk : Takes X W) (ha : AD X ct W (e :: es) mA) (hg : Gl X x := by rfl) (hdb : (x == ("__debug__" : Str)) = false := by decide) (he : starEach (e :: es) X.env = (false, eval e X.env) :: starEach es X.env := by rfl) (hpl : (backTo pos (starEach es X.env)).any (·.1) = false := by rfl) :
    ED X ct W (.Call (.Name x p) (e :: es) [] pos) (bnd mA (callM n (datRes F) dd)) := by
  obtain ⟨f, fd, ps, ds, dvs, M, hm, FK, hb, hd, hdd⟩ := O.ex
  obtain ⟨t, pt, r⟩ := ha.ex
  refine ⟨_, pe_makeS M FK hr hg hm hb hd (fun σ => passAt tk σ) pt hdb he hpl, fun σ H γ s Q R h => ?_⟩
  refine r σ H γ s _ R (use_a h (fun _ _ z => z) fun xs s1 vs γ1 H1 t1 R1 q1 g => ?_)
  unfold callM at g
  cases e1 : datL xs with
  | none => simp only [e1] at g; exact False.elim g
  | some es =>
    simp only [e1] at g
    have w := (datL_rep e1 q1).append (hdd H1)
    by_cases c : (es ++ dd).length = n
    · rw [if_pos c] at g
      intro xa dx h1 h2 ne
      refine ⟨by rw [List.length_cons, w.length, c], xa, dx, _, _, rfl, upd_same, by rw [upd_ne ne, upd_same], ne, RepDs.mono (made_same h1 h2) w, ?_⟩
      have g1 := good_res R1 (Good.step t1 g)
      have same : ∀ {H' : Hp}, (∀ a o, upd (upd H1 dx (.own xa)) xa (.ins (ct c0) dx []) a = some o → a ≠ xa → a ≠ dx → H' a = some o) → Same H1 H' := fun k a o e => k a o (by rw [upd_ne (ne_of_none e h1), upd_ne (ne_of_none e h2)]; exact e) (ne_of_none e h1) (ne_of_none e h2)
      unfold datRes at g1
      cases e2 : F (es ++ dd) with
      | bad => rw [e2] at g1; exact g1
      | exc y => rw [e2] at g1; exact fun cl d H' k q => g1 cl d H' (same k) q
      | ret rr =>
        rw [e2] at g1
        cases rr with
        | dat d => exact fun H' k q => ⟨rfl, g1 _ H' (same k) q⟩
        | new ds => exact False.elim g1
    · rw [if_neg c] at g; exact False.elim g
end
end Fd
set_option Elab.async false
set_option linter.all false
set_option maxRecDepth 100000
set_option maxHeartbeats 4000000
namespace PySem.W
open PySem PySem.Calls PyProof.Rows Builtin
theorem looks_ty {M : Model} {s : Shared} {u : Value} {T : String} (h : s.TypeIs u T) : Looks M s.heap (typeOf u) (.type T) := by
  cases u with
  | ref a =>
    obtain ⟨o, e, c⟩ := h
    exact c ▸ (Looks.ld e).andThen .now
  | _ => exact Looks.of_pure h
section
variable {prog : Program} {w : World} {A : Around} {E : Value → Shared → Prop} {s : Shared} {K : Frag} {x C L f : Addr} {h₀ : Heap} {m : Str → Option Value} {ox : Obj} {od : Option Obj} {b tb : Value}
theorem ne_body {Q : Fin → Shared → Prop} (X : K.In s.heap) (I : InstAt s.heap x ox C od) (hs : findIn K (.ref C) "__eq__" = some (some (.ref f))) (hf : isFn K (.ref f) = true) (hu : A.units < cLine)
    (h : wpAny (model prog w) A (call (.ref f) [.ref x, b]) (fun v s' => ∃ r, v = .bool r ∧ Q (.done (.ret (.bool (!r)))) s') E s) :
    wpAny (model prog w) A (Builtin.«object.__ne__» ⟨[.ref x, b], []⟩) Q E s := by
  obtain ⟨hp, g, d, t, os⟩ := s
  unfold Builtin.«object.__ne__»
  repeat (first
    | with_reducible refine wpAny_cRoomFor hu ?_
    | (refine wpAny_bind (m := callSpecialIfBound? (.ref x) (Str.ofString "__eq__") [b])
        (ifBound_K X I hs hf (wpAny_mono h (fun r s' hr => by
          obtain ⟨b, rfl, hq⟩ := hr
          repeat (first | exact hq | exact wpAny_pure hq | exact wpAny_truthy_bool hq | (refine wpAny_bind (m := truthy (.bool _)) (wpAny_truthy_bool ?_)) | wp_step)) fun _ _ e => e)))
    | wp_step)
theorem ne_K {Q : Value → Shared → Prop} (hu : A.units + 1 < cLine) (F : Fr h₀ L s.heap m) (X₀ : K.In h₀) (I : InstAt s.heap x ox C od) (hb : Looks (model prog w) s.heap (typeOf b) tb) (hn : notFirst K C tb = true)
    (hne : findIn K (.ref C) "__ne__" = some (some (.builtin "object.__ne__"))) (hm : mroIn K C (.type "object") = some true) (hs : findIn K (.ref C) "__eq__" = some (some (.ref f))) (hf : isFn K (.ref f) = true)
    (h : wpAny (model prog w) A.in1 (call (.ref f) [.ref x, b]) (fun v s' => ∃ r, v = .bool r ∧ Q (.bool (!r)) s') E s) : wpAny (model prog w) A (richCompare .NotEq (.ref x) b) Q E s := by
  have X := X₀.keeps F.keep
  have inst : Looks (model prog w) s.heap (isInstance (.ref x) (.type "object")) true := I.type.andThen (looks_mroIn X hm)
  have run : wpAny (model prog w) A (call (.builtin "object.__ne__") ([.ref x] ++ [b])) (fun v s' => v ≠ .notImplemented ∧ Q v s') E s := by
    refine wpAny_call (codeAny_call_builtin PySem.F.slot_tuple_iterator_ne.plain PySem.F.cmpEntry_ne (@check_slot (model prog w) _ _ _ "object.__ne__" "object" "__ne__" (.ref x) [b] [] _ (by decide +kernel) (by decide +kernel) inst (PySem.F.cmpArgs_ne _ _) ?_))
    refine ne_body X I hs hf hu (wpAny_mono h (fun v s' hv => ?_) fun _ _ e => e)
    obtain ⟨r, rfl, hq⟩ := hv
    exact ⟨r, rfl, (fun z => nomatch z), hq⟩
  have one : wpAny (model prog w) A (tryCompare (.ref x) "__ne__" b) (fun r s' => ∃ v, r = some v ∧ Q v s') E s := by
    have cs : wpAny (model prog w) A (callSpecialIfBound? (.ref x) "__ne__" [b]) (fun r s' => ∃ v, r = some v ∧ v ≠ .notImplemented ∧ Q v s') E s := by
      have fin : wpAny (model prog w) A (call (.builtin "object.__ne__") ([.ref x] ++ [b]) >>= fun v => pure (some v)) (fun r s' => ∃ v, r = some v ∧ v ≠ .notImplemented ∧ Q v s') E s :=
        wpAny_bind (wpAny_mono run (fun v s' hv => wpAny_pure ⟨v, rfl, hv⟩) fun _ _ e => e)
      simp only [callSpecialIfBound?, bindSpecialIfBound?]
      refine wpAny_holding (wpAny_bind (wpAny_bind (wpAny_bind (I.type.here ((looks_findIn X hne).here ?_)))))
      refine wpAny_bind (wpAny_askSetting (wpAny_ite ?_))
      simp only [PySem.F.slot_tuple_iterator_ne.bind]
      split
      · exact wpAny_bind (wpAny_pure (wpAny_pure (by exact fin)))
      · exact wpAny_tryCatch (wpAny_bind (wpAny_pure (wpAny_pure (by exact fin))))
    unfold tryCompare
    refine wpAny_bind (wpAny_mono cs (fun r s' z => ?_) fun _ _ e => e)
    obtain ⟨v, rfl, n, q⟩ := z
    cases v <;> first | exact absurd rfl n | exact wpAny_pure ⟨_, rfl, q⟩
  unfold richCompare
  simp only [oneThing_ref]
  refine wpAny_holding (wpAny_bind (wpAny_cRoomFor (Nat.lt_of_succ_lt hu) ?_))
  refine wpAny_bind (I.type.here (wpAny_bind (hb.here ?_)))
  split
  · rename_i q
    have e : subIn K tb (.ref C) = some false := by
      rcases Bool.or_eq_true_iff.mp hn with e | e
      · rw [beq_iff_eq.mp e] at q; simp at q
      · exact beq_iff_eq.mp e
    refine wpAny_bind ((looks_subIn X e).here ?_)
    simp only [Bool.false_eq_true, if_false]
    refine wpAny_bind (wpAny_mono one (fun r s' z => ?_) fun _ _ e => e)
    obtain ⟨v, rfl, hq⟩ := z
    exact wpAny_pure hq
  · refine wpAny_bind (wpAny_pure ?_)
    simp only [Bool.false_eq_true, if_false]
    refine wpAny_bind (wpAny_mono one (fun r s' z => ?_) fun _ _ e => e)
    obtain ⟨v, rfl, hq⟩ := z
    exact wpAny_pure hq
end
end PySem.W

namespace Fd
open PySem PySem.Spec PyProof.Rows L2
/-! ## what is asked of the own classes (their numbers lie in lo .. hi - 1) -/
structure ClsT (K : PySem.W.Frag) (ct : Nat → Addr) (c : Nat) : Prop where
  cls : Cls K (ct c)
  ca : PySem.W.findIn K (.ref (ct c)) "__class__" = some (some (.builtin "object.__class__"))
  cn : PySem.W.specialIn K (.builtin "object.__class__") "__get__" = some (some (.builtin "getset_descriptor.__get__"))
  tk : PySem.W.takesIn K (.builtin "object.__class__") = some true
  cm : PySem.W.mroIn K (ct c) (.type "object") = some true
structure AllC (K : PySem.W.Frag) (ct : Nat → Addr) (lo hi : Nat) : Prop where
  cl : ∀ c, lo ≤ c → c < hi → ClsT K ct c
  kb : ∀ c, lo ≤ c → c < hi → ∀ t : Ty, t ≠ .none → PySem.W.kitOne K (.ref (ct c)) (.type t.nm) = some false
  kc : ∀ c, lo ≤ c → c < hi → ∀ t : Ty, PySem.W.kitOne K (.type t.nm) (.ref (ct c)) = some false
  kd : ∀ c d, lo ≤ c → c < hi → lo ≤ d → d < hi → PySem.W.kitOne K (.ref (ct c)) (.ref (ct d)) = some (c == d)
  nb : ∀ c, lo ≤ c → c < hi → ∀ t : Ty, PySem.W.notFirst K (ct c) (.type t.nm) = true
  nd : ∀ c d, lo ≤ c → c < hi → lo ≤ d → d < hi → PySem.W.notFirst K (ct c) (.ref (ct d)) = true
theorem ClsT.ty {K : PySem.W.Frag} {ct : Nat → Addr} {c : Nat} (T : ClsT K ct c) {H : Hp} {v : V} {ds : List (Str × D)} (r : RepD K ct H v (.obj c ds)) : TyX K H v (.ref (ct c)) := by
  cases r with
  | obj ea nf en rp => exact .base (.ins ea T.cls T.ca T.cn T.tk T.cm)
/-! ## isinstance -/
def isiG (kt : Ty → Option Bool) (kc : Nat → Option Bool) : RV → M RV
  | .sv (.dat (.obj c _)) => fun s => match kc c with
    | some b => .ok (RB b) s
    | none => .bad
  | r => fun s => match tyR s r with
    | some t => match kt t with
      | some b => .ok (RB b) s
      | none => .bad
    | none => .bad
section
variable {X : Cx} {ct : Nat → Addr} {W : WX} {pos p p2 : Pos} {e o : Expr} {m : M RV} {lo hi : Nat}
theorem isiG_of {K : PySem.W.Frag} {kt : Ty → Option Bool} {kc : Nat → Option Bool} {L : Value → Bool → Prop} (hk : ∀ t b, kt t = some b → L (.type t.nm) b) (hc : ∀ c b, kc c = some b → ClsT K ct c ∧ L (.ref (ct c)) b)
    {γ : G} {s : S} {H0 H : Hp} {σ : L2.St} (R : Rep K ct γ H σ s) {r : RV} {v : V} (q : RepR K ct γ s H0 H v r) {Q : VK} (g : Good K ct W σ γ s H (isiG kt kc r s) Q) : ∃ t b, TyX K H v t ∧ L t b ∧ Q (.bl b) H := by
  unfold isiG at g
  split at g
  · rename_i c ds
    cases e1 : kc c with
    | none => simp only [e1] at g; exact False.elim g
    | some b =>
      simp only [e1] at g
      obtain ⟨T, l⟩ := hc c b e1
      exact ⟨_, b, T.ty q, l, g _ γ H Step.refl R (repB _)⟩
  · dsimp only at g
    cases e1 : tyR s r with
    | none => simp only [e1] at g; exact False.elim g
    | some t =>
      simp only [e1] at g
      cases e2 : kt t with
      | none => simp only [e2] at g; exact False.elim g
      | some b =>
        simp only [e2] at g
        exact ⟨_, b, tyR_rep R e1 q, hk t b e2, g _ γ H Step.refl R (repB _)⟩
/-- isinstance(x, C), C a class as a value -/
theorem ed_isiG {x : Str} {cv : V} {u : Value} {kt : Ty → Option Bool} {kc : Nat → Option Bool} (k : ClsV cv u) (hk : ∀ t b, kt t = some b → PySem.W.kitOne X.K (.type t.nm) u = some b) (hc : ∀ c b, kc c = some b → ClsT X.K ct c ∧ PySem.W.kitOne X.K (.ref (ct c)) u = some b)
    (hg : Gl X "isinstance") (hm : X.mg "isinstance" = none) (h : ED X ct W e m) (hx : PE X (.Name x p2) (tC cv))
    (he : starEach [e, .Name x p2] X.env = (false, eval e X.env) :: starEach [.Name x p2] X.env := by rfl) (hpl : (backTo pos (starEach [.Name x p2] X.env)).any (·.1) = false := by rfl)
    (he2 : starEach [.Name x p2] X.env = (false, eval (.Name x p2) X.env) :: starEach [] X.env := by rfl) : ED X ct W (.Call (.Name "isinstance" p) [e, .Name x p2] [] pos) (bnd m (isiG kt kc)) := by
  obtain ⟨te, pe, r⟩ := h.ex
  refine ⟨_, pe_callB call_isi hg hm boot_isinstance (pa_cons pe (pa_cons hx pa_nil he2) he) (he := he) (hpl := hpl), fun σ H γ s Q R h => ?_⟩
  refine r σ H γ s _ R (use_e h (fun _ _ z => z) fun x s1 v γ1 H1 t1 R1 q1 g => ?_)
  obtain ⟨t, b, ty, l, q⟩ := isiG_of (L := fun t b => PySem.W.kitOne X.K t u = some b) hk hc R1 q1 (Good.step t1 g)
  exact ⟨v, cv, t, u, b, rfl, k, ty, l, q⟩
end
def inR (lo hi c : Nat) : Bool := decide (lo ≤ c) && decide (c < hi)
theorem inR_of {lo hi c : Nat} (h : inR lo hi c = true) : lo ≤ c ∧ c < hi := by
  unfold inR at h
  simpa using h
/-- a class of the text -/
def ktOwn (_ : Ty) : Option Bool := some false
def kcOwn (lo hi d c : Nat) : Option Bool := if inR lo hi c = true then some (c == d) else none
/-- a built-in type -/
def ktB (u t : Ty) : Option Bool := some (subTy t u)
def kcB (lo hi c : Nat) : Option Bool := if inR lo hi c = true then some false else none
theorem hkOwn {K : PySem.W.Frag} {ct : Nat → Addr} {lo hi d : Nat} (A : AllC K ct lo hi) (hd : inR lo hi d = true) : ∀ t b, ktOwn t = some b → PySem.W.kitOne K (.type t.nm) (.ref (ct d)) = some b := fun t b e => by
  cases e
  exact A.kc d (inR_of hd).1 (inR_of hd).2 t
theorem hcOwn {K : PySem.W.Frag} {ct : Nat → Addr} {lo hi d : Nat} (A : AllC K ct lo hi) (hd : inR lo hi d = true) : ∀ c b, kcOwn lo hi d c = some b → ClsT K ct c ∧ PySem.W.kitOne K (.ref (ct c)) (.ref (ct d)) = some b := fun c b e => by
  unfold kcOwn at e
  split at e
  · rename_i h
    cases e
    exact ⟨A.cl c (inR_of h).1 (inR_of h).2, A.kd c d (inR_of h).1 (inR_of h).2 (inR_of hd).1 (inR_of hd).2⟩
  · cases e
theorem hkB {K : PySem.W.Frag} {u : Ty} (hu : u ≠ .none) : ∀ t b, ktB u t = some b → PySem.W.kitOne K (.type t.nm) (.type u.nm) = some b := fun t b e => by
  cases e
  exact kit_ty (kit_sub t u hu)
theorem hcB {K : PySem.W.Frag} {ct : Nat → Addr} {lo hi : Nat} {u : Ty} (A : AllC K ct lo hi) (hu : u ≠ .none) : ∀ c b, kcB lo hi c = some b → ClsT K ct c ∧ PySem.W.kitOne K (.ref (ct c)) (.type u.nm) = some b := fun c b e => by
  unfold kcB at e
  split at e
  · rename_i h
    cases e
    exact ⟨A.cl c (inR_of h).1 (inR_of h).2, A.kb c (inR_of h).1 (inR_of h).2 u hu⟩
  · cases e
end Fd
set_option Elab.async false
set_option linter.all false
set_option maxRecDepth 100000
set_option maxHeartbeats 4000000
namespace Fd
open PySem PySem.Spec PyProof.Rows L2
section
variable {X : Cx} {ct : Nat → Addr} {W : WX} {pos p p2 apos : Pos} {e o a b : Expr} {es : List Expr} {m mo ma mb : M RV} {mA : M (List SV)} {lo hi c0 n k : Nat} {F : List D → Res} {dd : List D} {mn : Str}
/-! ## x.m(..) -/
structure OkM (P : Program) (w : World) (K : PySem.W.Frag) (mg : Str → Option Value) (base : Heap) (ct : Nat → Addr) (c0 : Nat) (mn : Str) (n k : Nat) (F : List D → Res) (dd : List D) : Prop where
  ex : ∃ (f : Addr) (fd : FuncData) (ps : List Str) (ds : List Value) (dvs : List V), ps.length = n ∧ Meth K (ct c0) mn f ∧ FnOk P w K mg base (L2.CX P w) k f fd ps (spP K ct n F) ∧ Binds K fd ps ds ∧ Vals dvs ds ∧ ∀ H, RepDs K ct H dvs dd
def tMethS (C : Addr) (m : Str) (sp : Sp) (dvs : List V) (E : L2.St → XK) (ta : TE) (t : TA) : TE := fun σ H Q => ta σ H fun x H1 => ∃ a dx fs, x = .ref a ∧ H1 a = some (.ins C dx fs) ∧ fs.lookup m = none ∧
  t σ H1 fun vs H2 => sp (x :: (vs ++ dvs)) H2 Q (E σ)
theorem pe_methS {CX : CXT} {f C : Addr} {fd : FuncData} {ps : List Str} {sp : Sp} {dvs : List V} {ds : List Value} {E : L2.St → XK} {ta : TE} {t : TA} {pl : Sem Bool} (he : PE X o ta) (c : Cls X.K C) (hm : Meth X.K C mn f) (F : FnOk X.prog X.w X.K X.mg X.base CX k f fd ps sp) (hr : Room k X.A) (hb : Binds X.K fd ps ds) (hd : Vals dvs ds) (hx : ∀ σ, PassesAt CX X σ (E σ)) (ha : PA X (e :: es) t)
    (hst : starEach (e :: es) X.env = (false, eval e X.env) :: starEach es X.env := by rfl) (hpl : (backTo pos (starEach es X.env)).any (·.1) = false := by rfl)
    (ht : eval (.Call (.Attribute o mn apos) (e :: es) [] pos) X.env = (do
      let ov ← eval o X.env
      standAt apos.atName
      let (f, first) ← holding [ov] (getMethod ov mn pl)
      callWith pos f first (backTo pos (starEach (e :: es) X.env)) (backToKw pos (keywordEach [] X.env))) := by rfl) :
    PE X (.Call (.Attribute o mn apos) (e :: es) [] pos) (tMethS C mn sp dvs E ta t) := by
  refine ⟨fun pins s σ H Q I h => ?_⟩
  refine PySem.W.methodCall_KW (pl := pl) (thn (he.run pins s σ H _ I h) fun u s1 ⟨x, H1, I1, rx, a, dx, fs, ex, ea, l, q⟩ => ?_) ht
  subst ex
  obtain rfl : u = Value.ref a := rx
  refine getmeth_ok I1 ea c hm l ?_
  refine PySem.W.callWith_K (first := [.ref a]) (h₀ := X.base) I.ok.mod.kin hm.kp (thn (ha.run pos pins s1 σ H1 _ I1 q) fun us s2 ⟨vs, H2, I2, r, q2⟩ => ⟨I2.kIn, ?_⟩) hst hpl
  exact run_fnSD (us := .ref a :: us) (vs := .ref a :: vs) F hr hb hd (hx σ) I2 (.cons rfl r) q2
theorem pe_methS0 {CX : CXT} {f C : Addr} {fd : FuncData} {ps : List Str} {sp : Sp} {dvs : List V} {ds : List Value} {E : L2.St → XK} {ta : TE} {pl : Sem Bool} (he : PE X o ta) (c : Cls X.K C) (hm : Meth X.K C mn f) (F : FnOk X.prog X.w X.K X.mg X.base CX k f fd ps sp) (hr : Room k X.A) (hb : Binds X.K fd ps ds) (hd : Vals dvs ds) (hx : ∀ σ, PassesAt CX X σ (E σ))
    (ht : eval (.Call (.Attribute o mn apos) [] [] pos) X.env = (do
      let ov ← eval o X.env
      standAt apos.atName
      let (f, first) ← holding [ov] (getMethod ov mn pl)
      callWith pos f first (backTo pos (starEach [] X.env)) (backToKw pos (keywordEach [] X.env))) := by rfl) :
    PE X (.Call (.Attribute o mn apos) [] [] pos) (tMethS C mn sp dvs E ta tNil) := by
  refine ⟨fun pins s σ H Q I h => ?_⟩
  refine PySem.W.methodCall_KW (pl := pl) (thn (he.run pins s σ H _ I h) fun u s1 ⟨x, H1, I1, rx, a, dx, fs, ex, ea, l, q⟩ => ?_) ht
  subst ex
  obtain rfl : u = Value.ref a := rx
  refine getmeth_ok I1 ea c hm l ?_
  exact PySem.W.callWith_K0 (first := [.ref a]) I1.kIn hm.kp (run_fnSD (us := [.ref a]) (vs := [.ref a]) F hr hb hd (hx σ) I1 (.cons rfl .nil) q)
theorem lookup_none {f : Str} : ∀ {fs : List (Str × V)} {ds : List (Str × D)}, fs.map (·.1) = ds.map (·.1) → ds.lookup f = none → fs.lookup f = none
  | [], _, _, _ => rfl
  | (g, x) :: fs, [], e, _ => by cases e
  | (g, x) :: fs, (g', y) :: ds, e, h => by
    have e' : g :: fs.map (·.1) = g' :: ds.map (·.1) := e
    obtain ⟨e1, e2⟩ := List.cons.inj e'
    subst e1
    unfold List.lookup at h ⊢
    cases q : f == g with
    | true => rw [q] at h; cases h
    | false => rw [q] at h; exact lookup_none e2 h
def methM (c0 : Nat) (mn : Str) (n : Nat) (F : List D → Res) (dd : List D) (mo : M RV) (mA : M (List SV)) : M RV := bnd mo fun x => match x with
  | .sv (.dat (.obj c ds)) => if c = c0 ∧ (ds.lookup mn).isNone = true then bnd mA (fun xs => callM n F dd (.dat (.obj c ds) :: xs)) else stuck
  | _ => stuck
theorem meth_sem {K : PySem.W.Frag} {dvs : List V} (hdd : ∀ H, RepDs K ct H dvs dd) {γ1 : G} {s1 : S} {H1 : Hp} {σ : L2.St} {Q : VK} {vs : List V} {xs : List SV} {v : V} {d : D} (R1 : Rep K ct γ1 H1 σ s1) (qv : RepD K ct H1 v d) (q1 : Paired (RepS K ct γ1 s1.mem.length H1) vs xs)
    (g : Good K ct W σ γ1 s1 H1 (callM n F dd (.dat d :: xs) s1) Q) : spP K ct n F (v :: (vs ++ dvs)) H1 Q (WE W σ) := by
  unfold callM datL at g
  cases e1 : datL xs with
  | none => simp only [e1] at g; exact False.elim g
  | some es =>
    simp only [e1] at g
    have w : RepDs K ct H1 (v :: (vs ++ dvs)) (d :: es ++ dd) := .cons qv ((datL_rep e1 q1).append (hdd H1))
    by_cases c : (d :: es ++ dd).length = n
    · rw [if_pos c] at g
      exact ⟨by rw [w.length]; exact c, _, w, good_res R1 g⟩
    · rw [if_neg c] at g; exact False.elim g
theorem ed_methP {pl : Sem Bool} (T : ClsT X.K ct c0) (O : OkM X.prog X.w X.K X.mg X.base ct c0 mn n k F dd) (hr : Room k X.A) (tk : Takes X W) (ho : ED X ct W o mo) (ha : AD X ct W (e :: es) mA)
    (hst : starEach (e :: es) X.env = (false, eval e X.env) :: starEach es X.env := by rfl) (hpl : (backTo pos (starEach es X.env)).any (·.1) = false := by rfl)
    (ht : eval (.Call (.Attribute o mn apos) (e :: es) [] pos) X.env = (do
      let ov ← eval o X.env
      standAt apos.atName
      let (f, first) ← holding [ov] (getMethod ov mn pl)
      callWith pos f first (backTo pos (starEach (e :: es) X.env)) (backToKw pos (keywordEach [] X.env))) := by rfl) :
    ED X ct W (.Call (.Attribute o mn apos) (e :: es) [] pos) (methM c0 mn n F dd mo mA) := by
  obtain ⟨f, fd, ps, ds, dvs, hn, hm, FK, hb, hd, hdd⟩ := O.ex
  obtain ⟨to, po, ro⟩ := ho.ex
  obtain ⟨t, pt, r⟩ := ha.ex
  refine ⟨_, pe_methS po T.cls hm FK hr hb hd (fun σ => passAt tk σ) pt hst hpl ht, fun σ H γ s Q R h => ?_⟩
  refine ro σ H γ s _ R (use_e h (fun _ _ z => z) fun x s1 v γ1 H1 t1 R1 q1 g => ?_)
  split at g
  · rename_i c ds
    by_cases cc : c = c0 ∧ (ds.lookup mn).isNone = true
    · rw [if_pos cc] at g
      obtain ⟨rfl, hl⟩ := cc
      have q1' : RepD X.K ct H1 v (.obj c ds) := q1
      cases q1' with
      | obj ea nf en rp =>
        refine ⟨_, _, _, rfl, ea, lookup_none en (by simpa using hl), ?_⟩
        refine r σ H1 γ1 s1 _ R1 (use_a (Good.step t1 g) (fun _ _ z => z) fun xs s2 vs γ2 H2 t2 R2 q2 g2 => ?_)
        exact meth_sem hdd R2 (RepD.mono t2.imm (.obj ea nf en rp)) q2 (Good.step t2 g2)
    · rw [if_neg cc] at g; exact False.elim g
  · exact False.elim g
theorem ed_methP0 {pl : Sem Bool} (T : ClsT X.K ct c0) (O : OkM X.prog X.w X.K X.mg X.base ct c0 mn n k F dd) (hr : Room k X.A) (tk : Takes X W) (ho : ED X ct W o mo)
    (ht : eval (.Call (.Attribute o mn apos) [] [] pos) X.env = (do
      let ov ← eval o X.env
      standAt apos.atName
      let (f, first) ← holding [ov] (getMethod ov mn pl)
      callWith pos f first (backTo pos (starEach [] X.env)) (backToKw pos (keywordEach [] X.env))) := by rfl) :
    ED X ct W (.Call (.Attribute o mn apos) [] [] pos) (methM c0 mn n F dd mo (pur [])) := by
  obtain ⟨f, fd, ps, ds, dvs, hn, hm, FK, hb, hd, hdd⟩ := O.ex
  obtain ⟨to, po, ro⟩ := ho.ex
  refine ⟨_, pe_methS0 po T.cls hm FK hr hb hd (fun σ => passAt tk σ) ht, fun σ H γ s Q R h => ?_⟩
  refine ro σ H γ s _ R (use_e h (fun _ _ z => z) fun x s1 v γ1 H1 t1 R1 q1 g => ?_)
  split at g
  · rename_i c ds
    by_cases cc : c = c0 ∧ (ds.lookup mn).isNone = true
    · rw [if_pos cc] at g
      obtain ⟨rfl, hl⟩ := cc
      have q1' : RepD X.K ct H1 v (.obj c ds) := q1
      cases q1' with
      | obj ea nf en rp =>
        refine ⟨_, _, _, rfl, ea, lookup_none en (by simpa using hl), ?_⟩
        exact meth_sem (vs := []) hdd R1 (.obj ea nf en rp) .nil (Good.step t1 g)
    · rw [if_neg cc] at g; exact False.elim g
  · exact False.elim g
/-! ## own == and != -/
structure OkE (P : Program) (w : World) (K : PySem.W.Frag) (mg : Str → Option Value) (base : Heap) (ct : Nat → Addr) (c0 k : Nat) (F : List D → Res) : Prop where
  ex : ∃ (f : Addr) (fd : FuncData) (ps : List Str), PySem.W.findIn K (.ref (ct c0)) "__eq__" = some (some (.ref f)) ∧ PySem.W.isFn K (.ref f) = true ∧ FnOk P w K mg base (L2.CX P w) k f fd ps (spP K ct 2 F) ∧ Binds K fd ps []
  ne : PySem.W.findIn K (.ref (ct c0)) "__ne__" = some (some (.builtin "object.__ne__"))
def okT (lo hi : Nat) : D → Bool
  | .obj c _ => inR lo hi c
  | _ => true
theorem okT_ty {K : PySem.W.Frag} (A : AllC K ct lo hi) (hc : inR lo hi c0 = true) {H : Hp} {v : V} {d : D} (h : okT lo hi d = true) (r : RepD K ct H v d) : ∃ tb, TyX K H v tb ∧ PySem.W.notFirst K (ct c0) tb = true := by
  obtain ⟨h1, h2⟩ := inR_of hc
  cases d with
  | obj c ds => exact ⟨_, (A.cl c (inR_of h).1 (inR_of h).2).ty r, A.nd c0 c h1 h2 (inR_of h).1 (inR_of h).2⟩
  | non => cases r; exact ⟨_, .base .non, A.nb c0 h1 h2 .none⟩
  | bl b => cases r; exact ⟨_, .base (.bl _), A.nb c0 h1 h2 .bool⟩
  | int i => cases r; exact ⟨_, .base (.int _), A.nb c0 h1 h2 .int⟩
  | str z => cases r; exact ⟨_, .base (.str _), A.nb c0 h1 h2 .str⟩
  | tup ds =>
    cases r with
    | tup hq _ =>
      rcases hq with (h1' | ⟨o, h1'⟩) | ⟨o, its, n, hk, hc, _⟩
      · exact ⟨_, .base (.tup h1'), A.nb c0 h1 h2 .tuple⟩
      · exact ⟨_, .fTuple h1', A.nb c0 h1 h2 .tuple⟩
      · exact ⟨_, .kTuple hk hc, A.nb c0 h1 h2 .tuple⟩
  | lst ds =>
    cases r with
    | lst hq _ =>
      obtain ⟨o, hq⟩ := hq
      exact ⟨_, .base (.frz hq), A.nb c0 h1 h2 .list⟩
  | dct kds =>
    cases r with
    | dct hq _ _ => exact ⟨_, .fDict hq, A.nb c0 h1 h2 .dict⟩
theorem run_okAt {CX : CXT} {A : Around} {f : Addr} {fd : FuncData} {ps : List Str} {sp : Sp} {E : XK} {pins : List (Addr × Obj)} {σ : L2.St} {H : Hp} {s : Shared} {Q : VK} {us : List Value} {vs : List V} (F : FnOk X.prog X.w X.K X.mg X.base CX k f fd ps sp) (hr : Room k A) (e0 : Env0 X.prog X.w X.K X.mg X.base A X.stack s H) (hb : Binds X.K fd ps []) (hx : PassesAt CX X σ E)
    (I : Inv X pins σ H s) (r : Vals vs us) (h : sp vs H Q E) : wpAny (model X.prog X.w) A (call (.ref f) us) (EP X pins σ Q) X.xe s := by
  have r2 : Vals vs (us ++ []) := by rw [List.append_nil]; exact r
  have hl : (us ++ []).length = ps.length := by rw [← r2.length]; exact F.len _ _ _ _ h
  refine wpAny_call (codeAny_mono (F.run A X.stack s H ⟨us, []⟩ (us ++ []) vs Q E hr e0 (hb s us I.kIn hl) r2 h) fun rr s' hq => ?_)
  cases rr with
  | error e => exact hx pins H s e s' I hq
  | ok fl =>
    cases fl with
    | ret u => exact I.after hq
    | next => exact False.elim hq
    | brk => exact False.elim hq
    | cont => exact False.elim hq
def rEqI (K : PySem.W.Frag) (ct : Nat → Addr) (c0 : Nat) (F : List D → Res) (neg : Bool) : R2 := fun x y H Q => ∃ a dx fs tb ds, x = .ref a ∧ H a = some (.ins (ct c0) dx fs) ∧ TyX K H y tb ∧ PySem.W.notFirst K (ct c0) tb = true ∧ RepDs K ct H [x, y] ds ∧ ∃ b, F ds = .ret (.dat (.bl b)) ∧ ∀ H', Same H H' → Q (.bl (b != neg)) H'
theorem op_eqI (T : ClsT X.K ct c0) (O : OkE X.prog X.w X.K X.mg X.base ct c0 k F) (hr : Room k X.A) : OpR X (compareOp .Eq) (rEqI X.K ct c0 F false) := by
  intro pins s σ H x y v u Q I rx ry h
  obtain ⟨a, dx, fs, tb, ds, rfl, ea, ty, nf, rp, b, eb, q⟩ := h
  obtain ⟨f, fd, ps, hs, hf, FK, hb⟩ := O.ex
  cases (show v = Value.ref a from rx)
  obtain ⟨mA, J0, _⟩ := ins_get I.hok ea
  obtain ⟨od, J, _⟩ := J0.look
  obtain ⟨m, hF⟩ := I.fr
  obtain ⟨P, Z, pz, _⟩ := kit_of I ry ty
  show wpAny _ _ (richCompare .Eq _ _) _ _ _
  refine PySem.W.cmp_K (op := .Eq) (tb := tb) hr.units0 hF I.ok.mod.kin J (Z.ty _ _ I.kIn pz) nf hs hf ?_
  have sp : spP X.K ct 2 F [.ref a, y] H (fun z H' => z = .bl b ∧ Same H H') (WE WF σ) := ⟨rfl, ds, rp, by rw [eb]; exact fun z H' k r => ⟨by cases r; rfl, k⟩⟩
  refine wpAny_mono (run_okAt (vs := [.ref a, y]) (us := [.ref a, u]) FK hr I.env0 hb (passAt takes0 σ) I (.cons (show RelV (.ref a) (.ref a) from rfl) (.cons ry .nil)) sp) (fun w s' z => ?_) fun _ _ x => x
  obtain ⟨z', H', I', rz, rfl, k⟩ := z
  have : w = Value.bool b := rz
  subst this
  exact ⟨V.bl b, H', I', (show RelV (.bl b) (.bool b) from rfl), by simpa using q H' k⟩
theorem op_neI (T : ClsT X.K ct c0) (O : OkE X.prog X.w X.K X.mg X.base ct c0 k F) (hr : Room (k + 1) X.A) : OpR X (compareOp .NotEq) (rEqI X.K ct c0 F true) := by
  intro pins s σ H x y v u Q I rx ry h
  obtain ⟨a, dx, fs, tb, ds, rfl, ea, ty, nf, rp, b, eb, q⟩ := h
  obtain ⟨f, fd, ps, hs, hf, FK, hb⟩ := O.ex
  cases (show v = Value.ref a from rx)
  obtain ⟨mA, J0, _⟩ := ins_get I.hok ea
  obtain ⟨od, J, _⟩ := J0.look
  obtain ⟨m, hF⟩ := I.fr
  obtain ⟨P, Z, pz, _⟩ := kit_of I ry ty
  show wpAny _ _ (richCompare .NotEq _ _) _ _ _
  refine PySem.W.ne_K (tb := tb) hr.in1.units0 hF I.ok.mod.kin J (Z.ty _ _ I.kIn pz) nf O.ne T.cm hs hf ?_
  have sp : spP X.K ct 2 F [.ref a, y] H (fun z H' => z = .bl b ∧ Same H H') (WE WF σ) := ⟨rfl, ds, rp, by rw [eb]; exact fun z H' k r => ⟨by cases r; rfl, k⟩⟩
  refine wpAny_mono (run_okAt (vs := [.ref a, y]) (us := [.ref a, u]) FK hr.in1 I.env0.in1 hb (passAt takes0 σ) I (.cons (show RelV (.ref a) (.ref a) from rfl) (.cons ry .nil)) sp) (fun w s' z => ?_) fun _ _ x => x
  obtain ⟨z', H', I', rz, rfl, k⟩ := z
  have : w = Value.bool b := rz
  subst this
  exact ⟨b, rfl, V.bl (!b), H', I', (show RelV (.bl (!b)) (.bool (!b)) from rfl), by simpa using q H' k⟩
def eqOwnM (lo hi c0 : Nat) (F : List D → Res) (neg : Bool) : RV → RV → M RV
  | .sv (.dat (.obj c ds)), .sv (.dat y) => fun s => if c = c0 ∧ okT lo hi y = true then match F [.obj c ds, y] with
    | .ret (.dat (.bl b)) => .ok (RB (b != neg)) s
    | _ => .bad
    else .bad
  | _, _ => stuck
theorem eqOwnM_ok {neg : Bool} (A : AllC X.K ct lo hi) (hc : inR lo hi c0 = true) : BinOk X ct (rEqI X.K ct c0 F neg) (eqOwnM lo hi c0 F neg) := by
  intro W σ γ s H Ha Hb x y r1 r2 Q R q1 q2 h
  unfold eqOwnM at h
  split at h
  · rename_i c ds d
    by_cases cc : c = c0 ∧ okT lo hi d = true
    · rw [if_pos cc] at h
      obtain ⟨rfl, ho⟩ := cc
      have q1' : RepD X.K ct H x (.obj c ds) := q1
      have q2' : RepD X.K ct H y d := q2
      obtain ⟨tb, ty, nf⟩ := okT_ty A hc ho q2'
      split at h
      · rename_i b eb
        cases q1' with
        | obj ea nz en rp =>
          exact ⟨_, _, _, tb, _, rfl, ea, ty, nf, .cons (.obj ea nz en rp) (.cons q2' .nil), b, eb, fun H' k => h _ γ H' (step_same k) (R.kept k) (repB _)⟩
      · exact False.elim h
    · rw [if_neg cc] at h; exact False.elim h
  · exact False.elim h
theorem td_eqOwn (A : AllC X.K ct lo hi) (hc : inR lo hi c0 = true) (O : OkE X.prog X.w X.K X.mg X.base ct c0 k F) (hr : Room k X.A) (ha : ED X ct W a ma) (hb : ED X ct W b mb) : TD X ct W (.Compare a [.Eq] [b] pos) (bnd (m2 ma mb (eqOwnM lo hi c0 F false)) asB) :=
  td_cmp (op_eqI (A.cl c0 (inR_of hc).1 (inR_of hc).2) O hr) (eqOwnM_ok A hc) ha hb (nomark _)
theorem ed_eqOwn (A : AllC X.K ct lo hi) (hc : inR lo hi c0 = true) (O : OkE X.prog X.w X.K X.mg X.base ct c0 k F) (hr : Room k X.A) (ha : ED X ct W a ma) (hb : ED X ct W b mb) : ED X ct W (.Compare a [.Eq] [b] pos) (m2 ma mb (eqOwnM lo hi c0 F false)) :=
  ed_cmp (op_eqI (A.cl c0 (inR_of hc).1 (inR_of hc).2) O hr) (eqOwnM_ok A hc) ha hb (nomark _)
theorem td_neOwn (A : AllC X.K ct lo hi) (hc : inR lo hi c0 = true) (O : OkE X.prog X.w X.K X.mg X.base ct c0 k F) (hr : Room (k + 1) X.A) (ha : ED X ct W a ma) (hb : ED X ct W b mb) : TD X ct W (.Compare a [.NotEq] [b] pos) (bnd (m2 ma mb (eqOwnM lo hi c0 F true)) asB) :=
  td_cmp (op_neI (A.cl c0 (inR_of hc).1 (inR_of hc).2) O hr) (eqOwnM_ok A hc) ha hb (nomark _)
theorem ed_neOwn (A : AllC X.K ct lo hi) (hc : inR lo hi c0 = true) (O : OkE X.prog X.w X.K X.mg X.base ct c0 k F) (hr : Room (k + 1) X.A) (ha : ED X ct W a ma) (hb : ED X ct W b mb) : ED X ct W (.Compare a [.NotEq] [b] pos) (m2 ma mb (eqOwnM lo hi c0 F true)) :=
  ed_cmp (op_neI (A.cl c0 (inR_of hc).1 (inR_of hc).2) O hr) (eqOwnM_ok A hc) ha hb (nomark _)
end
end Fd
set_option Elab.async false
set_option linter.all false
set_option maxRecDepth 100000
set_option maxHeartbeats 4000000
namespace Fd
open PySem PySem.Spec PyProof.Rows L2 PpSet
/-! ## {elt for x in it if ..}, elt an int -/
def inS0 (ks : List Int) : Int → Bool := fun j => ks.any fun k => decide (j = k)
/-- the set at D after the members ks, many of them -/
def setOf (w : World) (D : Addr) (S : Int → Bool) (n : Nat) : HO := SetO w D S n
abbrev grow (S : Int → Bool) (k : Int) : Int → Bool := fun j => S j || decide (j = k)
abbrev many (S : Int → Bool) (k : Int) (n : Nat) : Nat := if S k = true then n else n + 1
/-- what one turn does with the item -/
def turnI (w : World) (g : TG) (tt : TT) (te : TE) (vs : List Nat) (σ : L2.St) (D : Addr) (Nx : Hp → Prop) (x : V) (Ha : Hp) : Prop :=
  g x (wipe σ vs) Ha fun σb Hb => wipe σb vs = wipe σ vs ∧ tt σb Hb fun b Hc => if b = true then te σb Hc fun y He => ∃ (k : Int) (S : Int → Bool) (n : Nat), y = .int k ∧ He D = some (SetO w D S n) ∧ n + 1 < scanBound ∧ Nx (upd He D (SetO w D (grow S k) (many S k n))) else Nx Hc
def tSi (w : World) (wi : TI) (g : TG) (tt : TT) (te : TE) (vs : List Nat) : TE := fun σ H Q => wi σ H fun J Ha => ∀ D, Ha D = none → ∃ Wm : Nat → Nat → Hp → Prop, (∃ m, Wm 0 m (upd Ha D (SetO w D (fun _ => false) 0))) ∧
  ∀ i m Hb, Wm i m Hb → (J.stop i Hb ∧ Q (.ref D) Hb) ∨ (J.go i Hb ∧ ∃ Nx : Hp → Prop, (∀ Hc, Nx Hc → ∃ m', m' < m ∧ Wm (i + 1) m' Hc) ∧ ∀ x Hc, J.yld i Hb x Hc → turnI w g tt te vs σ D Nx x Hc)
section
variable {X : Cx}
theorem addI_ok {pins : List (Addr × Obj)} {σ : L2.St} {H : Hp} {s : Shared} {Ex : Value → Shared → Prop} {D : Addr} {S : Int → Bool} {n : Nat} {k : Int} {tk : Tok} {Qv : Value → Shared → Prop} (I : Inv X pins σ H s) (eD : H D = some (SetO X.w D S n)) (room : n + 1 < scanBound)
    (fin : ∀ sb, Inv X pins σ (upd H D (SetO X.w D (grow S k) (many S k n))) sb → Qv .none sb) : wpAny (model X.prog X.w) X.A (call (.builtin "set.add") [.ref D, .int k tk]) Qv Ex s := by
  refine setR_add (setO_get I eD) room fun hb same fresh => fin _ ?_
  have there : ∃ u, hb.get? D = some u := by
    obtain ⟨o, _, _, _, ho, _⟩ := fresh
    exact ⟨o, ho⟩
  exact I.write (e := D) (t' := s.toks + 1) (by rw [eD]; exact True.intro) (.inl rfl) (fun a u ne eu => (same.2 a ne).trans eu) there (setO_new fresh)
/-- the block of the comprehension, running: its environment e1, its walk (it, fp, tn) -/
theorem si_core {pins : List (Addr × Obj)} {s : Shared} {σ : L2.St} {H : Hp} {Q : VK} {elt tg src : Expr} {ifs : List Expr} {sc : Scope} {own : List (Str × Nat)} {pos at0 : Pos} {wi : TI} {g : TG} {tt : TT} {te : TE} {Qv : Value → Shared → Prop} {last : Option (Value → Sem Unit)}
    (calm : X.calm = true) (nd : X.N.Nodup) (I : Inv X pins σ H s) (pi : PI X tg src wi) (blk : BlkOk X.N X.env.scope sc own)
    (pg : ∀ (sa : Shared) (Ha : Hp) (C : Addr) (cl : List (Str × Addr)) (fp : List Addr), PG (X.blk sa Ha sc (compEnvC sc cl C X.env) fp) tg g) (pt : ∀ (sa : Shared) (Ha : Hp) (C : Addr) (cl : List (Str × Addr)) (fp : List Addr), PTs (X.blk sa Ha sc (compEnvC sc cl C X.env) fp) ifs tt)
    (pe : ∀ (sa : Shared) (Ha : Hp) (C : Addr) (cl : List (Str × Addr)) (fp : List Addr), PE (X.blk sa Ha sc (compEnvC sc cl C X.env) fp) elt te) (plain : ∀ x, foldedSetIterable src X.env x = pure x) (rd : tSi X.w wi g tt te (own.map (·.2)) σ H Q)
    (back : ∀ D C sz m Hz, Inv X pins σ Hz sz → Q (.ref D) Hz → sz.heap.Ns C m → FpOk X pins Hz C → compPost (model X.prog X.w) X.A X.xe last Qv (.ref D) C (.ok .next) sz) :
    wpAny (model X.prog X.w) X.A (comprehension (.SetComp elt [⟨tg, src, ifs, 0⟩] sc pos) sc X.env at0 (newSet (.type "set")) false (eval src X.env) last) Qv X.xe s := by
  have cells : ∀ y ∈ sc.names, y.2 = .free → ∃ c, X.env.cells.lookup y.1 = some c := fun y hy e => (blk.free y hy e).elim (fun z => I.ok.has _ (.inl z)) fun z => I.ok.has _ (.inr z)
  refine wpAny_comprehension_free (use := last) rfl plain (closure_ok cells) blk.kind (fun y hy e => by rw [blk.uniq y hy, e]) (thn (pi.run pins s σ H _ I rd) fun _ _ hx => thn hx fun _ sB hB => ?_)
  obtain ⟨it, fp, tn, J, HB, rfl, IB, Wk, tB, fB, turns⟩ := hB
  refine newSet_ok (newEnv_comp ?_)
  generalize eD : sB.heap.objs.size = D
  obtain ⟨Wm, ⟨m0, w0⟩, turn⟩ := turns D (IB.hok.fresh (Nat.le_of_eq eD))
  generalize eC : ({ sB with heap := sB.heap.push { cls := .type "set", dict := none, data := .set #[] 0 (.fresh 0 0 (!X.w.params.followText "set-order")) } } : Shared) = sC
  have hpC : sC.heap = sB.heap.push { cls := .type "set", dict := none, data := .set #[] 0 (.fresh 0 0 (!X.w.params.followText "set-order")) } := by rw [← eC]
  have IC : Inv X pins σ (upd HB D (SetO X.w D (fun _ => false) 0)) sC := by
    rw [← eC, ← eD]
    exact IB.laid (t' := sB.toks) (fun b o e => Heap.get?_push_of_some _ e) (Nat.le_refl _) (setO_new (setR_fresh X.w))
  have below : ∀ b ∈ fp, b < sB.heap.objs.size := fun b hb => let ⟨_, e, _⟩ := Wk.obj _ _ tB b hb; Heap.lt_size e
  have fC : ∀ b ∈ fp, FpOk X pins (upd HB D (SetO X.w D (fun _ => false) 0)) b ∧ b < sC.heap.objs.size := fun b hb =>
    ⟨⟨by rw [upd_ne (by rw [← eD]; exact Nat.ne_of_lt (below b hb))]; exact (fB b hb).1, (fB b hb).2⟩, by rw [hpC, Heap.size_push]; exact Nat.lt_succ_of_lt (below b hb)⟩
  have tC : tn 0 sC.heap := Wk.keep _ _ _ tB fun b _ o e => by rw [hpC]; exact Heap.get?_push_of_some _ e
  have ID0 := block_start IC blk nd fC
  change codeAny (model X.prog X.w) X.A (.compStart (.SetComp elt [⟨tg, src, ifs, 0⟩] sc pos) 0 (.ref it) (.ref D) (compEnvC sc (cellsFrom (sC.heap.objs.size + 1) sc.names (cloFrom X.env.cells sc.names [])) sC.heap.objs.size X.env))
    (compPost (model X.prog X.w) X.A X.xe last Qv (.ref D) sC.heap.objs.size) { sC with heap := pushCells (sC.heap.push { cls := .type "dict", data := .dict #[] }) sc.names }
  generalize eF : cellsFrom (sC.heap.objs.size + 1) sc.names (cloFrom X.env.cells sc.names []) = cl at ID0 ⊢
  have pg1 := pg sC (upd HB D (SetO X.w D (fun _ => false) 0)) sC.heap.objs.size cl fp
  have pt1 := pt sC (upd HB D (SetO X.w D (fun _ => false) 0)) sC.heap.objs.size cl fp
  have pe1 := pe sC (upd HB D (SetO X.w D (fun _ => false) 0)) sC.heap.objs.size cl fp
  have none0 : ∀ b ∈ fp, (upd HB D (SetO X.w D (fun _ => false) 0)) b = none := fun b hb => (fC b hb).1.1
  generalize eE : compEnvC sc cl sC.heap.objs.size X.env = e1 at ID0 pg1 pt1 pe1 ⊢
  have locs : e1.locals = sC.heap.objs.size := by subst eE; rfl
  generalize eH : upd HB D (SetO X.w D (fun _ => false) 0) = HC at IC ID0 pg1 pt1 pe1 w0 none0 fC
  generalize eS : ({ sC with heap := pushCells (sC.heap.push { cls := .type "dict", data := .dict #[] }) sc.names } : Shared) = sD at ID0 ⊢
  have tD : tn 0 sD.heap := Wk.keep _ _ _ tC fun b _ o e => by rw [← eS]; exact pushCells_keeps _ _ _ _ (Heap.get?_push_of_some _ e)
  have held : ∀ {σz : L2.St} {Hz : Hp} {sz : Shared}, Inv (X.blk sC HC sc e1 fp) [] σz Hz sz → (∀ b ∈ fp, Hz b = none) → ∀ b ∈ fp, FpOk (X.blk sC HC sc e1 fp) [] Hz b := fun {_ _ _} Iz nz b hb =>
    ⟨nz b hb, (Iz.ok.exf b hb).1, Iz.ok.exfs b hb, .inl hb, fun x c e => (Iz.ok.exf b hb).2 x c e, fun p hp => by simp at hp⟩
  have loop : codeAny (model X.prog X.w) X.A (.compLoop (.SetComp elt [⟨tg, src, ifs, 0⟩] sc pos) 0 (.ref it) (.ref D) e1) (compPost (model X.prog X.w) X.A X.xe last Qv (.ref D) sC.heap.objs.size) sD := by
    refine compLoopS_any (fun n sz => ∃ i Hz, Inv (X.blk sC HC sc e1 fp) [] (wipe σ (own.map (·.2))) Hz sz ∧ tn i sz.heap ∧ (∀ b ∈ fp, Hz b = none) ∧ Wm i n Hz) ?_ m0 ⟨0, HC, ID0, tD, none0, w0⟩
    rintro n sE ⟨i, HE, IE, tE, nE, wE⟩
    rcases turn i n HE wE with ⟨stop, fin⟩ | ⟨go, Nx, less, step⟩
    · refine thnF (Wk.done (X.blk sC HC sc e1 fp) rfl rfl rfl calm i [] sE _ HE (fun _ _ => False) IE (held IE nE) tE stop) fun r sF ⟨er, IF⟩ => ?_
      subst er
      obtain ⟨mF, nsF, _⟩ := IF.loc
      have noC : HE sC.heap.objs.size = none := by have z : HE e1.locals = none := IF.free; rwa [locs] at z
      have nsF' : sF.heap.Ns sC.heap.objs.size mF := by have z : sF.heap.Ns e1.locals mF := nsF; rwa [locs] at z
      exact back D sC.heap.objs.size sF mF HE (IC.call' (ch := fp) IF.os IF.base IF.hok IF.bare fun b hb => ⟨(fC b hb).1.2.2.2.1, (fC b hb).1.2.1, (fC b hb).1.2.2.2.2.1, (fC b hb).1.2.2.2.2.2⟩) fin nsF' (IC.fpOk (Nat.le_refl _) noC)
    · refine thnF (Wk.item (X.blk sC HC sc e1 fp) rfl rfl rfl calm i [] sE _ HE (fun _ _ => False) IE (held IE nE) tE go) fun r sF ⟨u, er, hF⟩ => ?_
      subst er
      refine thnF hF fun _ sG ⟨x, HG, IG, rG, yG, tG, nG⟩ => ?_
      have IGp := IG.pinned (held IG nG) (Wk.obj _ _ tG)
      refine thnF (pg1.run _ sG _ HG x u _ IGp rG (step x HG yG)) fun _ sH ⟨σH, HH, IH, wH, qH⟩ => ?_
      refine thnF (pt1.run _ sH σH HH _ IH qH) fun b sI ⟨HI, II, qI⟩ => ?_
      have next : ∀ {sz : Shared} {Hz : Hp}, Inv (X.blk sC HC sc e1 fp) ([] ++ pinsAt fp sG.heap) σH Hz sz → Nx Hz → ∃ m, m < n ∧ ∃ i Hz, Inv (X.blk sC HC sc e1 fp) [] (wipe σ (own.map (·.2))) Hz sz ∧ tn i sz.heap ∧ (∀ b ∈ fp, Hz b = none) ∧ Wm i m Hz := fun {sz Hz} Iz nx => by
        obtain ⟨m', lt, wz⟩ := less Hz nx
        have same : ∀ b ∈ fp, ∀ o, sG.heap.get? b = some o → sz.heap.get? b = some o ∧ Hz b = none := fun b hb o e =>
          let ⟨z1, z2, _⟩ := Iz.pin (b, o) (List.mem_append_right _ (List.mem_append_right _ (mem_pinsAt hb e)))
          ⟨z1, z2⟩
        refine ⟨m', lt, i + 1, Hz, (Iz.unpinned (pins := [])).weak (by rw [← wH, wipe_length]) (fun j v e => by rw [← wH] at e; exact (wipe_some e).1), Wk.keep _ _ _ tG fun b hb o e => (same b hb o e).1, fun b hb => ?_, wz⟩
        obtain ⟨o, e, _⟩ := Wk.obj _ _ tG b hb
        exact (same b hb o e).2
      cases b with
      | false => exact next II qI
      | true =>
        refine thnF (pe1.run _ sI σH HI _ II qI) fun z sJ ⟨y, HJ, IJ, rJ, k, S0, n0, ey, eJ, roomJ, nx⟩ => ?_
        subst ey
        obtain ⟨tk, rfl⟩ := rJ
        exact addI_ok (X := X.blk sC HC sc e1 fp) IJ eJ roomJ fun sK IK => next IK nx
  exact codeAny_compStart_set loop (Wk.self X.A 0 _ _ _ tD loop)
theorem pe_si {elt tg src : Expr} {ifs : List Expr} {sc : Scope} {own : List (Str × Nat)} {pos : Pos} {wi : TI} {g : TG} {tt : TT} {te : TE} (calm : X.calm = true) (nd : X.N.Nodup) (pi : PI X tg src wi) (blk : BlkOk X.N X.env.scope sc own)
    (pg : ∀ (sa : Shared) (Ha : Hp) (C : Addr) (cl : List (Str × Addr)) (fp : List Addr), PG (X.blk sa Ha sc (compEnvC sc cl C X.env) fp) tg g) (pt : ∀ (sa : Shared) (Ha : Hp) (C : Addr) (cl : List (Str × Addr)) (fp : List Addr), PTs (X.blk sa Ha sc (compEnvC sc cl C X.env) fp) ifs tt)
    (pe : ∀ (sa : Shared) (Ha : Hp) (C : Addr) (cl : List (Str × Addr)) (fp : List Addr), PE (X.blk sa Ha sc (compEnvC sc cl C X.env) fp) elt te) (plain : ∀ x, foldedSetIterable src X.env x = pure x := by intro _; rfl) :
    PE X (.SetComp elt [⟨tg, src, ifs, 0⟩] sc pos) (tSi X.w wi g tt te (own.map (·.2))) := ⟨fun pins s σ H Q I h => by
  rw [PpSet.eval_SetComp]
  refine si_core calm nd I pi blk pg pt pe plain h fun D C sz m Hz Iz q ns ok => ⟨m, ns, fun hh sb => ?_⟩
  obtain ⟨o0, o1, o2, o3, o4, o5⟩ := ok
  exact ⟨.ref D, Hz, Iz.turned (t' := sz.toks) (fun b o hb e => (sb.2 b hb).trans e) o0 o1 o3 o4 o5, rfl, q⟩⟩
end
end Fd
set_option Elab.async false
set_option linter.all false
set_option maxRecDepth 100000
set_option maxHeartbeats 4000000
namespace Fd
open PySem PySem.Spec PyProof.Rows L2 PpSet
/-! ## sorted distinct ints -/
def insS (k : Int) : List Int → List Int
  | [] => [k]
  | x :: xs => if k < x then k :: x :: xs else if k = x then x :: xs else x :: insS k xs
def sortS : List Int → List Int
  | [] => []
  | x :: xs => insS x (sortS xs)
theorem mem_insS {k j : Int} : ∀ {l : List Int}, j ∈ insS k l ↔ j = k ∨ j ∈ l
  | [] => by simp [insS]
  | x :: xs => by
    unfold insS
    split
    · simp
    · split
      · rename_i h; subst h; simp
      · simp [mem_insS (l := xs)]
        constructor
        · rintro (h | h | h) <;> simp [h]
        · rintro (h | h | h) <;> simp [h]
theorem mem_sortS {j : Int} : ∀ {l : List Int}, j ∈ sortS l ↔ j ∈ l
  | [] => Iff.rfl
  | x :: xs => by unfold sortS; rw [mem_insS, mem_sortS]; simp
theorem up_insS {k : Int} : ∀ {l : List Int}, l.Pairwise (· < ·) → (insS k l).Pairwise (· < ·)
  | [], _ => by simp [insS]
  | x :: xs, h => by
    obtain ⟨h1, h2⟩ := List.pairwise_cons.mp h
    unfold insS
    split
    · rename_i c
      refine List.pairwise_cons.mpr ⟨fun y hy => ?_, h⟩
      rcases List.mem_cons.mp hy with e | e
      · omega
      · have := h1 y e; omega
    · split
      · exact h
      · rename_i c1 c2
        refine List.pairwise_cons.mpr ⟨fun y hy => ?_, up_insS h2⟩
        rcases mem_insS.mp hy with e | e
        · omega
        · exact h1 y e
theorem up_sortS : ∀ l : List Int, (sortS l).Pairwise (· < ·)
  | [] => .nil
  | x :: xs => up_insS (up_sortS xs)
theorem up_eq : ∀ {a b : List Int}, a.Pairwise (· < ·) → b.Pairwise (· < ·) → (∀ k, k ∈ a ↔ k ∈ b) → a = b
  | [], [], _, _, _ => rfl
  | [], y :: ys, _, _, h => absurd ((h y).mpr (by simp)) (by simp)
  | x :: xs, [], _, _, h => absurd ((h x).mp (by simp)) (by simp)
  | x :: xs, y :: ys, ha, hb, h => by
    obtain ⟨a1, a2⟩ := List.pairwise_cons.mp ha
    obtain ⟨b1, b2⟩ := List.pairwise_cons.mp hb
    have e : x = y := by
      have h1 := (h x).mp (by simp)
      have h2 := (h y).mpr (by simp)
      rcases List.mem_cons.mp h1 with e | e
      · exact e
      · rcases List.mem_cons.mp h2 with f | f
        · exact f.symm
        · have := a1 y f; have := b1 x e; omega
    subst e
    have := up_eq a2 b2 fun k => by
      constructor
      · intro hk
        rcases List.mem_cons.mp ((h k).mp (by simp [hk])) with e | e
        · have := a1 k hk; omega
        · exact e
      · intro hk
        rcases List.mem_cons.mp ((h k).mpr (by simp [hk])) with e | e
        · have := b1 k hk; omega
        · exact e
    rw [this]
/-! ## sorted({elt for x in it if ..}) -/
open Classical in
noncomputable def siL (ok : S → Prop) (vs : List Nat) (f : SV → M Unit) (tt : M Bool) (me : M RV) : List SV → List Int → M (List Int)
  | [], acc => fun s => if ok s then .ok acc s else .bad
  | x :: xs, acc => fun s => if ok s then match f x s with
    | .ok _ s1 => match tt s1 with
      | .ok true s2 => match me s2 with
        | .ok (.sv (.dat (.int k))) s3 => if acc.length < 60 then siL ok vs f tt me xs (acc ++ [k]) (wipeS vs s3) else .bad
        | _ => .bad
      | .ok false s2 => siL ok vs f tt me xs acc (wipeS vs s2)
      | _ => .bad
    | _ => .bad
    else .bad
theorem siL_ne {ok : S → Prop} {vs : List Nat} {f : SV → M Unit} {tt : M Bool} {me : M RV} {x : Exn} : ∀ (xs : List SV) (acc : List Int) (s s' : S), siL ok vs f tt me xs acc s ≠ .exc x s'
  | [], acc, s, s', h => by
    unfold siL at h
    split at h <;> cases h
  | y :: xs, acc, s, s', h => by
    unfold siL at h
    split at h
    · split at h
      · split at h
        · split at h
          · split at h
            · exact siL_ne xs _ _ _ h
            · cases h
          · cases h
        · exact siL_ne xs _ _ _ h
        · cases h
      · cases h
    · cases h
noncomputable def ssM (mi : M Src) (vs : List Nat) (f : SV → M Unit) (tt : M Bool) (me : M RV) : M RV := bnd mi fun src s => bnd (siL src.Ok vs f tt me src.items []) (fun acc => pur (.new ((sortS acc).map fun k => .dat (.int k)))) (wipeS vs s)
theorem si_it {J : It} {n : Nat} {Gd : Hp → Prop} {Y : Nat → Hp → V → Hp → Prop} (wk : L2.Walk J n Gd Y) {w : World} {g : TG} {tt : TT} {te : TE} {vs : List Nat} {σ : L2.St} {Ha : Hp} {D : Addr} {Qd : Hp → Prop} (Pv : Nat → Hp → Prop) (h0 : Pv 0 (upd Ha D (SetO w D (fun _ => false) 0))) (hG : ∀ i H, i ≤ n → Pv i H → Gd H)
    (hs : ∀ i x H H', i < n → Pv i H → Y i H x H' → turnI w g tt te vs σ D (Pv (i + 1)) x H') (hd : ∀ H, Pv n H → Qd H) :
    ∃ Wm : Nat → Nat → Hp → Prop, (∃ m, Wm 0 m (upd Ha D (SetO w D (fun _ => false) 0))) ∧ ∀ i m Hb, Wm i m Hb → (J.stop i Hb ∧ Qd Hb) ∨ (J.go i Hb ∧ ∃ Nx : Hp → Prop, (∀ Hc, Nx Hc → ∃ m', m' < m ∧ Wm (i + 1) m' Hc) ∧ ∀ x Hc, J.yld i Hb x Hc → turnI w g tt te vs σ D Nx x Hc) := by
  refine ⟨fun i m H => m + i = n ∧ Pv i H, ⟨n, rfl, h0⟩, ?_⟩
  rintro i m H ⟨e, p⟩
  have q := hG i H (by omega) p
  cases m with
  | zero =>
    have e' : i = n := by omega
    subst e'
    exact .inl ⟨wk.stops H q, hd H p⟩
  | succ m => exact .inr ⟨wk.goes i H (by omega) q, Pv (i + 1), fun H' p' => ⟨m, Nat.lt_succ_self m, by omega, p'⟩, fun x H' y => hs i x H H' (by omega) p (wk.yields i H x H' (by omega) q y)⟩
section
variable {X : Cx} {ct : Nat → Addr} {W : WX} {pos p spos : Pos} {e : Expr} {tg : Expr}
theorem ss_sem {K : PySem.W.Frag} {w : World} {wi : TI} {mi : M Src} {is vs : List Nat} {f : SV → M Unit} {mt : M Bool} {me : M RV}
    (ri : ∀ σ H γ s (R : It → Hp → Prop), Rep K ct γ H σ s → (mi s).post (fun src s' => ∀ γ' H' J, Step γ γ' s s' H H' → Rep K ct γ' H' σ s' → WalkD K ct J src γ' s' H' → R J H') (GoodX K ct W σ γ s H) → wi σ H R)
    (hv : ∀ j ∈ is, j ∈ vs) {σ : L2.St} {H : Hp} {γ : G} {s : S} {Q : VK} (R : Rep K ct γ H σ s) (h : Good K ct W σ γ s H (ssM mi vs f mt me s) Q) :
    tSi w wi (tmG K ct is f) (tmT K ct WF mt) (tmE K ct WF me) vs σ H (fun v H1 => rSortedSet w [v] H1 Q) := by
  refine ri σ H γ s _ R (Out.post.imp (post_bnd h) (fun src s1 g γ1 H1 J t1 R1 wd => ?_) fun _ _ z => z)
  intro D hD
  obtain ⟨Gd, Y, wk, hG, hY⟩ := wd.ex
  have nfree : H D = none := free_of t1.there hD
  refine si_it wk (fun i H2 => ∃ γ2 s2 acc S n, Step γ1 γ2 s1 s2 H1 H2 ∧ Rep K ct γ2 H2 (wipe σ vs) s2 ∧ H2 D = some (SetO w D S n) ∧ ¬ Own γ2 s2 D ∧ (∀ k, S k = true ↔ k ∈ acc) ∧ n ≤ acc.length ∧ acc.length ≤ 60 ∧
    Good K ct W σ γ s H (bnd (siL src.Ok vs f mt me (src.items.drop i) acc) (fun acc => pur (.new ((sortS acc).map fun k => .dat (.int k)))) s2) Q) ?_ ?_ ?_ ?_
  · refine ⟨γ1, wipeS vs s1, [], _, 0, step_wipe.trans (Step.laid hD), rep_wipe (R1.laid hD), upd_same, R1.notOwn_free hD, fun k => by simp, Nat.le_refl _, Nat.zero_le _, ?_⟩
    rw [List.drop_zero]
    exact g
  · rintro i H2 hi ⟨γ2, s2, acc, S, n, t2, R2, _, _, _, _, _, g2⟩
    refine hG γ2 s2 H2 _ t2 R2 ?_
    unfold bnd at g2
    cases e : src.items.drop i with
    | nil =>
      rw [e] at g2
      by_cases c : src.Ok s2
      · exact c
      · unfold siL at g2; rw [if_neg c] at g2; exact False.elim g2
    | cons y ys =>
      rw [e] at g2
      by_cases c : src.Ok s2
      · exact c
      · unfold siL at g2; rw [if_neg c] at g2; exact False.elim g2
  · rintro i x H2 H3 hi ⟨γ2, s2, acc, S, n, t2, R2, eD, nD, hS, hn, hl, g2⟩ y
    rw [List.drop_eq_getElem_cons hi] at g2
    unfold bnd siL at g2
    by_cases c : src.Ok s2
    · rw [if_pos c] at g2
      obtain ⟨sm, rx⟩ := hY i γ2 s2 H2 _ x H3 src.items[i] t2 R2 c (by simp [hi]) y
      have R3 := R2.kept sm
      have t3 : Step γ2 γ2 s2 s2 H2 H3 := step_same sm
      refine ⟨γ2, s2, _, R3, rx, ?_⟩
      cases e1 : f src.items[i] s2 with
      | bad => rw [e1] at g2; exact False.elim g2
      | exc z s3 => rw [e1] at g2; exact False.elim g2
      | ok u s3 =>
        rw [e1] at g2
        try dsimp only at g2
        intro σ4 γ4 H4 t4 R4 a4 l4
        have wq : wipe σ4 vs = wipe σ vs := by
          have e1 : wipe σ4 vs = wipe (wipe σ vs) vs := wipe_eq l4 fun j hj => a4 j fun z => hj (hv j z)
          rw [e1]
          exact wipe_eq (by rw [wipe_length]) fun j hj => wipe_out hj
        refine ⟨wq, ?_⟩
        refine ⟨γ4, s3, R4, ?_⟩
        have tt : Step γ1 γ4 s1 s3 H1 H4 := (t2.trans t3).trans t4
        have stay : ∀ {γa γb sa sb Ha Hb}, Step γa γb sa sb Ha Hb → ∀ o, Ha D = some o → ¬ Own γa sa D → Hb D = some o ∧ ¬ Own γb sb D := fun {γa γb sa sb Ha Hb} st o e n => by
          refine ⟨st.keep _ _ e n, fun z => ?_⟩
          rcases st.own _ z with q | q
          · exact n q
          · rw [e] at q; cases q
        obtain ⟨e4, n4⟩ := stay (t3.trans t4) _ eD nD
        unfold GoodT
        cases e2 : mt s3 with
        | bad => rw [e2] at g2; exact False.elim g2
        | exc z s5 => rw [e2] at g2; exact False.elim g2
        | ok bb s5 =>
          rw [e2] at g2
          try dsimp only at g2
          intro γ5 H5 t5 R5
          obtain ⟨e5, n5⟩ := stay t5 _ e4 n4
          cases bb with
          | false =>
            rw [if_neg (by decide)]
            refine ⟨γ5, wipeS vs s5, acc, S, n, (tt.trans t5).trans step_wipe, ?_, e5, n5, hS, hn, hl, g2⟩
            rw [← wq]
            exact rep_wipe R5
          | true =>
            rw [if_pos rfl]
            dsimp only at g2
            refine ⟨γ5, s5, R5, ?_⟩
            unfold Good
            cases e3 : me s5 with
            | bad => rw [e3] at g2; exact False.elim g2
            | exc z s6 => rw [e3] at g2; exact False.elim g2
            | ok r s6 =>
              rw [e3] at g2
              try dsimp only at g2
              split at g2
              · rename_i a s' heq
                split at heq
                · rename_i k s7 e8
                  cases e8
                  by_cases cl : acc.length < 60
                  · rw [if_pos cl] at heq
                    intro v γ6 H6 t6 R6 q6
                    obtain ⟨e6, n6⟩ := stay t6 _ e5 n5
                    have q6' : v = .int k := rep_int q6
                    subst q6'
                    refine ⟨k, S, n, rfl, e6, Nat.lt_of_le_of_lt (show n + 1 ≤ 61 by omega) (by decide), ?_⟩
                    have away : ∀ z u, H6 z = some u → u ≠ SetO w D S n → upd H6 D (SetO w D (grow S k) (many S k n)) z = some u := fun z u ez nz => by
                      rw [upd_ne]
                      · exact ez
                      · rintro rfl; rw [e6] at ez; exact nz (Option.some.inj ez).symm
                    have ki : KeepI H6 (upd H6 D (SetO w D (grow S k) (many S k n))) := fun z u ez iz => away z u ez fun q => by rw [q] at iz; exact iz
                    have t16 := (tt.trans t5).trans t6
                    have ts : Step γ1 γ6 s1 s6 H1 (upd H6 D (SetO w D (grow S k) (many S k n))) := by
                      refine ⟨fun z u ez nz => ?_, t16.own, fun z u ez iz => ?_, fun z hz => there_upd z (t16.there z hz), t16.kp, t16.len, t16.ah, t16.fresh⟩
                      · rw [upd_ne (ne_of_none ez hD)]; exact t16.keep z u ez nz
                      · rw [upd_ne (ne_of_none ez hD)]; exact t16.imm z u ez iz
                    have m2 : ∀ {v x}, RepS K ct γ6 s6.mem.length H6 v x → RepS K ct γ6 s6.mem.length (upd H6 D (SetO w D (grow S k) (many S k n))) v x := fun {v x} r => by
                      cases x with
                      | dat d => exact RepD.mono ki r
                      | ref k => exact r
                      | hand => exact r
                    have R7 : Rep K ct γ6 (upd H6 D (SetO w D (grow S k) (many S k n))) σ4 s6 := by
                      refine ⟨R6.len, fun i x ex => ?_, fun k xs ex => ?_, R6.inj, fun h ex => ?_, R6.hdk⟩
                      · obtain ⟨v, q, r⟩ := R6.env i x ex
                        exact ⟨v, q, m2 r⟩
                      · obtain ⟨us, q, r⟩ := R6.mem k xs ex
                        exact ⟨us, away _ _ q (fun z => by cases z), Paired.mapP r fun _ _ z => m2 z⟩
                      · refine RepHd.mono (fun b u q hb => ?_) ki (R6.hd h ex)
                        rw [upd_ne]
                        · exact q
                        · rintro rfl; exact n6 (.inr ⟨by rw [ex]; exact (fun z => by cases z), hb⟩)
                    refine ⟨γ6, wipeS vs s6, acc ++ [k], _, _, ts.trans step_wipe, ?_, upd_same, n6, fun j => ?_, ?_, by simp; omega, ?_⟩
                    · rw [← wq]
                      exact rep_wipe R7
                    · simp [grow, hS]
                    · unfold many
                      split <;> simp <;> omega
                    · unfold bnd
                      rw [heq]
                      exact g2
                  · rw [if_neg cl] at heq; cases heq
                · cases heq
              · rename_i x s' heq
                split at heq
                · rename_i k s7 e8
                  cases e8
                  by_cases cl : acc.length < 60
                  · rw [if_pos cl] at heq
                    exact absurd heq (siL_ne _ _ _ _)
                  · rw [if_neg cl] at heq; cases heq
                · cases heq
              · exact False.elim g2
    · rw [if_neg c] at g2; exact False.elim g2
  · rintro H2 ⟨γ2, s2, acc, S, n, t2, R2, eD, nD, hS, hn, hl, g2⟩
    rw [List.drop_length] at g2
    unfold bnd siL at g2
    by_cases c : src.Ok s2
    · rw [if_pos c] at g2
      refine ⟨D, S, n, rfl, eD, by omega, fun ns q u1 u2 u3 hq => ?_⟩
      have e : ns = sortS acc := up_eq u1 (up_sortS _) fun k => by rw [u2, hS, mem_sortS]
      subst e
      have pr : ∀ l : List Int, Paired (RepS K ct γ2 s2.mem.length H2) (l.map V.int) (l.map fun k => SV.dat (.int k)) := fun l => by
        induction l with
        | nil => exact .nil
        | cons a l ih => exact .cons (RepD.int a) ih
      exact good_new (rep_unwipe R2) (pr _) (Good.step (t1.trans t2) g2) q hq
    · rw [if_neg c] at g2; exact False.elim g2
theorem ed_sortedSC {elt it : Expr} {ifs : List Expr} {scope : Scope} {own : List (Str × Nat)} {mi : M Src} {is : List Nat} {f : SV → M Unit} {mt : M Bool} {me : M RV} (calm : X.calm = true) (nd : X.N.Nodup) (hgs : Gl X "sorted") (hms : X.mg "sorted" = none) (hi : ID X ct W tg it mi) (blk : BlkOk X.N X.env.scope scope own) (hv : ∀ j ∈ is, j ∈ own.map (·.2))
    (hg : ∀ (s : Shared) (H : Hp) (C : Addr) (cl : List (Str × Addr)) (fp : List Addr), GD (X.blk s H scope (compEnvC scope cl C X.env) fp) ct tg is f) (ht : ∀ (s : Shared) (H : Hp) (C : Addr) (cl : List (Str × Addr)) (fp : List Addr), IfsD (X.blk s H scope (compEnvC scope cl C X.env) fp) ct ifs mt)
    (he : ∀ (s : Shared) (H : Hp) (C : Addr) (cl : List (Str × Addr)) (fp : List Addr), ED (X.blk s H scope (compEnvC scope cl C X.env) fp) ct WF elt me) (hs : ∀ x, foldedSetIterable it X.env x = pure x := by intro _; rfl) :
    ED X ct W (.Call (.Name "sorted" p) [.SetComp elt [⟨tg, it, ifs, 0⟩] scope spos] [] pos) (ssM mi (own.map (·.2)) f mt me) := by
  obtain ⟨wi, pi, ri⟩ := hi.ex
  refine ⟨_, pe_callB (cr_sortedSet calm) hgs hms PyProof.Rows.boot_sorted (pa_cons (pe_si (g := tmG X.K ct is f) (tt := tmT X.K ct WF mt) (te := tmE X.K ct WF me) calm nd pi blk (fun s H C cl fp => (hg s H C cl fp).pg) (fun s H C cl fp => (ht s H C cl fp).pts) (fun s H C cl fp => (he s H C cl fp).pe) hs) pa_nil), fun σ H γ s Q R h => ?_⟩
  exact ss_sem (w := X.w) ri hv R h
end
end Fd
set_option Elab.async false
set_option linter.all false
set_option maxRecDepth 100000
set_option maxHeartbeats 4000000
namespace PySem
open Sem (wp)
/-- enumerate(v) of one argument -/
theorem meets_enum1 {v : Value} {o : Obj} {Hd : Heap → Prop} (B : Begins v o Hd) : Meets (Builtin.«enumerate.__new__» ⟨[.type "enumerate", v], []⟩) (fun _ R s => Hd s.heap ∧
    R (.ok (.ret (.ref (s.heap.push o).objs.size))) { s with heap := (s.heap.push o).push { cls := .type "enumerate", data := .fields #[.none, .bool false, .ref s.heap.objs.size, rawInt 0, .none, .none] } }) :=
  .of_wp fun prog w A R s both => by
    obtain ⟨hp, g, d, tk, os⟩ := s
    obtain ⟨hB, fin⟩ := both
    have hsub := sub_enumerate
    have itr : ∀ {Ab : Around} {Ex : Value → Shared → Prop} {Qv : Value → Shared → Prop}, Qv (.ref hp.objs.size) ⟨hp.push o, g, d, tk, os⟩ → wpAny (model prog w) Ab (pyIter v) Qv Ex ⟨hp, g, d, tk, os⟩ := fun q => B.iter prog w _ _ ⟨hp, g, d, tk, os⟩ _ hB q
    wp_walk using itr
    refine wpAny_stack_any fun st => wpAny_pure ?_
    split
    · rename_i c _ _ _ _ _
      cases (c == Value.type "enumerate") <;> (wp_walk using itr; exact ⟨_, rfl, fin⟩)
    · wp_walk using itr
      exact ⟨_, rfl, fin⟩
section
variable {prog : Program} {w : World} {A : Around} {Ex : Value → Shared → Prop} {s : Shared}
theorem enum1_begins {v : Value} {o : Obj} {Hd : Heap → Prop} {Qv : Value → Shared → Prop} (B : Begins v o Hd) (hB : Hd s.heap)
    (fin : ∀ hb, IsEnum hb (s.heap.objs.size + 1) s.heap.objs.size 0 .none → hb.get? s.heap.objs.size = some o → hb.objs.size = s.heap.objs.size + 2 → (∀ b u, s.heap.get? b = some u → hb.get? b = some u) → Qv (.ref (s.heap.objs.size + 1)) { s with heap := hb }) :
    wpAny (model prog w) A (call (.type "enumerate") [v]) Qv Ex s := by
  refine callType_new F.called_enumerate (by decide) (F.typeCall_enumerate_1 _) (F.newCall_enumerate_1 _) (fun obj => F.args_object_init_2 obj _) F.entry_enumerate_new (meets_enum1 B) ⟨hB, ?_⟩
  have sz : (s.heap.push o).objs.size = s.heap.objs.size + 1 := Heap.size_push ..
  show _ ∧ _
  rw [sz]
  have hE : IsEnum ((s.heap.push o).push { cls := .type "enumerate", data := .fields #[.none, .bool false, .ref s.heap.objs.size, rawInt 0, .none, .none] }) (s.heap.objs.size + 1) s.heap.objs.size 0 .none := by
    have q := Heap.get?_push_size (s.heap.push o) (o := { cls := .type "enumerate", data := .fields #[.none, .bool false, .ref s.heap.objs.size, rawInt 0, .none, .none] }) rfl
    rw [sz] at q; exact q
  exact ⟨⟨_, hE, rfl⟩, fin _ hE (Heap.get?_push_of_some _ (Heap.get?_push_size _ B.free)) (by rw [Heap.size_push, sz]) fun b u q => Heap.get?_push_of_some _ (Heap.get?_push_of_some _ q)⟩
end
end PySem
namespace Fd
open PySem PySem.Spec PyProof.Rows L2
/-- the tuple at a, each item in a new pair -/
def Itet (K : PySem.W.Frag) (a : Addr) : It :=
  ⟨fun i H => ∃ (xs : List V) (x : V), SqT K H a xs ∧ xs[i]? = some x, fun i H v H' => ∃ T x, v = .ref T ∧ H T = none ∧ H' = upd H T (.tup [.int (i : Nat), x]) ∧ ∀ xs, SqT K H a xs → xs[i]? = some x, fun i H => ∃ xs : List V, SqT K H a xs ∧ xs.length = i⟩
theorem turn_enumT {P : Program} {w : World} {K : PySem.W.Frag} {elts : List Expr} {kk : Nat} {tpos : Pos} (a e it : Addr) :
    Turn P w K (.Tuple elts kk tpos) (Itet K a) [e, it] e (fun i h => (∃ old, IsEnum h e it ((i : Nat) : Int) old) ∧ h.IsTupleIter it a i ∧ e ≠ it ∧ a ≠ it ∧ e ≠ a) where
  mem := by simp
  obj := fun i h st b hb => by
    obtain ⟨⟨old, he⟩, ⟨o, ho, hc, hd⟩, _⟩ := st
    rcases (show b = e ∨ b = it by simpa using hb) with rfl | rfl
    · exact ⟨_, he, fun v q => nomatch q⟩
    · exact ⟨o, ho, fun v q => by rw [hd] at q; cases q⟩
  keep := fun i h hb st k => let ⟨⟨old, he⟩, hi, far⟩ := st; ⟨⟨old, k e (by simp) _ he⟩, hi.at fun o q => k it (by simp) o q, far⟩
  item := by
    intro X hP hw hK hc i pins s σ H Ex I hf st hg
    subst hP hw hK
    obtain ⟨⟨old, he⟩, hit, hne, na, nea⟩ := st
    obtain ⟨xs, x, hq, hx⟩ := hg
    obtain ⟨its, rv, p, hz⟩ := I.tuple hq
    obtain ⟨u, hu, ru⟩ := rv.get hx
    have hel : e < s.heap.objs.size := Heap.lt_size he
    have hil : it < s.heap.objs.size := by obtain ⟨_, q, _⟩ := hit; exact Heap.lt_size q
    have hlt : i < its.toArray.size := by
      have := (List.getElem?_eq_some_iff.mp hu).1
      simpa using this
    have D := Draws.tuple (prog := X.prog) (w := X.w) (A := X.A.in1) (I.ok.hd hc) it a na its.toArray
    refine wpAny_pyNext_enum_itemD D he ⟨hit, p⟩ hlt hne (by simp [hne, nea]) fun y hb tk ey out stb eT szb kb => ?_
    have ey2 : y = u := by
      have q : its.toArray[i]? = some y := ey
      rw [List.getElem?_toArray, hu] at q
      exact (Option.some.inj q).symm
    subst ey2
    refine ⟨_, rfl, wpAny_letOwnedTupleGo_enum (s := { s with heap := hb, toks := tk + 1 }) out fun hc2 he2 sb => ?_⟩
    have eT2 : hc2.get? s.heap.objs.size = some { cls := .type "tuple", data := .seq #[.int i tk, y] } := (sb.2 _ (Nat.ne_of_gt hel)).trans eT
    have pair : ObjOk X.prog X.w (upd H s.heap.objs.size (.tup [.int (i : Nat), x])) hc2 s.heap.objs.size (.tup [.int (i : Nat), x]) := ⟨by show 2 ≤ sizeLine; decide, [.int i tk, y], .cons ⟨_, rfl⟩ (.cons ru .nil), ⟨_, eT2, rfl, _, rfl⟩⟩
    have I2 : Inv X pins σ (upd H s.heap.objs.size (.tup [.int (i : Nat), x])) { s with heap := hc2, toks := tk + 1 } :=
      I.turnedNew (ch := [e, it]) (fun b ob ne q => (sb.2 b (fun z => ne (by simp [z]))).trans (kb b ob (fun z => ne (by simp [z])) (fun z => ne (by simp [z])) q)) hf (Nat.le_refl _) pair
    refine ⟨.ref s.heap.objs.size, _, I2, rfl, ⟨_, x, rfl, I.hok.fresh (Nat.le_refl _), rfl, fun ys hy => by rw [I.tuple_inj hy hq]; exact hx⟩, ⟨⟨y, ?_⟩, stb.1.at fun o q => (sb.2 it (Ne.symm hne)).trans q, hne, na, nea⟩, fun b bm => ?_⟩
    · rw [show ((i + 1 : Nat) : Int) = (i : Int) + 1 by omega]; exact he2
    · have lt : b < s.heap.objs.size := by
        rcases (show b = e ∨ b = it by simpa using bm) with z | z
        · rw [z]; exact hel
        · rw [z]; exact hil
      rw [upd_ne (Nat.ne_of_lt lt)]
      exact (hf b bm).1
  done := by
    intro X hP hw hK hc i pins s σ H Ex I hf st hg
    subst hP hw hK
    obtain ⟨⟨old, he⟩, hit, hne, na, nea⟩ := st
    obtain ⟨xs, hq, hx⟩ := hg
    obtain ⟨its, rv, p, hz⟩ := I.tuple hq
    obtain ⟨o0, o1, o2, o3, o4, o5⟩ := hf it (by simp)
    have hl := rv.length
    have D := Draws.tuple (prog := X.prog) (w := X.w) (A := X.A.in1) (I.ok.hd hc) it a na its.toArray
    have st2 : its.toArray.size = i := by rw [List.size_toArray, ← hl, hx]
    subst hx
    rw [hl, ← List.size_toArray] at hit
    exact wpAny_pyNext_enum_endD D he ⟨hit, p⟩ fun hb eb => ⟨rfl, I.turned (t' := s.toks) (fun b o ne q => eb b o ne q) o0 o1 o3 o4 o5⟩
  self := fun A i s Q Ex st h => let ⟨⟨_, he⟩, _⟩ := st; wpAny_pyIter_enum he h
def iEnumA (K : PySem.W.Frag) (ta : TA) : TI := fun σ H R => ta σ H fun vs Ha => ∃ a, vs = [.ref a] ∧ ((∃ xs, SqL K Ha a xs ∧ R (Ite K a) Ha) ∨ (∃ xs, SqT K Ha a xs ∧ R (Itet K a) Ha))
theorem pi_enumA {X : Cx} {e : Expr} {ta : TA} {p pos tpos : Pos} {elts : List Expr} {kk : Nat} (hg : Gl X "enumerate") (hm : X.mg "enumerate" = none) (ha : PA X [e] ta) (hs : starEach [e] X.env = [(false, eval e X.env)] := by rfl) :
    PI X (.Tuple elts kk tpos) (.Call (.Name "enumerate" p) [e] [] pos) (iEnumA X.K ta) := by
  refine ⟨fun pins s σ H R I h => Call_ (ld_blt I hg hm boot_enumerate (PyProof.Rows.callWith_type1 (thn (ha.run pos pins s σ H _ I h) fun us sa ⟨vs, Ha, Ia, rs, a, ev, q⟩ => ?_) hs rfl))⟩
  subst ev
  have ea := Vals.ref1 rs
  subst ea
  have fresh2 : ∀ hb : Heap, hb.objs.size = sa.heap.objs.size + 2 → ∀ b ∈ [sa.heap.objs.size + 1, sa.heap.objs.size], FpOk X pins Ha b := fun hb _ b bm => by
    have le : sa.heap.objs.size ≤ b := by
      rcases (show b = sa.heap.objs.size + 1 ∨ b = sa.heap.objs.size by simpa using bm) with z | z <;> omega
    exact Ia.fpOk le (Ia.hok.fresh le)
  rcases q with ⟨xs, hq, q⟩ | ⟨xs, hq, q⟩
  · obtain ⟨its, rv, pl, hz⟩ := Ia.list hq
    refine enum1_begins (begins_list a its.toArray) pl.isList fun hb hE hI sz kk2 => wpAny_pyIter_enum hE ?_
    refine ⟨sa.heap.objs.size + 1, [sa.heap.objs.size + 1, sa.heap.objs.size], _, _, Ha, rfl, Ia.kept (t' := sa.toks) kk2, turn_enum a (sa.heap.objs.size + 1) sa.heap.objs.size, ⟨⟨.none, hE⟩, ⟨_, hI, rfl, rfl⟩, Nat.succ_ne_self _⟩, fresh2 hb sz, q⟩
  · obtain ⟨its, rv, pt, hz⟩ := Ia.tuple hq
    have lt : a < sa.heap.objs.size := by obtain ⟨_, z, _⟩ := pt; exact Heap.lt_size z
    refine enum1_begins (begins_tuple a its.toArray) (show sa.heap.IsTuple a its.toArray from pt) fun hb hE hI sz kk2 => wpAny_pyIter_enum hE ?_
    exact ⟨sa.heap.objs.size + 1, [sa.heap.objs.size + 1, sa.heap.objs.size], _, _, Ha, rfl, Ia.kept (t' := sa.toks) kk2, turn_enumT a (sa.heap.objs.size + 1) sa.heap.objs.size, ⟨⟨.none, hE⟩, ⟨_, hI, rfl, rfl⟩, Nat.succ_ne_self _, Nat.ne_of_lt lt, Nat.ne_of_gt (Nat.lt_succ_of_lt lt)⟩, fresh2 hb sz, q⟩
theorem walk_enumT {K : PySem.W.Frag} {a : Addr} {xs : List V} : L2.Walk (Itet K a) xs.length (fun H => SqT K H a xs) (YPair (fun i => some (.int (i : Nat))) (fun i => xs[i]?)) :=
  ⟨fun i H hi q => ⟨xs, xs[i], q, by simp [hi]⟩, fun H q => ⟨xs, q, rfl⟩, fun i H x H2 hi q y => by
    obtain ⟨T, z, e1, e2, e3, e4⟩ := y
    exact ⟨T, .int (i : Nat), z, e1, e2, e3, rfl, e4 xs q⟩⟩
end Fd
set_option Elab.async false
set_option linter.all false
set_option maxRecDepth 100000
set_option maxHeartbeats 4000000
namespace Fd
open PySem PySem.Spec PyProof.Rows L2
/-! ## an own list is changed -/
theorem own_step {K : PySem.W.Frag} {ct : Nat → Addr} {γ : G} {s : S} {H : Hp} {σ : L2.St} (R : Rep K ct γ H σ s) {k : Nat} {xs ys : List SV} (e : s.mem[k]? = some (some xs)) {us : List V} (p : Paired (RepS K ct γ s.mem.length H) us ys) :
    Step γ γ s { s with mem := s.mem.set k (some ys) } H (upd H (γ.kp k) (.lst us)) ∧ Rep K ct γ (upd H (γ.kp k) (.lst us)) σ { s with mem := s.mem.set k (some ys) } := by
  obtain ⟨vs, ek, _⟩ := R.mem k xs e
  have lk : Live s k := ⟨xs, e⟩
  have hk : k < s.mem.length := lk.lt
  have live : ∀ j, Live { s with mem := s.mem.set k (some ys) } j → Live s j := fun j ⟨zs, ez⟩ => by
    by_cases hj : k = j
    · subst hj; exact lk
    · have ez' : (s.mem.set k (some ys))[j]? = some (some zs) := ez
      rw [List.getElem?_set_ne hj] at ez'
      exact ⟨zs, ez'⟩
  have ki : KeepI H (upd H (γ.kp k) (.lst us)) := fun x u ex i => by
    rw [upd_ne]
    · exact ex
    · rintro rfl; rw [ek] at ex; cases ex; exact i
  have st : Step γ γ s { s with mem := s.mem.set k (some ys) } H (upd H (γ.kp k) (.lst us)) := by
    refine ⟨fun x u ex n => ?_, fun x z => ?_, ki, fun x z => there_upd x z, fun _ _ => rfl, by simp, rfl, fun j h1 h2 => by simp at h2; omega⟩
    · rw [upd_ne]
      · exact ex
      · rintro rfl; exact n (.inl ⟨k, lk, rfl⟩)
    · rcases z with ⟨j, lj, rfl⟩ | z
      · exact .inl (.inl ⟨j, live j lj, rfl⟩)
      · exact .inl (.inr z)
  refine ⟨st, R.len, fun i x ex => ?_, fun j zs ez => ?_, fun i j li lj => R.inj i j (live i li) (live j lj), fun h eh => ?_, fun z j lj => R.hdk z j (live j lj)⟩
  · obtain ⟨v, q, r⟩ := R.env i x ex
    exact ⟨v, q, r.mono st⟩
  · have ez' : (s.mem.set k (some ys))[j]? = some (some zs) := ez
    by_cases hj : k = j
    · subst hj
      rw [List.getElem?_set_self hk] at ez'
      cases ez'
      exact ⟨us, upd_same, RepSs.mono st p⟩
    · rw [List.getElem?_set_ne hj] at ez'
      obtain ⟨ws, q, r⟩ := R.mem j zs ez'
      refine ⟨ws, ?_, RepSs.mono st r⟩
      rw [upd_ne]
      · exact q
      · exact fun z => hj (R.inj j k ⟨zs, ez'⟩ lk z).symm
  · refine RepHd.mono (fun b u q hb => ?_) ki (R.hd h eh)
    rw [upd_ne]
    · exact q
    · rintro rfl
      have := R.hdk (by rw [show s.hd = some h from eh]; exact fun z => by cases z) k lk
      rcases hb with z | z
      · exact this.1 z
      · exact this.2 z

section
variable {X : Cx} {ct : Nat → Addr} {W : WX} {pos p apos : Pos} {a b c e o i : Expr} {m mo mi ma mb mc : M RV}
/-- x.append(e) on an own list -/
def appM (mo me : M RV) : M RV := bnd mo fun x => match x with
  | .sv (.ref k) => fun s0 => match s0.mem[k]? with
    | some (some _) => bnd me (fun y => match y with
      | .sv d => fun s => match s.mem[k]? with
        | some (some xs) => if xs.length < 100000 then .ok RN { s with mem := s.mem.set k (some (xs ++ [d])) } else .bad
        | _ => .bad
      | _ => stuck) s0
    | _ => .bad
  | _ => stuck
theorem ed_append (ho : ED X ct W o mo) (he : ED X ct W e m) (hs : starEach [e] X.env = [(false, eval e X.env)] := by rfl) (hbase : attributeBase o "append" X.env (eval o X.env) = eval o X.env := by rfl) (hline : (apos.endLine == pos.line) = true := by rfl)
    (hfew : ((backTo pos (starEach [e] X.env)).all (fun x => !x.1) && (backToKw pos (keywordEach [] X.env)).all (fun x => x.1.isSome) && decide ([e].length + ([] : List Keyword).length + (if ([] : List Keyword).isEmpty then 0 else 1) < 30)) = true := by rfl) :
    ED X ct W (.Call (.Attribute o "append" apos) [e] [] pos) (appM mo m) := by
  obtain ⟨to, po, ro⟩ := ho.ex
  obtain ⟨te, pe, re⟩ := he.ex
  refine ⟨_, pe_bm PySem.F.plainAttrs_list PySem.F.slot_list_append PySem.F.type_list_append mt_append po (pa_cons pe pa_nil hs) hbase hfew hline hs rfl, fun σ H γ s Q R h => ?_⟩
  refine ro σ H γ s _ R (use_e h (fun _ _ z => z) fun x s1 v γ1 H1 t1 R1 q1 g => ?_)
  split at g
  · rename_i k
    have q1' : k < s1.mem.length ∧ v = .ref (γ1.kp k) := q1
    obtain ⟨hk, rfl⟩ := q1'
    split at g
    · rename_i xs0 e0
      obtain ⟨vs0, ek0, _⟩ := R1.mem k xs0 e0
      refine ⟨.inl ⟨rfl, vs0, SqL.of ek0⟩, ?_⟩
      refine re σ H1 γ1 s1 _ R1 (use_e (Good.step t1 g) (fun _ _ z => z) fun y s2 w γ2 H2 t2 R2 q2 g2 => ?_)
      cases y with
      | new _ => exact False.elim g2
      | sv d =>
        dsimp only at g2
        cases e1 : s2.mem[k]? with
        | none => simp only [e1] at g2; exact False.elim g2
        | some ox =>
          cases ox with
          | none => simp only [e1] at g2; exact False.elim g2
          | some xs =>
            simp only [e1] at g2
            by_cases cl : xs.length < 100000
            · rw [if_pos cl] at g2
              obtain ⟨vs, ek, pr⟩ := R2.mem k xs e1
              have kp : γ2.kp k = γ1.kp k := t2.kp k hk
              obtain ⟨st, R3⟩ := own_step R2 e1 (RepDs.appendS pr (.cons q2 .nil))
              rw [kp] at st R3 ek
              exact ⟨_, vs, w, rfl, rfl, ek, by rw [Paired.length pr]; exact Nat.lt_of_lt_of_le cl (by decide), g2 _ γ2 _ (t2.trans st) R3 RepD.non⟩
            · rw [if_neg cl] at g2; exact False.elim g2
    · exact False.elim g
  · exact False.elim g
/-- x[i] = v on an own list -/
def setIx (x : RV) (j : RV) (d : SV) : M Unit := match x, j with
  | .sv (.ref k), .sv (.dat (.int n)) => fun s => match s.mem[k]? with
    | some (some xs) => match ixN xs.length n with
      | some q => .ok () { s with mem := s.mem.set k (some (xs.set q d)) }
      | none => .bad
    | _ => .bad
  | _, _ => stuck
def subG (mo mi : M RV) (d : SV) : M Unit := fun s => match mo s with
  | .ok x s1 => match mi s1 with
    | .ok j s2 => setIx x j d s2
    | _ => .bad
  | _ => .bad
theorem paired_set {α β : Type} {F : α → β → Prop} : ∀ {l : List α} {m : List β} {q : Nat} {u : α} {v : β}, Paired F l m → F u v → Paired F (l.set q u) (m.set q v)
  | _, _, _, _, _, .nil, _ => .nil
  | _, _, 0, _, _, .cons r t, h => .cons h t
  | _, _, q + 1, _, _, .cons r t, h => .cons r (paired_set t h)
theorem gd_sub (ho : ED X ct WF o mo) (hi : ED X ct WF i mi) (ha : ∀ v, assign (.Subscript o i pos) X.env v = (do
      let ov ← holding [v] (eval o X.env)
      let iv ← holding [v, ov] (eval i X.env)
      standAt pos
      holding [v, ov, iv] (setItem ov iv v)
      release [v, ov, iv] []) := by intros; rfl) : GD X ct (.Subscript o i pos) [] (subG mo mi) := by
  obtain ⟨to, po, ro⟩ := ho.ex
  obtain ⟨ti, pi, ri⟩ := hi.ex
  refine ⟨_, pg_sub po pi set_list ha, fun σ H γ s v d Q R q h => ?_⟩
  unfold subG at h
  refine ro σ H γ s _ R ?_
  unfold Good
  cases e1 : mo s with
  | bad => rw [e1] at h; exact False.elim h
  | exc z s1 => rw [e1] at h; exact False.elim h
  | ok x s1 =>
    rw [e1] at h
    intro ov γ1 H1 t1 R1 q1
    refine ri σ H1 γ1 s1 _ R1 ?_
    unfold Good
    dsimp only at h
    cases e2 : mi s1 with
    | bad => rw [e2] at h; exact False.elim h
    | exc z s2 => rw [e2] at h; exact False.elim h
    | ok j s2 =>
      rw [e2] at h
      intro iv γ2 H2 t2 R2 q2
      dsimp only at h
      unfold setIx at h
      split at h
      · rename_i k n
        split at h
        · rename_i xs e3
          split at h
          · rename_i jj e4
            have q1' : k < s1.mem.length ∧ ov = .ref (γ1.kp k) := q1
            obtain ⟨hk, rfl⟩ := q1'
            obtain ⟨vs, ek, pr⟩ := R2.mem k xs e3
            have kp : γ2.kp k = γ1.kp k := t2.kp k hk
            have tt := t1.trans t2
            obtain ⟨st, R3⟩ := own_step R2 e3 (paired_set (q := jj) pr (q.mono tt))
            rw [kp] at st R3 ek
            exact ⟨_, vs, n, jj, rfl, rep_int q2, ek, by rw [Paired.length pr]; exact e4, h σ γ2 _ (tt.trans st) R3 (fun _ _ => rfl) rfl⟩
          · exact False.elim h
        · exact False.elim h
      · exact False.elim h
/-- list * int -/
def repLM : RV → RV → M RV
  | .new xs, .sv (.dat (.int n)) => fun s => if 0 ≤ n ∧ n ≤ 1000 ∧ xs.length ≤ 100 then .ok (.new (List.replicate n.toNat xs).flatten) s else .bad
  | _, _ => stuck
theorem paired_app {α β : Type} {F : α → β → Prop} {l l2 : List α} {m m2 : List β} (h : Paired F l m) (k : Paired F l2 m2) : Paired F (l ++ l2) (m ++ m2) := by
  induction h with
  | nil => exact k
  | cons r t ih => exact .cons r ih
theorem paired_rep {α β : Type} {F : α → β → Prop} {l : List α} {m : List β} (h : Paired F l m) : ∀ n : Nat, Paired F (List.replicate n l).flatten (List.replicate n m).flatten
  | 0 => .nil
  | n + 1 => by rw [List.replicate_succ, List.flatten_cons, List.replicate_succ, List.flatten_cons]; exact paired_app h (paired_rep h n)
theorem repLM_ok : BinOk X ct rRep repLM := by
  intro W σ γ s H Ha Hb x y r1 r2 Q R q1 q2 h
  unfold repLM at h
  split at h
  · rename_i xs n
    by_cases cc : 0 ≤ n ∧ n ≤ 1000 ∧ xs.length ≤ 100
    · rw [if_pos cc] at h
      obtain ⟨a, vs, rfl, e0, ea, na, p⟩ := q1
      have hl := Paired.length p
      have hm : vs.length * n.toNat ≤ 100 * 1000 := Nat.mul_le_mul (by omega) (by omega)
      exact ⟨a, n, vs, rfl, rep_int q2, ea, by omega, by omega, Nat.le_trans hm (by decide), good_new R (paired_rep p _) h⟩
    · rw [if_neg cc] at h; exact False.elim h
  · exact False.elim h
theorem ed_repL (ha : ED X ct W a ma) (hb : ED X ct W b mb) : ED X ct W (.BinOp a .Mult b pos) (m2 ma mb repLM) := ed_bin op_rep repLM_ok ha hb
end
end Fd
set_option Elab.async false
set_option linter.all false
set_option maxRecDepth 100000
set_option maxHeartbeats 4000000
namespace Fd
open PySem PySem.Spec PyProof.Rows L2
section
variable {X : Cx} {ct : Nat → Addr} {W : WX} {pos p : Pos} {a b c e tg : Expr} {m ma mb mc : M RV}
/-! ## a op b op c -/
def chainM (f g : RV → RV → M RV) (ma mb mc : M RV) : M RV := bnd ma fun x => bnd mb fun y => bnd (f x y) fun z => bnd (asB z) fun k => if k = true then bnd mc (fun w => g y w) else pur (RB false)
theorem chain_sem {r r' : R2} {f g : RV → RV → M RV} (hf : BinOk X ct r f) (hg : BinOk X ct r' g) {ta tb tc : TE} (ra : ∀ σ H γ s Q, Rep X.K ct γ H σ s → Good X.K ct W σ γ s H (ma s) Q → ta σ H Q) (rb : ∀ σ H γ s Q, Rep X.K ct γ H σ s → Good X.K ct W σ γ s H (mb s) Q → tb σ H Q) (rc : ∀ σ H γ s Q, Rep X.K ct γ H σ s → Good X.K ct W σ γ s H (mc s) Q → tc σ H Q)
    {σ : L2.St} {H : Hp} {γ : G} {s : S} {Q : VK} (R : Rep X.K ct γ H σ s) (h : Good X.K ct W σ γ s H (chainM f g ma mb mc s) Q) : tChain r r' ta tb tc σ H Q := by
  refine ra σ H γ s _ R (use_e h (fun _ _ z => z) fun x s1 v γ1 H1 t1 R1 q1 g1 => ?_)
  refine rb σ H1 γ1 s1 _ R1 (use_e (Good.step t1 g1) (fun _ _ z => z) fun y s2 u γ2 H2 t2 R2 q2 g2 => ?_)
  refine hf W σ γ2 s2 H2 _ _ v u x y _ R2 (q1.mono t2) q2 (use_e (Good.step t2 g2) (fun _ _ z => z) fun z s3 w γ3 H3 t3 R3 q3 g3 => ?_)
  unfold asB at g3
  split at g3
  · rename_i k
    refine ⟨k, rep_bl q3, ?_⟩
    cases k with
    | true =>
      rw [if_pos rfl]
      have g4 : Good X.K ct W σ γ2 s2 H2 (bnd mc (fun w => g y w) s3) Q := g3
      refine rc σ H3 γ3 s3 _ R3 (use_e (Good.step t3 g4) (fun _ _ z => z) fun z s4 w' γ4 H4 t4 R4 q4 g5 => ?_)
      exact hg W σ γ4 s4 H4 _ _ u w' y z _ R4 ((q2.mono t3).mono t4) q4 (Good.step t4 g5)
    | false =>
      rw [if_neg (by decide)]
      exact g3 (.bl false) γ3 H3 t3 R3 (repB _)
  · exact False.elim g3
theorem ed_chain {o1 o2 : CmpOp} {r r' : R2} {f g : RV → RV → M RV} (h1 : OpR X (compareOp o1) r) (h2 : OpR X (compareOp o2) r') (hf : BinOk X ct r f) (hg : BinOk X ct r' g) (ha : ED X ct W a ma) (hb : ED X ct W b mb) (hc : ED X ct W c mc)
    (hm : lastMarks [o1, o2] [b, c] = false := by with_unfolding_all rfl) : ED X ct W (.Compare a [o1, o2] [b, c] pos) (chainM f g ma mb mc) := by
  obtain ⟨ta, pa, ra⟩ := ha.ex
  obtain ⟨tb, pb, rb⟩ := hb.ex
  obtain ⟨tc, pc, rc⟩ := hc.ex
  exact ⟨_, pe_chain h1 h2 pa pb pc hm, fun σ H γ s Q R h => chain_sem hf hg ra rb rc R h⟩
theorem td_chain {o1 o2 : CmpOp} {r r' : R2} {f g : RV → RV → M RV} (h1 : OpR X (compareOp o1) r) (h2 : OpR X (compareOp o2) r') (hf : BinOk X ct r f) (hg : BinOk X ct r' g) (ha : ED X ct W a ma) (hb : ED X ct W b mb) (hc : ED X ct W c mc)
    (hm : lastMarks [o1, o2] [b, c] = false := by with_unfolding_all rfl) : TD X ct W (.Compare a [o1, o2] [b, c] pos) (bnd (chainM f g ma mb mc) asB) := by
  obtain ⟨ta, pa, ra⟩ := ha.ex
  obtain ⟨tb, pb, rb⟩ := hb.ex
  obtain ⟨tc, pc, rc⟩ := hc.ex
  refine ⟨_, pt_chain h1 h2 pa pb pc hm, fun σ H γ s Q R h => ?_⟩
  have h' : Good X.K ct W σ γ s H (chainM f g ma mb mc s) (fun x H' => ∃ k, x = .bl k ∧ Q k H') := use_e h (fun _ _ z => z) fun r s1 v γ1 H1 t1 R1 r1 g => by
    unfold asB at g
    split at g
    · exact ⟨_, rep_bl r1, g γ1 H1 t1 R1⟩
    · exact False.elim g
  exact chain_sem hf hg ra rb rc R h'
theorem ltOk : BinOk X ct (rI0 fun i j => .bl (decide (i < j))) ltM := int2_ok fun i j _ _ _ _ _ => repB _
theorem leOk : BinOk X ct (rI0 fun i j => .bl (decide (i ≤ j))) leM := int2_ok fun i j _ _ _ _ _ => repB _
/-! ## enumerate -/
def enumF : Nat → List D → List SV
  | _, [] => []
  | i, d :: r => .dat (.tup [.int (i : Nat), d]) :: enumF (i + 1) r
theorem enumF_len : ∀ (ds : List D) (i : Nat), (enumF i ds).length = ds.length
  | [], _ => rfl
  | d :: r, i => by unfold enumF; simp [enumF_len r]
theorem enumF_at : ∀ (ds : List D) (k i : Nat) (y : SV), (enumF k ds)[i]? = some y → ∃ d, ds[i]? = some d ∧ y = .dat (.tup [.int ((k + i : Nat) : Int), d])
  | [], k, i, y, h => by simp [enumF] at h
  | d :: r, k, 0, y, h => by
    simp [enumF] at h
    exact ⟨d, rfl, h.symm⟩
  | d :: r, k, i + 1, y, h => by
    simp [enumF] at h
    obtain ⟨d', e1, e2⟩ := enumF_at r (k + 1) i y h
    exact ⟨d', by simpa using e1, by rw [e2, show k + 1 + i = k + (i + 1) by omega]⟩
def enumM : List RV → M Src
  | [.sv (.dat (.tup ds))] => pur ⟨enumF 0 ds, none⟩
  | [.sv (.dat (.lst ds))] => pur ⟨enumF 0 ds, none⟩
  | [.new xs] => match datL xs with
    | some ds => pur ⟨enumF 0 ds, none⟩
    | none => stuck
  | _ => stuck
theorem pair_rep {K : PySem.W.Frag} {ct : Nat → Addr} {γ : G} {s : S} {H : Hp} {vs : List V} {ds : List D} {i : Nat} {x : V} {H2 : Hp} {y : SV} (p : RepDs K ct H vs ds) (e : (enumF 0 ds)[i]? = some y) (h : YPair (fun i => some (.int (i : Nat))) (fun i => vs[i]?) i H x H2) : Same H H2 ∧ RepS K ct γ s.mem.length H2 x y := by
  obtain ⟨d, e1, rfl⟩ := enumF_at ds 0 i y e
  obtain ⟨T, u, z, rfl, hT, rfl, e2, e3⟩ := h
  obtain ⟨v, ev, rv⟩ := p.get e1
  have ez : vs[i]? = some z := e3
  rw [ev] at ez; cases ez
  cases e2
  refine ⟨fun a o ha => by rw [upd_ne (ne_of_none ha hT)]; exact ha, ?_⟩
  rw [Nat.zero_add]
  exact RepD.tup (SqT.of upd_same) (.cons (.int _) (.cons (RepD.mono (keepI_new hT) rv) .nil))
theorem walkD_enumL {K : PySem.W.Frag} {γ : G} {s : S} {H : Hp} {a : Addr} {vs : List V} {ds : List D} (h : ∀ γ1 s1 H1, Step γ γ1 s s1 H H1 → SqL K H1 a vs) (p : RepDs K ct H vs ds) : WalkD K ct (Ite K a) ⟨enumF 0 ds, none⟩ γ s H := by
  refine ⟨_, _, by rw [show (Src.mk (enumF 0 ds) none).items.length = vs.length by show (enumF 0 ds).length = _; rw [enumF_len, p.length]]; exact walk_enum (xs := vs), fun γ1 s1 H1 σ1 st R1 _ => h γ1 s1 H1 st, ?_⟩
  rintro i γ1 s1 H1 σ1 x H2 y st R1 ok e yy
  exact pair_rep (RepDs.mono st.imm p) e yy
theorem walkD_enumT {K : PySem.W.Frag} {γ : G} {s : S} {H : Hp} {a : Addr} {vs : List V} {ds : List D} (h : SqT K H a vs) (p : RepDs K ct H vs ds) : WalkD K ct (Itet K a) ⟨enumF 0 ds, none⟩ γ s H := by
  refine ⟨_, _, by rw [show (Src.mk (enumF 0 ds) none).items.length = vs.length by show (enumF 0 ds).length = _; rw [enumF_len, p.length]]; exact walk_enumT (xs := vs), fun γ1 s1 H1 σ1 st R1 _ => sqT_mono st.imm h, ?_⟩
  rintro i γ1 s1 H1 σ1 x H2 y st R1 ok e yy
  exact pair_rep (RepDs.mono st.imm p) e yy
variable {mB : M (List RV)} {elts : List Expr} {kk : Nat} {tpos : Pos}
theorem id_enum (hg : Gl X "enumerate") (hm : X.mg "enumerate" = none) (ha : BD X ct W [a] mB) (hs : starEach [a] X.env = [(false, eval a X.env)] := by rfl) : ID X ct W (.Tuple elts kk tpos) (.Call (.Name "enumerate" p) [a] [] pos) (bnd mB enumM) := by
  obtain ⟨t, pt, r⟩ := ha.ex
  refine ⟨_, pi_enumA hg hm pt hs, fun σ H γ s R0 R h => ?_⟩
  refine r σ H γ s _ R (Out.post.imp (post_bnd h) (fun xs s1 g vs γ1 H1 t1 R1 q1 => ?_) fun _ _ z => z)
  unfold enumM at g
  split at g
  · rename_i ds
    cases q1 with
    | cons q1 q2 =>
      cases q2
      obtain ⟨p1, vs1, rfl, h1, w1⟩ := tup_rep q1
      exact ⟨p1, rfl, .inr ⟨vs1, h1, g γ1 H1 _ t1 R1 (walkD_enumT h1 w1)⟩⟩
  · rename_i ds
    cases q1 with
    | cons q1 q2 =>
      cases q2
      have q' : RepD X.K ct H1 _ (.lst ds) := q1
      cases q' with
      | lst hq w1 => exact ⟨_, rfl, .inl ⟨_, hq.sq, g γ1 H1 _ t1 R1 (walkD_enumL (fun γ2 s2 H2 st => (hq.mono st.imm).sq) w1)⟩⟩
  · rename_i xs
    cases e1 : datL xs with
    | none => rw [e1] at g; exact False.elim g
    | some ds =>
      rw [e1] at g
      cases q1 with
      | cons q1 q2 =>
        cases q2
        obtain ⟨a, vs, rfl, e0, ea, na, rp⟩ := q1
        exact ⟨a, rfl, .inl ⟨vs, SqL.of ea, g γ1 H1 _ t1 R1 (walkD_enumL (fun γ2 s2 H2 st => SqL.of (st.keep a _ ea na)) (datL_rep e1 rp))⟩⟩
  · exact False.elim g
/-! ## range(i, j, -1) -/
def downL (i : Int) (n : Nat) : List SV := (List.range n).map fun k => .dat (.int (i + (k : Nat) * (-1)))
noncomputable def rng3 : List RV → M Src
  | [.sv (.dat (.int i)), .sv (.dat (.int j)), .sv (.dat (.int c))] => fun s => ifC (c = -1 ∧ -(2 ^ 62) ≤ i ∧ i < 2 ^ 62 ∧ -(2 ^ 62) ≤ j ∧ j < 2 ^ 62) (.ok ⟨downL i (i - j).toNat, none⟩ s) .bad
  | _ => stuck
theorem walkD_down {K : PySem.W.Frag} {γ : G} {s : S} {H : Hp} {lo : Int} {n : Nat} : WalkD K ct (Itc lo (-1) n) ⟨downL lo n, none⟩ γ s H := by
  refine ⟨_, _, by rw [show (Src.mk (downL lo n) none).items.length = n by simp [downL]]; exact walk_rangeC, fun _ _ _ _ _ _ _ => trivial, ?_⟩
  rintro i γ1 s1 H1 σ1 x H2 y st R1 ok e ⟨rfl, rfl⟩
  have e' : ((List.range n).map fun k => (SV.dat (.int (lo + (k : Nat) * (-1)))))[i]? = some y := e
  rw [List.getElem?_map] at e'
  by_cases hi : i < n
  · rw [List.getElem?_range hi] at e'
    cases e'
    exact ⟨Same.refl _, RepD.int _⟩
  · rw [List.getElem?_eq_none (by simpa using hi)] at e'
    cases e'
theorem id_range3 (hg : Gl X "range") (hm : X.mg "range" = none) (ha : BD X ct W [a, b, c] mB) (hs : starEach [a, b, c] X.env = (false, eval a X.env) :: starEach [b, c] X.env := by rfl) (hpl : (backTo pos (starEach [b, c] X.env)).any (·.1) = false := by rfl) : ID X ct W tg (.Call (.Name "range" p) [a, b, c] [] pos) (bnd mB rng3) := by
  obtain ⟨t, pt, r⟩ := ha.ex
  refine ⟨_, pi_range3 hg hm pt hs hpl, fun σ H γ s R0 R h => ?_⟩
  refine r σ H γ s _ R (Out.post.imp (post_bnd h) (fun xs s1 g vs γ1 H1 t1 R1 q1 => ?_) fun _ _ z => z)
  unfold rng3 at g
  split at g
  · rename_i i j k
    cases q1 with
    | cons q1 q2 =>
      cases q2 with
      | cons q2 q3 =>
        cases q3 with
        | cons q3 q4 =>
          cases q4
          by_cases cc : k = -1 ∧ -(2 ^ 62) ≤ i ∧ i < 2 ^ 62 ∧ -(2 ^ 62) ≤ j ∧ j < 2 ^ 62
          · rw [ifC_pos cc] at g
            obtain ⟨rfl, c1, c2, c3, c4⟩ := cc
            exact ⟨i, j, -1, _, by rw [rep_int q1, rep_int q2, rep_int q3], RgC.neg c1 c2 c3 c4, g γ1 H1 _ t1 R1 walkD_down⟩
          · rw [ifC_neg cc] at g; exact False.elim g
  · exact False.elim g
/-! ## max(xs), min(xs) -/
def intsL : List SV → Option (List Int)
  | [] => some []
  | .dat (.int i) :: r => match intsL r with
    | some is => some (i :: is)
    | none => none
  | _ => none
def maxL : List Int → Int
  | [] => 0
  | [x] => x
  | x :: y :: r => if maxL (y :: r) ≤ x then x else maxL (y :: r)
def minL : List Int → Int
  | [] => 0
  | [x] => x
  | x :: y :: r => if x ≤ minL (y :: r) then x else minL (y :: r)
theorem maxL_is : ∀ {l : List Int}, l ≠ [] → maxL l ∈ l ∧ ∀ y ∈ l, y ≤ maxL l
  | [x], _ => by simp [maxL]
  | x :: y :: r, _ => by
    obtain ⟨h1, h2⟩ := maxL_is (l := y :: r) (by simp)
    unfold maxL
    split
    · rename_i c
      refine ⟨by simp, fun z hz => ?_⟩
      rcases List.mem_cons.mp hz with e | e
      · omega
      · have := h2 z e; omega
    · rename_i c
      refine ⟨List.mem_cons_of_mem _ h1, fun z hz => ?_⟩
      rcases List.mem_cons.mp hz with e | e
      · omega
      · exact h2 z e
theorem minL_is : ∀ {l : List Int}, l ≠ [] → minL l ∈ l ∧ ∀ y ∈ l, minL l ≤ y
  | [x], _ => by simp [minL]
  | x :: y :: r, _ => by
    obtain ⟨h1, h2⟩ := minL_is (l := y :: r) (by simp)
    unfold minL
    split
    · rename_i c
      refine ⟨by simp, fun z hz => ?_⟩
      rcases List.mem_cons.mp hz with e | e
      · omega
      · have := h2 z e; omega
    · rename_i c
      refine ⟨List.mem_cons_of_mem _ h1, fun z hz => ?_⟩
      rcases List.mem_cons.mp hz with e | e
      · omega
      · exact h2 z e
theorem intsL_rep {K : PySem.W.Frag} {γ : G} {n : Nat} {H : Hp} : ∀ {xs : List SV} {is : List Int} {vs : List V}, intsL xs = some is → Paired (RepS K ct γ n H) vs xs → vs = is.map V.int := by
  intro xs
  induction xs with
  | nil => intro is vs e h; cases h; cases e; rfl
  | cons x xs ih =>
    intro is vs e h
    cases h with
    | cons q t =>
      cases x with
      | ref k => cases e
      | hand => cases e
      | dat d =>
        cases d with
        | int i =>
          unfold intsL at e
          cases e1 : intsL xs with
          | none => rw [e1] at e; cases e
          | some js =>
            rw [e1] at e
            cases e
            have q' : RepD K ct H _ (.int i) := q
            cases q'
            rw [ih e1 t]; rfl
        | _ => cases e
def maxM : List RV → M RV
  | [x] => fun s => match seqL s x with
    | some xs => match intsL xs with
      | some is => if is.isEmpty = true then .bad else .ok (RI (maxL is)) s
      | none => .bad
    | none => .bad
  | _ => stuck
def minM : List RV → M RV
  | [x] => fun s => match seqL s x with
    | some xs => match intsL xs with
      | some is => if is.isEmpty = true then .bad else .ok (RI (minL is)) s
      | none => .bad
    | none => .bad
  | _ => stuck
theorem maxM_ok : CallOk X ct (rMax X.K) maxM := by
  intro W σ γ s H Ha vs rs Q R q h
  unfold maxM at h
  split at h
  · rename_i x
    cases q with
    | cons q1 q2 =>
      cases q2
      split at h
      · rename_i xs e1
        split at h
        · rename_i is e2
          by_cases c : is.isEmpty = true
          · rw [if_pos c] at h; exact False.elim h
          · rw [if_neg c] at h
            obtain ⟨a, us, rfl, hq, pr⟩ := seqL_rep R e1 q1
            have eu := intsL_rep e2 pr
            subst eu
            have ne : is ≠ [] := fun z => c (by rw [z]; rfl)
            refine ⟨a, is, rfl, hq, List.length_pos_iff.mpr ne, fun m h1 h2 => ?_⟩
            obtain ⟨m1, m2⟩ := maxL_is ne
            have : m = maxL is := by have := h2 _ m1; have := m2 _ h1; omega
            rw [this]
            exact h _ γ H Step.refl R (repI _)
        · exact False.elim h
      · exact False.elim h
  · exact False.elim h
theorem minM_ok : CallOk X ct (rMin X.K) minM := by
  intro W σ γ s H Ha vs rs Q R q h
  unfold minM at h
  split at h
  · rename_i x
    cases q with
    | cons q1 q2 =>
      cases q2
      split at h
      · rename_i xs e1
        split at h
        · rename_i is e2
          by_cases c : is.isEmpty = true
          · rw [if_pos c] at h; exact False.elim h
          · rw [if_neg c] at h
            obtain ⟨a, us, rfl, hq, pr⟩ := seqL_rep R e1 q1
            have eu := intsL_rep e2 pr
            subst eu
            have ne : is ≠ [] := fun z => c (by rw [z]; rfl)
            refine ⟨a, is, rfl, hq, List.length_pos_iff.mpr ne, fun m h1 h2 => ?_⟩
            obtain ⟨m1, m2⟩ := minL_is ne
            have : m = minL is := by have := h2 _ m1; have := m2 _ h1; omega
            rw [this]
            exact h _ γ H Step.refl R (repI _)
        · exact False.elim h
      · exact False.elim h
  · exact False.elim h
/-! ## list(range(..)) -/
noncomputable def lrM (x y : RV) : M RV := match x, y with
  | .sv (.dat (.int i)), .sv (.dat (.int j)) => fun s => ifC (-(2 ^ 62) ≤ i ∧ i < 2 ^ 62 ∧ -(2 ^ 62) ≤ j ∧ j < 2 ^ 62 ∧ (j - i).toNat ≤ 100000) (.ok (.new (rangeL i (j - i).toNat)) s) .bad
  | _, _ => stuck
theorem rangeL_rep {K : PySem.W.Frag} {γ : G} {n : Nat} {H : Hp} {i j : Int} : Paired (RepS K ct γ n H) (rgV i j) (rangeL i (j - i).toNat) := by
  unfold rgV rangeL
  generalize List.range (j - i).toNat = l
  induction l with
  | nil => exact .nil
  | cons x l ih => exact .cons (RepD.int _) ih
theorem ed_listRg {p2 pos2 : Pos} (calm : X.calm = true) (hg : Gl X "list") (hm : X.mg "list" = none) (hgr : Gl X "range") (hmr : X.mg "range" = none) (ha : ED X ct W a ma) (hb : ED X ct W b mb)
    (na : starEach [.Call (.Name "range" p2) [a, b] [] pos2] X.env = (false, eval (.Call (.Name "range" p2) [a, b] [] pos2) X.env) :: starEach [] X.env := by rfl)
    (n1 : starEach [a, b] X.env = (false, eval a X.env) :: starEach [b] X.env := by rfl) (n2 : starEach [b] X.env = (false, eval b X.env) :: starEach [] X.env := by rfl) (hp : (backTo pos2 (starEach [b] X.env)).any (·.1) = false := by rfl) :
    ED X ct W (.Call (.Name "list" p) [.Call (.Name "range" p2) [a, b] [] pos2] [] pos) (m2 ma mb lrM) := by
  obtain ⟨ta, pa, ra⟩ := ha.ex
  obtain ⟨tb, pb, rb⟩ := hb.ex
  refine ⟨_, pe_listRg calm hg hm (prg_2 hgr hmr pa pb n1 n2 hp) na, fun σ H γ s Q R h => ?_⟩
  refine ra σ H γ s _ R (use_e h (fun _ _ z => z) fun x s1 v γ1 H1 t1 R1 q1 g1 => ?_)
  refine rb σ H1 γ1 s1 _ R1 (use_e (Good.step t1 g1) (fun _ _ z => z) fun y s2 u γ2 H2 t2 R2 q2 g2 => ?_)
  unfold lrM at g2
  split at g2
  · rename_i i j
    by_cases cc : -(2 ^ 62) ≤ i ∧ i < 2 ^ 62 ∧ -(2 ^ 62) ≤ j ∧ j < 2 ^ 62 ∧ (j - i).toNat ≤ 100000
    · rw [ifC_pos cc] at g2
      exact ⟨i, j, rep_int q1, rep_int q2, ⟨cc.1, cc.2.1, cc.2.2.1, cc.2.2.2.1, Nat.le_trans cc.2.2.2.2 (by decide)⟩, good_new R2 rangeL_rep (Good.step t2 g2)⟩
    · rw [ifC_neg cc] at g2; exact False.elim g2
  · exact False.elim g2
end
end Fd
set_option Elab.async false
set_option linter.all false
set_option maxRecDepth 100000
set_option maxHeartbeats 4000000
namespace Fd
open PySem PySem.Spec PyProof.Rows L2
/-! ## return (n.f, n.g) in an except clause -/
def fieldsH2 (f g : Str) (x : Exn) : M Fl := match x.fs.lookup f, x.fs.lookup g with
  | some d, some e => pur (.rt (RT [d, e]))
  | _, _ => stuck
section
variable {X : Cx} {ct : Nat → Addr} {W : WX}
theorem hd_field2 {c i k2 : Nat} {n f g : Str} {np np2 p2 p4 p3 pt : Pos} {C : Addr} (hct : ct c = C) (T : XfC X.K C) (hf0 : PySem.W.findIn X.K (.ref C) f = some none) (hg0 : PySem.W.findIn X.K (.ref C) g = some none)
    (hp : ∀ a oe pn, PE (X.suite a ((a, oe) :: pn)) (.Name n np) (tVar i)) (hp2 : ∀ a oe pn, PE (X.suite a ((a, oe) :: pn)) (.Name n np2) (tVar i))
    (hb : attributeBase (.Name n np) f X.env (eval (.Name n np) X.env) = eval (.Name n np) X.env := by rfl) (hb2 : attributeBase (.Name n np2) g X.env (eval (.Name n np2) X.env) = eval (.Name n np2) X.env := by rfl)
    (s1 : starEach [.Attribute (.Name n np) f p2, .Attribute (.Name n np2) g p4] X.env = (false, eval (.Attribute (.Name n np) f p2) X.env) :: starEach [.Attribute (.Name n np2) g p4] X.env := by rfl)
    (s2 : starEach [.Attribute (.Name n np2) g p4] X.env = (false, eval (.Attribute (.Name n np2) g p4) X.env) :: starEach [] X.env := by rfl) :
    HD X ct c i [.Return (some (.Tuple [.Attribute (.Name n np) f p2, .Attribute (.Name n np2) g p4] k2 pt)) p3] (fieldsH2 f g) := by
  refine ⟨fun a oe cls d pn hz hf => ⟨_, pss_one (ps_ret (pe_tup (pa_cons (pe_xf T hf0 hz hf (hp a oe pn) hb) (pa_cons (pe_xf T hg0 hz hf (hp2 a oe pn) hb2) pa_nil s2) s1))), fun N σ H γ s x R hσ hx hxc q => ?_⟩⟩
  unfold fieldsH2 at q
  cases e : x.fs.lookup f with
  | none => simp only [e] at q; exact False.elim q
  | some df =>
    cases e0 : x.fs.lookup g with
    | none => simp only [e, e0] at q; exact False.elim q
    | some dg =>
      simp only [e, e0] at q
      obtain ⟨e1, e2⟩ := hx
      rcases e2 with ⟨e3, _⟩ | ⟨dx, fs, e3, e4, e5, e6⟩
      · rw [e3] at e; cases e
      · obtain ⟨v, lv, rv⟩ := lookup_rep e5 e6 e
        obtain ⟨u, lu, ru⟩ := lookup_rep e5 e6 e0
        refine ⟨_, hσ, rfl, by rw [e1, hxc, hct], dx, fs, v, e3, e4, lv, _, hσ, rfl, by rw [e1, hxc, hct], dx, fs, u, e3, e4, lu, by show 2 ≤ sizeLine; decide, fun p hp => ?_⟩
        exact q (.ref p) σ γ _ (Step.laid hp) (R.laid hp) (RepD.tup (SqT.of upd_same) (.cons (RepD.mono (keepI_new hp) rv) (.cons (RepD.mono (keepI_new hp) ru) .nil)))
end
/-! ## {k: v} as data -/
def tLk (t : TE) : TE := fun σ H Q => t σ H fun v H1 => ∃ a u, v = .ref a ∧ H1 a = some u ∧ Mut (some u) ∧ ∀ o, Q v (upd H1 a (.frz o u))
theorem pe_lk {X : Cx} {e : Expr} {t : TE} (h : PE X e t) : PE X e (tLk t) := ⟨fun pins s σ H Q I hw =>
  thn (h.run pins s σ H _ I hw) fun w s1 ⟨v, H1, I1, r1, a, u, ev, ea, mu, q⟩ => by
    subst ev
    obtain ⟨o, I2⟩ := I1.lock ea mu
    exact ⟨_, _, I2, r1, q o⟩⟩
/-- an object that is new and not owned is changed -/
theorem updN {K : PySem.W.Frag} {ct : Nat → Addr} {γ γ0 : G} {s s0 : S} {H H0 : Hp} {σ : L2.St} {a : Addr} {o u : HO} (R : Rep K ct γ H σ s) (t : Step γ0 γ s0 s H0 H) (e : H a = some o) (ni : ¬ Imm o) (n0 : H0 a = none) (no : ¬ Own γ s a) :
    KeepI H (upd H a u) ∧ Step γ0 γ s0 s H0 (upd H a u) ∧ Rep K ct γ (upd H a u) σ s := by
  have ki : KeepI H (upd H a u) := fun x w ex i => by
    rw [upd_ne]
    · exact ex
    · rintro rfl; rw [e] at ex; cases ex; exact ni i
  have m1 : ∀ {v x}, RepS K ct γ s.mem.length H v x → RepS K ct γ s.mem.length (upd H a u) v x := fun {v x} r => by
    cases x with
    | dat d => exact RepD.mono ki r
    | ref k => exact r
    | hand => exact r
  refine ⟨ki, ⟨fun x w ex n => ?_, t.own, fun x w ex i => ?_, fun x z => there_upd x (t.there x z), t.kp, t.len, t.ah, t.fresh⟩, R.len, fun i x ex => ?_, fun k xs ex => ?_, R.inj, fun h ex => ?_, R.hdk⟩
  · rw [upd_ne (ne_of_none ex n0)]; exact t.keep x w ex n
  · rw [upd_ne (ne_of_none ex n0)]; exact t.imm x w ex i
  · obtain ⟨v, q, r⟩ := R.env i x ex
    exact ⟨v, q, m1 r⟩
  · obtain ⟨us, q, r⟩ := R.mem k xs ex
    refine ⟨us, ?_, Paired.mapP r fun _ _ z => m1 z⟩
    rw [upd_ne]
    · exact q
    · rintro rfl; exact no (.inl ⟨k, ⟨xs, ex⟩, rfl⟩)
  · refine RepHd.mono (fun b w q hb => ?_) ki (R.hd h ex)
    rw [upd_ne]
    · exact q
    · rintro rfl; exact no (.inr ⟨by rw [ex]; exact (fun z => by cases z), hb⟩)
def keyM : RV → Option Key
  | .sv (.dat (.int i)) => some (.inl i)
  | .sv (.dat (.str z)) => some (.inr z)
  | _ => none
def dct1M (mk mv : M RV) : M RV := bnd mk fun x => bnd mv fun y => match keyM x, y with
  | some k, .sv (.dat d) => pur (RD (.dct [(k, d)]))
  | _, _ => stuck
section
variable {X : Cx} {ct : Nat → Addr} {W : WX} {pos : Pos} {k v : Expr} {mk mv : M RV}
theorem ed_dct1 (hk : ED X ct W k mk) (hv : ED X ct W v mv) : ED X ct W (.Dict [some k] [v] pos) (dct1M mk mv) := by
  obtain ⟨tk, pk, rk⟩ := hk.ex
  obtain ⟨tv, pv, rv⟩ := hv.ex
  refine ⟨_, pe_lk (pe_disp (pps_cons pk pv pps_nil) rfl rfl (by simp) (by simp)), fun σ H γ s Q R h p hp => ?_⟩
  have R0 := R.laid (o := .dK []) hp
  have t0 : Step γ γ s s H (upd H p (.dK [])) := Step.laid hp
  refine rk σ _ γ s _ R0 (Out.post.imp (post_bnd h) (fun x s1 g1 u γ1 H1 t1 R1 q1 => ?_) fun x s1 z => GoodX.step t0 z)
  refine rv σ H1 γ1 s1 _ R1 (Out.post.imp (post_bnd g1) (fun y s2 g2 w γ2 H2 t2 R2 q2 => ?_) fun x s2 z => GoodX.step (t0.trans t1) z)
  have t12 := t1.trans t2
  have tt := t0.trans t12
  have no0 : ¬ Own γ s p := R.notOwn_free hp
  have ep : H2 p = some (.dK []) := t12.keep p _ upd_same no0
  have no1 : ∀ z, Own γ2 s2 z → z ≠ p := fun z hz e => by
    rw [e] at hz
    rcases t12.own p hz with q3 | q3
    · exact no0 q3
    · rw [upd_same] at q3; cases q3
  have no2 : ¬ Own γ2 s2 p := fun z => no1 p z rfl
  cases ek : keyM x with
  | none => rw [ek] at g2; exact False.elim g2
  | some kk =>
    rw [ek] at g2
    have key : u = kV kk := by
      unfold keyM at ek
      split at ek
      · cases ek; exact rep_int q1
      · cases ek; exact rep_str q1
      · cases ek
    cases y with
    | new _ => exact False.elim g2
    | sv yv =>
      cases yv with
      | ref _ => exact False.elim g2
      | hand => exact False.elim g2
      | dat d =>
        refine ⟨ep, [(kk, w)], by rw [key]; rfl, by simp, ?_⟩
        have e3 : mergeK [] [(kk, w)] = [(kk, w)] := rfl
        rw [e3]
        refine ⟨p, .dK [(kk, w)], rfl, upd_same, True.intro, fun o => ?_⟩
        rw [upd_upd]
        obtain ⟨ki, st, R3⟩ := updN (u := .frz o (.dK [(kk, w)])) R2 tt ep (fun z => z) hp no2
        exact g2 (.ref p) γ2 _ st R3 (show RepD X.K ct _ (.ref p) (.dct [(kk, d)]) from .dct upd_same rfl (.cons (RepD.mono ki q2) .nil))
end
/-! ## own len -/
structure OkL (P : Program) (w : World) (K : PySem.W.Frag) (mg : Str → Option Value) (base : Heap) (ct : Nat → Addr) (c0 k : Nat) (F : List D → Res) : Prop where
  ex : ∃ (f : Addr) (fd : FuncData) (ps : List Str), PySem.W.findIn K (.ref (ct c0)) "__len__" = some (some (.ref f)) ∧ PySem.W.isFn K (.ref f) = true ∧ FnOk P w K mg base (L2.CX P w) k f fd ps (spP K ct 1 F) ∧ Binds K fd ps []
section
variable {X : Cx} {ct : Nat → Addr} {W : WX} {c0 k : Nat} {F : List D → Res}
def rLenI (K : PySem.W.Frag) (ct : Nat → Addr) (c0 : Nat) (F : List D → Res) : List V → Hp → VK → Prop := fun xs H Q => ∃ a dx fs ds, xs = [.ref a] ∧ H a = some (.ins (ct c0) dx fs) ∧ RepDs K ct H xs ds ∧ ∃ n : Int, F ds = .ret (.dat (.int n)) ∧ 0 ≤ n ∧ n < 2 ^ 63 ∧ ∀ H', Same H H' → Q (.int n) H'
theorem call_lenI (O : OkL X.prog X.w X.K X.mg X.base ct c0 k F) (hr : Room (k + 1) X.A) : CallR X (.builtin "len") (rLenI X.K ct c0 F) := by
  intro pins s σ H xs us Q I r h
  obtain ⟨a, dx, fs, ds, rfl, ea, rp, n, en, n0, n1, q⟩ := h
  obtain ⟨f, fd, ps, hs, hf, FK, hb⟩ := O.ex
  have eu := Vals.ref1 r
  subst eu
  obtain ⟨mA, J0, _⟩ := ins_get I.hok ea
  obtain ⟨od, J, _⟩ := J0.look
  obtain ⟨m, hF⟩ := I.fr
  refine PySem.W.len_K hF I.ok.mod.kin J hs hf ?_
  have sp : spP X.K ct 1 F [.ref a] H (fun z H' => z = .int n ∧ Same H H') (WE WF σ) := ⟨rfl, ds, rp, by rw [en]; exact fun z H' k r => ⟨by cases r; rfl, k⟩⟩
  refine wpAny_mono (run_okAt (vs := [.ref a]) (us := [.ref a]) FK hr.in1 I.env0.in1 hb (passAt takes0 σ) I (.cons (show RelV (.ref a) (.ref a) from rfl) .nil) sp) (fun w s' z => ?_) fun _ _ x => x
  obtain ⟨z', H', I', rz, rfl, kk⟩ := z
  obtain ⟨t, rfl⟩ := rz
  exact ⟨⟨n0, n1⟩, V.int n, H', I'.tok _, ⟨_, rfl⟩, q H' kk⟩
noncomputable def lenOwnM (c0 : Nat) (F : List D → Res) : List RV → M RV
  | [.sv (.dat (.obj c ds))] => fun s => if c = c0 then match F [.obj c ds] with
    | .ret (.dat (.int n)) => ifC (0 ≤ n ∧ n < 2 ^ 62) (.ok (RI n) s) .bad
    | _ => .bad
    else .bad
  | _ => stuck
theorem lenOwnM_ok : CallOk X ct (rLenI X.K ct c0 F) (lenOwnM c0 F) := by
  intro W σ γ s H Ha vs rs Q R q h
  unfold lenOwnM at h
  split at h
  · rename_i c ds
    cases q with
    | cons q1 q2 =>
      cases q2
      by_cases cc : c = c0
      · rw [if_pos cc] at h
        subst cc
        have q1' : RepD X.K ct H _ (.obj c ds) := q1
        cases q1' with
        | obj ea nz en rp =>
          split at h
          · rename_i n e
            by_cases c2 : 0 ≤ n ∧ n < 2 ^ 62
            · rw [ifC_pos c2] at h
              exact ⟨_, _, _, _, rfl, ea, .cons (.obj ea nz en rp) .nil, n, e, c2.1, by omega, fun H' k => h _ γ H' (step_same k) (R.kept k) (repI _)⟩
            · rw [ifC_neg c2] at h; exact False.elim h
          · exact False.elim h
      · rw [if_neg cc] at h; exact False.elim h
  · exact False.elim h
end
/-! ## defs of classes -/
structure MthT (K : PySem.W.Frag) (ct : Nat → Addr) (c : Nat) (m q : Str) (st : Stmt) (dvs : List V) : Prop where
  ex : ∃ (f : Addr) (fd : FuncData), Meth K (ct c) m f ∧ FunD K m q (defArgs st) (defBody st) (defScope st) dvs [] f fd
structure MkT (K : PySem.W.Frag) (mg : Str → Option Value) (ct : Nat → Addr) (c : Nat) (x : Str) : Prop where
  makes : PySem.W.makesIn K (ct c) = true
  kp : PySem.W.keepIn K (.ref (ct c)) = true
  mg : mg x = some (.ref (ct c))
section
variable {P : Program} {w : World} {K : PySem.W.Frag} {mg : Str → Option Value} {base : Heap} {ct : Nat → Addr} {c k : Nat} {mn q x : Str} {st : Stmt} {N ps : List Str} {m : M Fl}
theorem okM (T : MthT K ct c mn q st []) (S : FnScope N ps (defScope st))
    (hbd : ∀ (kV doc pm : Value) (an : Option Addr) (cdv ct : Value) (us : List Value), us.length = ps.length → bindArgs (PySem.W.fnOf mn q (defArgs st) (defBody st) (defScope st) .none kV doc pm an cdv ct) ⟨us, []⟩ = pure (ps.zip us))
    (hb : ∀ (f : Addr) (cdv : Value) (A : Around) (outer : List Env) (s : Shared) (H : Hp) (E : XK), Room k (A.deeper (envOfC q (defScope st) s.heap.objs.size f cdv)) →
      SDs (cxOf (L2.CX P w) P w K mg base N q (defScope st) f cdv A outer s H E) ct (fun cls d _ H => E cls d H) (defBody st) m) : OkM P w K mg base ct c mn ps.length (k + 1) (runP N.length m) [] := by
  obtain ⟨f, fd, hm, F⟩ := T.ex
  exact ⟨f, fd, ps, [], [], rfl, hm, fnP F S (hb f), F.bindsN hbd, .nil, fun _ => .nil⟩
theorem okI (T : MthT K ct c "__init__" q st []) (M : MkT K mg ct c x) (S : FnScope N ps (defScope st)) {n : Nat} (hn : ps.length = n + 1)
    (hbd : ∀ (kV doc pm : Value) (an : Option Addr) (cdv ct : Value) (us : List Value), us.length = ps.length → bindArgs (PySem.W.fnOf "__init__" q (defArgs st) (defBody st) (defScope st) .none kV doc pm an cdv ct) ⟨us, []⟩ = pure (ps.zip us))
    (hb : ∀ (f : Addr) (cdv : Value) (A : Around) (outer : List Env) (s : Shared) (H : Hp) (E : XK), Room k (A.deeper (envOfC q (defScope st) s.heap.objs.size f cdv)) →
      SDs (cxOf (L2.CX P w) P w K mg base N q (defScope st) f cdv A outer s H E) ct (fun cls d _ H => E cls d H) (defBody st) m) : OkI P w K mg base ct x c n (k + 1) (runI N.length c m) [] := by
  obtain ⟨f, fd, hm, F⟩ := T.ex
  exact ⟨f, fd, ps, [], [], ⟨M.makes, hm.at_, hm.fn, M.kp⟩, M.mg, fnI F S hn (hb f), F.bindsN hbd, .nil, fun _ => .nil⟩
theorem okE (T : MthT K ct c "__eq__" q st []) (ne : PySem.W.findIn K (.ref (ct c)) "__ne__" = some (some (.builtin "object.__ne__"))) (S : FnScope N ps (defScope st)) (h2 : ps.length = 2)
    (hbd : ∀ (kV doc pm : Value) (an : Option Addr) (cdv ct : Value) (us : List Value), us.length = ps.length → bindArgs (PySem.W.fnOf "__eq__" q (defArgs st) (defBody st) (defScope st) .none kV doc pm an cdv ct) ⟨us, []⟩ = pure (ps.zip us))
    (hb : ∀ (f : Addr) (cdv : Value) (A : Around) (outer : List Env) (s : Shared) (H : Hp) (E : XK), Room k (A.deeper (envOfC q (defScope st) s.heap.objs.size f cdv)) →
      SDs (cxOf (L2.CX P w) P w K mg base N q (defScope st) f cdv A outer s H E) ct (fun cls d _ H => E cls d H) (defBody st) m) : OkE P w K mg base ct c (k + 1) (runP N.length m) := by
  obtain ⟨f, fd, hm, F⟩ := T.ex
  exact ⟨⟨f, fd, ps, hm.at_, hm.fn, by have := fnP F S (hb f); rwa [h2] at this, F.bindsN hbd⟩, ne⟩
theorem okLen (T : MthT K ct c "__len__" q st []) (S : FnScope N ps (defScope st)) (h1 : ps.length = 1)
    (hbd : ∀ (kV doc pm : Value) (an : Option Addr) (cdv ct : Value) (us : List Value), us.length = ps.length → bindArgs (PySem.W.fnOf "__len__" q (defArgs st) (defBody st) (defScope st) .none kV doc pm an cdv ct) ⟨us, []⟩ = pure (ps.zip us))
    (hb : ∀ (f : Addr) (cdv : Value) (A : Around) (outer : List Env) (s : Shared) (H : Hp) (E : XK), Room k (A.deeper (envOfC q (defScope st) s.heap.objs.size f cdv)) →
      SDs (cxOf (L2.CX P w) P w K mg base N q (defScope st) f cdv A outer s H E) ct (fun cls d _ H => E cls d H) (defBody st) m) : OkL P w K mg base ct c (k + 1) (runP N.length m) := by
  obtain ⟨f, fd, hm, F⟩ := T.ex
  exact ⟨f, fd, ps, hm.at_, hm.fn, by have := fnP F S (hb f); rwa [h1] at this, F.bindsN hbd⟩
/-- the bottom of a def that calls itself -/
theorem okBad (T : FnT K mg x st []) (S : FnScope N ps (defScope st))
    (hbd : ∀ (kV doc pm : Value) (an : Option Addr) (cdv ct : Value) (us : List Value), us.length = ps.length → bindArgs (PySem.W.fnOf x x (defArgs st) (defBody st) (defScope st) .none kV doc pm an cdv ct) ⟨us, []⟩ = pure (ps.zip us)) : OkP P w K mg base ct x ps.length (k + 1) (fun _ => .bad) [] := by
  obtain ⟨f, fd, hm, F⟩ := T.ex
  refine ⟨f, fd, ps, [], [], rfl, hm, F.kp, F.ok (k := k) S (fun vs H Q E h => h.1) fun cdv A outer s H vs Q E hr h => ?_, F.bindsN hbd, .nil, fun _ => .nil⟩
  obtain ⟨_, ds, _, g⟩ := h
  exact False.elim g
end
end Fd
set_option Elab.async false
set_option linter.all false
set_option maxRecDepth 100000
set_option maxHeartbeats 4000000
namespace Fd
open PySem PySem.Spec PyProof.Rows L2
/-! ## an own list as an argument: locked for the call alone -/
mutual
def D.noL : D → Bool
  | .lst _ => false
  | .tup ds => D.noLs ds
  | .obj _ fs => D.noLf fs
  | .dct kds => D.noLd kds
  | _ => true
def D.noLs : List D → Bool
  | [] => true
  | d :: ds => d.noL && D.noLs ds
def D.noLf : List (Str × D) → Bool
  | [] => true
  | (_, d) :: ds => d.noL && D.noLf ds
def D.noLd : List (Key × D) → Bool
  | [] => true
  | (_, d) :: ds => d.noL && D.noLd ds
end
theorem noLf_map : ∀ fs : List (Str × D), D.noLf fs = D.noLs (fs.map (·.2))
  | [] => by simp [D.noLf, D.noLs]
  | (_, d) :: r => by simp [D.noLf, D.noLs, noLf_map r]
theorem noLd_map : ∀ fs : List (Key × D), D.noLd fs = D.noLs (fs.map (·.2))
  | [] => by simp [D.noLd, D.noLs]
  | (_, d) :: r => by simp [D.noLd, D.noLs, noLd_map r]
section
variable {K : PySem.W.Frag} {ct : Nat → Addr} {H : Hp} {a : Addr} {o : Obj} {ws : List V}
mutual
theorem RepD.unlk (e : H a = some (.frz o (.lst ws))) : ∀ {v : V} {d : D}, RepD K ct H v d → d.noL = true → RepD K ct (upd H a (.lst ws)) v d
  | _, _, .non, _ => .non
  | _, _, .bl b, _ => .bl b
  | _, _, .int i, _ => .int i
  | _, _, .str x, _ => .str x
  | _, _, .tup h r, n => by
    have ne : ∀ b u, H b = some u → (∀ xs, u ≠ .frz o (.lst xs)) → upd H a (.lst ws) b = some u := fun b u eb nu => by
      rw [upd_ne]
      · exact eb
      · rintro rfl; rw [e] at eb; exact nu ws (Option.some.inj eb).symm
    refine .tup ?_ (RepDs.unlk e r (by simpa [D.noL] using n))
    rcases h with (h | ⟨ob, h⟩) | h
    · exact .inl (.inl (ne _ _ h fun xs z => by cases z))
    · exact .inl (.inr ⟨ob, ne _ _ h fun xs z => by cases z⟩)
    · exact .inr h
  | _, _, .lst h r, n => by simp [D.noL] at n
  | _, _, .obj h z q r, n => by
    have h2 : upd H a (.lst ws) _ = some _ := (upd_ne (fun y => by rw [y, e] at h; cases h)).trans h
    exact .obj h2 z q (RepDs.unlk e r (by rw [← noLf_map]; simpa [D.noL] using n))
  | _, _, .dct h q r, n => by
    have h2 : upd H a (.lst ws) _ = some _ := (upd_ne (fun y => by rw [y, e] at h; cases h)).trans h
    exact .dct h2 q (RepDs.unlk e r (by rw [← noLd_map]; simpa [D.noL] using n))
theorem RepDs.unlk (e : H a = some (.frz o (.lst ws))) : ∀ {vs : List V} {ds : List D}, RepDs K ct H vs ds → D.noLs ds = true → RepDs K ct (upd H a (.lst ws)) vs ds
  | _, _, .nil, _ => .nil
  | _, _, .cons r t, n => by
    rw [D.noLs, Bool.and_eq_true] at n
    exact .cons (RepD.unlk e r n.1) (RepDs.unlk e t n.2)
end
end
/-- the state while the own list k is locked as the data es -/
def frzS (k : Nat) (es : List D) (s : S) : S := { s with mem := s.mem.set k none, env := s.env.map (substR k es) }
theorem frz_step {K : PySem.W.Frag} {ct : Nat → Addr} {γ : G} {s : S} {H : Hp} {σ : L2.St} (R : Rep K ct γ H σ s) {k : Nat} {xs : List SV} {es : List D} (e : s.mem[k]? = some (some xs)) (ed : datL xs = some es) (o : Obj) : ∃ vs, H (γ.kp k) = some (.lst vs) ∧ RepDs K ct H vs es ∧
    Step γ γ s (frzS k es s) H (upd H (γ.kp k) (.frz o (.lst vs))) ∧ Rep K ct γ (upd H (γ.kp k) (.frz o (.lst vs))) σ (frzS k es s) := by
  obtain ⟨vs, ek, rp⟩ := R.mem k xs e
  refine ⟨vs, ek, datL_rep ed rp, ?_⟩
  have lk : Live s k := ⟨xs, e⟩
  have hk := lk.lt
  have live : ∀ j, Live (frzS k es s) j → Live s j ∧ j ≠ k := fun j ⟨ys, ey⟩ => by
    have ey' : (s.mem.set k none)[j]? = some (some ys) := ey
    by_cases hj : k = j
    · subst hj
      rw [List.getElem?_set_self hk] at ey'; cases ey'
    · rw [List.getElem?_set_ne hj] at ey'
      exact ⟨⟨ys, ey'⟩, fun z => hj z.symm⟩
  have ki : KeepI H (upd H (γ.kp k) (.frz o (.lst vs))) := fun x u ex i => by
    rw [upd_ne]
    · exact ex
    · rintro rfl; rw [ek] at ex; cases ex; exact i
  have st : Step γ γ s (frzS k es s) H (upd H (γ.kp k) (.frz o (.lst vs))) := by
    refine ⟨fun x u ex n => ?_, fun x z => ?_, ki, fun x z => there_upd x z, fun _ _ => rfl, by simp [frzS], rfl, fun j h1 h2 => by simp [frzS] at h2; omega⟩
    · rw [upd_ne]
      · exact ex
      · rintro rfl; exact n (.inl ⟨k, lk, rfl⟩)
    · rcases z with ⟨j, lj, rfl⟩ | z
      · exact .inl (.inl ⟨j, (live j lj).1, rfl⟩)
      · exact .inl (.inr z)
  have dk : RepD K ct (upd H (γ.kp k) (.frz o (.lst vs))) (.ref (γ.kp k)) (.lst es) := .lst ⟨o, upd_same⟩ (RepDs.mono ki (datL_rep ed rp))
  refine ⟨st, by simpa [frzS] using R.len, fun i x ex => ?_, fun j ys ey => ?_, fun i j li lj => R.inj i j (live i li).1 (live j lj).1, fun h eh => ?_, fun z j lj => R.hdk z j (live j lj).1⟩
  · have ex' : (s.env.map (substR k es))[i]? = some (some x) := ex
    rw [List.getElem?_map] at ex'
    cases e3 : s.env[i]? with
    | none => rw [e3] at ex'; cases ex'
    | some y =>
      rw [e3] at ex'
      have ex2 : substR k es y = some x := Option.some.inj ex'
      cases y with
      | none => cases ex2
      | some y =>
        obtain ⟨v, q, r⟩ := R.env i y e3
        refine ⟨v, q, ?_⟩
        cases y with
        | dat d => cases ex2; exact RepD.mono ki r
        | hand => cases ex2; exact r
        | ref j =>
          unfold substR at ex2
          obtain ⟨r1, rfl⟩ := r
          by_cases hj : j = k
          · simp only [hj, if_true] at ex2
            cases ex2
            rw [hj]
            exact dk
          · simp only [hj, if_false] at ex2
            cases ex2
            exact ⟨by simpa [frzS] using r1, rfl⟩
  · obtain ⟨lj, nj⟩ := live j ⟨ys, ey⟩
    have ey' : (s.mem.set k none)[j]? = some (some ys) := ey
    rw [List.getElem?_set_ne (Ne.symm nj)] at ey'
    obtain ⟨us, q, r⟩ := R.mem j ys ey'
    refine ⟨us, ?_, Paired.mapP r fun _ _ z => z.mono st⟩
    rw [upd_ne]
    · exact q
    · exact fun z => nj (R.inj j k lj lk z)
  · have eh' : s.hd = some h := eh
    refine RepHd.mono (fun b u q hb => ?_) ki (R.hd h eh')
    rw [upd_ne]
    · exact q
    · rintro rfl
      have := R.hdk (by rw [eh']; exact fun z => by cases z) k lk
      rcases hb with z | z
      · exact this.1 z
      · exact this.2 z
def noLX : SV → Bool
  | .dat d => d.noL
  | _ => true
/-- all other own lists hold no lists -/
def calmMem (k : Nat) (mem : List (Option (List SV))) : Prop := ∀ j ys, j ≠ k → mem[j]? = some (some ys) → ∀ y ∈ ys, noLX y = true
open Classical in
noncomputable def lockM (i : Nat) (m : M RV) : M RV := fun s => match s.env[i]? with
  | some (some (.ref k)) => match s.mem[k]? with
    | some (some xs) => match datL xs with
      | some es => match m (frzS k es s) with
        | .ok (.sv (.dat d)) s2 => if s2 = frzS k es s ∧ d.noL = true ∧ calmMem k s.mem ∧ (∀ c fs, s.hd ≠ some (.me c fs)) then .ok (RD d) s else .bad
        | _ => .bad
      | none => .bad
    | _ => .bad
  | _ => m s
section
variable {X : Cx} {ct : Nat → Addr} {W : WX} {e : Expr} {m : M RV}
theorem ed_lock (i : Nat) (h : ED X ct W e m) : ED X ct W e (lockM i m) := by
  obtain ⟨t, p, r⟩ := h.ex
  have pl := pe_lock p
  refine ⟨fun σ H Q => t σ H Q ∨ tLockE t σ H Q, ⟨fun pins s σ H Q I q => q.elim (p.run pins s σ H Q I) (pl.run pins s σ H Q I)⟩, fun σ H γ s Q R g => ?_⟩
  unfold lockM at g
  split at g
  · rename_i k e1
    split at g
    · rename_i xs e2
      split at g
      · rename_i es e3
        right
        obtain ⟨vs, ek, re, _⟩ := frz_step R e2 e3 default
        refine ⟨γ.kp k, .lst vs, ek, True.intro, fun o => ?_⟩
        obtain ⟨vs', ek', _, st, R2⟩ := frz_step R e2 e3 o
        rw [ek] at ek'; cases ek'
        refine r σ _ γ _ _ R2 ?_
        unfold Good
        split at g
        · rename_i d s2 e4
          rw [e4]
          split at g
          · rename_i cc
            obtain ⟨c1, c2, c3, c4⟩ := cc
            intro v γ' H' t' R' q'
            subst c1
            have eL : H' (γ.kp k) = some (.frz o (.lst vs)) := t'.imm _ _ upd_same True.intro
            have lk : Live s k := ⟨xs, e2⟩
            refine ⟨eL, ?_⟩
            have back : ∀ a u, H a = some u → a ≠ γ.kp k → upd H (γ.kp k) (.frz o (.lst vs)) a = some u := fun a u ea ne => by rw [upd_ne ne]; exact ea
            have hg : s.mem.length = (frzS k es s).mem.length := by simp [frzS]
            have kpk : ∀ j, j < s.mem.length → γ'.kp j = γ.kp j := fun j hj => t'.kp j (by rw [← hg]; exact hj)
            have liveF : ∀ j, Live s j → j ≠ k → Live (frzS k es s) j := fun j ⟨ys, ey⟩ ne => ⟨ys, by show (s.mem.set k none)[j]? = _; rw [List.getElem?_set_ne (Ne.symm ne)]; exact ey⟩
            have nn : s.hd ≠ none → γ.kp k ≠ γ'.ah ∧ γ.kp k ≠ γ'.g := fun nh => by
              have h0 := R.hdk nh k lk
              refine ⟨by rw [t'.ah]; exact h0.1, fun z => ?_⟩
              rcases t'.own γ'.g (.inr ⟨nh, .inr rfl⟩) with q | q
              · rcases q with ⟨j, lj, ej⟩ | ⟨_, q⟩
                · have lj' : Live s j ∧ j ≠ k := by
                    obtain ⟨ys, ey⟩ := lj
                    have ey' : (s.mem.set k none)[j]? = some (some ys) := ey
                    by_cases hj : k = j
                    · subst hj; rw [List.getElem?_set_self lk.lt] at ey'; cases ey'
                    · rw [List.getElem?_set_ne hj] at ey'; exact ⟨⟨ys, ey'⟩, Ne.symm hj⟩
                  exact lj'.2 (R.inj j k lj'.1 lk (ej.trans z.symm))
                · rcases q with q | q
                  · exact h0.1 (z.trans q)
                  · exact h0.2 (z.trans q)
              · rw [← z, upd_same] at q; cases q
            have st2 : Step γ γ' s s H (upd H' (γ.kp k) (.lst vs)) := by
              refine ⟨fun a u ea no => ?_, fun a z => ?_, fun a u ea im => ?_, fun a z => ?_, kpk, Nat.le_refl _, t'.ah, fun j h1 h2 => absurd h2 (Nat.not_lt.mpr h1)⟩
              · have ne : a ≠ γ.kp k := fun z => no (.inl ⟨k, lk, z.symm⟩)
                rw [upd_ne ne]
                refine t'.keep a u (back a u ea ne) fun z => no ?_
                rcases z with ⟨j, ⟨ys, ey⟩, ej⟩ | z
                · have ey' : (s.mem.set k none)[j]? = some (some ys) := ey
                  by_cases hj : k = j
                  · subst hj; rw [List.getElem?_set_self lk.lt] at ey'; cases ey'
                  · rw [List.getElem?_set_ne hj] at ey'; exact .inl ⟨j, ⟨ys, ey'⟩, ej⟩
                · exact .inr z
              · rcases z with ⟨j, lj, ej⟩ | ⟨nh, z⟩
                · exact .inl (.inl ⟨j, lj, by rw [← kpk j lj.lt]; exact ej⟩)
                · rcases t'.own a (.inr ⟨nh, z⟩) with q | q
                  · left
                    rcases q with ⟨j, ⟨ys, ey⟩, ej⟩ | q
                    · have ey' : (s.mem.set k none)[j]? = some (some ys) := ey
                      by_cases hj : k = j
                      · subst hj; rw [List.getElem?_set_self lk.lt] at ey'; cases ey'
                      · rw [List.getElem?_set_ne hj] at ey'; exact .inl ⟨j, ⟨ys, ey'⟩, ej⟩
                    · exact .inr q
                  · right
                    cases ea : H a with
                    | none => rfl
                    | some u =>
                      by_cases ne : a = γ.kp k
                      · rw [ne, upd_same] at q; cases q
                      · rw [back a u ea ne] at q; cases q
              · have ne : a ≠ γ.kp k := fun z => by rw [z, ek] at ea; cases ea; exact im
                rw [upd_ne ne]
                exact t'.imm a u (back a u ea ne) im
              · by_cases ne : a = γ.kp k
                · rw [ne, upd_same]; exact fun z => by cases z
                · rw [upd_ne ne]
                  exact t'.there a (by rw [upd_ne ne]; exact z)
            refine g v γ' _ st2 ⟨R.len, fun j x ex => ?_, fun j ys ey => ?_, fun a b la lb eab => R.inj a b la lb (by rw [← kpk a la.lt, ← kpk b lb.lt]; exact eab), fun hh eh => ?_, fun nh j lj => ?_⟩ (RepD.unlk eL q' c2)
            · obtain ⟨w, q, rr⟩ := R.env j x ex
              exact ⟨w, q, rr.mono st2⟩
            · by_cases hj : j = k
              · subst hj
                rw [e2] at ey; cases ey
                obtain ⟨us, eu, ru⟩ := R.mem j xs e2
                rw [ek] at eu; cases eu
                exact ⟨vs, by rw [kpk j lk.lt, upd_same], RepSs.mono st2 ru⟩
              · have lj : Live s j := ⟨ys, ey⟩
                have ey' : (frzS k es s).mem[j]? = some (some ys) := by show (s.mem.set k none)[j]? = _; rw [List.getElem?_set_ne (Ne.symm hj)]; exact ey
                obtain ⟨us, eu, ru⟩ := R'.mem j ys ey'
                have ne : γ'.kp j ≠ γ.kp k := by rw [kpk j lj.lt]; exact fun z => hj (R.inj j k lj lk z)
                refine ⟨us, by rw [upd_ne ne]; exact eu, ?_⟩
                have all := c3 j ys hj ey
                clear eu ey ey'
                induction ru with
                | nil => exact .nil
                | cons r1 r2 ih =>
                  refine .cons ?_ (ih fun y hy => all y (by simp [hy]))
                  rename_i w y _ _
                  have ny := all y (by simp)
                  cases y with
                  | dat d2 => exact RepD.unlk eL r1 ny
                  | ref k2 => exact ⟨by rw [hg]; exact r1.1, r1.2⟩
                  | hand => exact r1
            · have q2 := R'.hd hh eh
              have nh : s.hd ≠ none := by rw [eh]; exact fun z => by cases z
              obtain ⟨n1, n2⟩ := nn nh
              cases hh with
              | hand h0 => exact HandAt.mono (fun a u ea hb => by
                  rw [upd_ne]
                  · exact ea
                  · rintro rfl; rcases hb with z | z
                    · exact n1 z
                    · exact n2 z) q2
              | me c fs => exact absurd eh (c4 c fs)
            · rw [kpk j lj.lt]
              by_cases hj : j = k
              · subst hj; exact nn nh
              · have := R'.hdk nh j (liveF j lj hj)
                rw [kpk j lj.lt] at this
                exact this
          · exact False.elim g
        · exact False.elim g
      · exact False.elim g
    · exact False.elim g
  · exact .inl (r σ H γ s Q R g)
end
end Fd
set_option Elab.async false
set_option linter.all false
set_option maxRecDepth 100000
set_option maxHeartbeats 4000000
namespace Fd
open PySem PySem.Spec PyProof.Rows L2
/-- a new list becomes the state's own -/
theorem own_new {K : PySem.W.Frag} {ct : Nat → Addr} {γ γ1 : G} {s s1 : S} {H H1 : Hp} {σ : L2.St} {xs : List SV} {v : V} (t1 : Step γ γ1 s s1 H H1) (R1 : Rep K ct γ1 H1 σ s1) (r1 : RepR K ct γ1 s1 H H1 v (.new xs)) :
    ∃ γ2, Step γ γ2 s { s1 with mem := s1.mem ++ [some xs] } H H1 ∧ Rep K ct γ2 H1 σ { s1 with mem := s1.mem ++ [some xs] } ∧ RepS K ct γ2 (s1.mem ++ [some xs]).length H1 v (.ref s1.mem.length) := by
  obtain ⟨a, vs, rfl, e0, ea, na, rp⟩ := r1
  let γ2 : G := { γ1 with kp := fun j => if j = s1.mem.length then a else γ1.kp j }
  let s2 : S := { s1 with mem := s1.mem ++ [some xs] }
  have kp1 : ∀ k, k < s1.mem.length → γ2.kp k = γ1.kp k := fun k h => if_neg (Nat.ne_of_lt h)
  have kp2 : γ2.kp s1.mem.length = a := if_pos rfl
  have live : ∀ k, Live s2 k → (Live s1 k ∧ γ2.kp k = γ1.kp k) ∨ (k = s1.mem.length ∧ γ2.kp k = a) := fun k ⟨ys, ey⟩ => by
    have ey' : (s1.mem ++ [some xs])[k]? = some (some ys) := ey
    by_cases hk : k < s1.mem.length
    · rw [List.getElem?_append_left hk] at ey'
      exact .inl ⟨⟨ys, ey'⟩, kp1 k hk⟩
    · have hk2 : k < (s1.mem ++ [some xs]).length := (List.getElem?_eq_some_iff.mp ey').1
      simp at hk2
      have : k = s1.mem.length := by omega
      exact .inr ⟨this, by rw [this]; exact kp2⟩
  have own2 : ∀ x, Own γ2 s2 x → Own γ1 s1 x ∨ x = a := fun x z => by
    rcases z with ⟨k, lk, rfl⟩ | z
    · rcases live k lk with ⟨l, q⟩ | ⟨_, q⟩
      · exact .inl (.inl ⟨k, l, q.symm⟩)
      · exact .inr q
    · exact .inl (.inr z)
  have m1 : ∀ {v x}, RepS K ct γ1 s1.mem.length H1 v x → RepS K ct γ2 s2.mem.length H1 v x := fun {v x} r => by
    cases x with
    | dat d => exact r
    | ref k => exact ⟨by show k < (s1.mem ++ [some xs]).length; have := r.1; simp; omega, by rw [kp1 k r.1]; exact r.2⟩
    | hand => exact r
  refine ⟨γ2, ⟨t1.keep, fun x z => ?_, t1.imm, t1.there, fun k hk => (kp1 k (Nat.lt_of_lt_of_le hk t1.len)).trans (t1.kp k hk), by show s.mem.length ≤ (s1.mem ++ [some xs]).length; have := t1.len; simp; omega, t1.ah, fun k h1 h2 => ?_⟩,
    ⟨R1.len, fun i x ex => ?_, fun k ys ey => ?_, fun i j li lj eij => ?_, fun h eh => R1.hd h eh, fun z k lk => ?_⟩, ⟨by show s1.mem.length < (s1.mem ++ [some xs]).length; simp, by rw [kp2]⟩⟩
  · rcases own2 x z with z | z
    · exact t1.own x z
    · rw [z]; exact .inr e0
  · have h3 : k < (s1.mem ++ [some xs]).length := h2
    simp at h3
    by_cases hk : k < s1.mem.length
    · rw [kp1 k hk]; exact t1.fresh k h1 hk
    · have : k = s1.mem.length := by omega
      rw [this, kp2]; exact e0
  · obtain ⟨v, q, r⟩ := R1.env i x ex
    exact ⟨v, q, m1 r⟩
  · have ey' : (s1.mem ++ [some xs])[k]? = some (some ys) := ey
    by_cases hk : k < s1.mem.length
    · rw [List.getElem?_append_left hk] at ey'
      obtain ⟨us, q, r⟩ := R1.mem k ys ey'
      exact ⟨us, by rw [kp1 k hk]; exact q, Paired.mapP r fun _ _ z => m1 z⟩
    · have hk2 : k < (s1.mem ++ [some xs]).length := (List.getElem?_eq_some_iff.mp ey').1
      simp at hk2
      have hk3 : k = s1.mem.length := by omega
      subst hk3
      simp at ey'
      subst ey'
      exact ⟨vs, by rw [kp2]; exact ea, Paired.mapP rp fun _ _ z => m1 z⟩
  · rcases live i li with ⟨l1, q1⟩ | ⟨l1, q1⟩ <;> rcases live j lj with ⟨l2, q2⟩ | ⟨l2, q2⟩
    · exact R1.inj i j l1 l2 (by rw [← q1, ← q2]; exact eij)
    · exact absurd (.inl ⟨i, l1, by rw [← q1, eij, q2]⟩) na
    · exact absurd (.inl ⟨j, l2, by rw [← q2, ← eij, q1]⟩) na
    · rw [l1, l2]
  · rcases live k lk with ⟨l1, q1⟩ | ⟨l1, q1⟩
    · rw [q1]; exact R1.hdk z k l1
    · rw [q1]
      exact ⟨fun y => na (.inr ⟨z, .inl y⟩), fun y => na (.inr ⟨z, .inr y⟩)⟩
section
variable {X : Cx} {ct : Nat → Addr} {W : WX} {pos : Pos} {tg : Expr}
/-- x = [..] on one line, an own list -/
noncomputable def setLcO (i : Nat) (mi : M Src) (vs : List Nat) (f : SV → M Unit) (tt : M Bool) (me : M RV) : M Fl := bnd (lcM mi vs f tt me) fun r s => match r with
  | .new xs => .ok .nx { s with mem := s.mem ++ [some xs], env := s.env.set i (some (.ref s.mem.length)) }
  | _ => .bad
theorem sd_setLcO {i : Nat} {y : Str} {py spos : Pos} {elt it : Expr} {ifs : List Expr} {scope : Scope} {own : List (Str × Nat)} {mi : M Src} {is : List Nat} {f : SV → M Unit} {mt : M Bool} {me : M RV} (hc : X.calm = true) (hN : X.N.Nodup) (hy : X.N[i]? = some y) (hyl : X.env.scope.names.lookup y = some .local)
    (hsw : swapsWith (.ListComp elt [⟨tg, it, ifs, 0⟩] scope pos) (some (.Name y py)) spos.line X.env = pure true) (hi : ID X ct W tg it mi) (ok : BlkOk X.N X.env.scope scope own) (hv : ∀ j ∈ is, j ∈ own.map (·.2))
    (hg : ∀ (s : Shared) (H : Hp) (C : Addr) (cl : List (Str × Addr)) (fp : List Addr), GD (X.blk s H scope (compEnvC scope cl C X.env) fp) ct tg is f) (ht : ∀ (s : Shared) (H : Hp) (C : Addr) (cl : List (Str × Addr)) (fp : List Addr), IfsD (X.blk s H scope (compEnvC scope cl C X.env) fp) ct ifs mt)
    (he : ∀ (s : Shared) (H : Hp) (C : Addr) (cl : List (Str × Addr)) (fp : List Addr), ED (X.blk s H scope (compEnvC scope cl C X.env) fp) ct WF elt me) (hs : ∀ x, foldedSetIterable it X.env x = pure x := by intro _; rfl) :
    SD X ct W (.Assign [.Name y py] (.ListComp elt [⟨tg, it, ifs, 0⟩] scope pos) spos) (setLcO i mi (own.map (·.2)) f mt me) := by
  obtain ⟨wi, pi, ri⟩ := hi.ex
  refine ⟨_, ps_setLc (g := tmG X.K ct is f) (tt := tmT X.K ct WF mt) (te := tmE X.K ct WF me) hc hN hy hyl hsw pi ok (fun s H C cl fp => (hg s H C cl fp).pg) (fun s H C cl fp => (ht s H C cl fp).pts) (fun s H C cl fp => (he s H C cl fp).pe) hs, fun N σ H γ s R h => ?_⟩
  show tLc wi (tmG X.K ct is f) (tmT X.K ct WF mt) (tmE X.K ct WF me) (own.map (·.2)) σ H (fun x H1 => gName i x σ H1 N.nx)
  refine lc_sem ri hv R (use_e h (fun _ _ z => z.at) fun r s1 v γ1 H1 t1 R1 q1 g => ?_)
  cases r with
  | sv x => exact False.elim g
  | new xs =>
    obtain ⟨γ2, st, R2, r2⟩ := own_new t1 R1 q1
    exact g _ γ2 _ (st.trans step_env) (rep_set R2 r2)
end
/-! ## defs with the hand and defaults -/
structure OkHd (P : Program) (w : World) (K : PySem.W.Frag) (mg : Str → Option Value) (base : Heap) (ct : Nat → Addr) (x : Str) (n : Nat) (k : Nat) (F : List SV → Hand → Res × Hand) (dd : List D) : Prop where
  ex : ∃ (f : Addr) (fd : FuncData) (ps : List Str) (ds : List Value) (dvs : List V), ps.length = n ∧ mg x = some (.ref f) ∧ PySem.W.keepIn K (.ref f) = true ∧ FnOk P w K mg base (L2.CX P w) k f fd ps (spH K ct n F) ∧ Binds K fd ps ds ∧ Vals dvs ds ∧ ∀ H, RepDs K ct H dvs dd
section
variable {X : Cx} {ct : Nat → Addr} {W : WX} {pos p : Pos} {x : Str} {e : Expr} {es : List Expr} {mA : M (List SV)} {k n : Nat} {FH : List SV → Hand → Res × Hand} {dd : List D}
theorem ed_callHd (O : OkHd X.prog X.w X.K X.mg X.base ct x n k FH dd) (hr : Room k X.A) (tk : Takes X W) (ha : AD X ct W (e :: es) mA) (hg : Gl X x := by rfl) (hdb : (x == ("__debug__" : Str)) = false := by decide) (he : starEach (e :: es) X.env = (false, eval e X.env) :: starEach es X.env := by rfl) (hpl : (backTo pos (starEach es X.env)).any (·.1) = false := by rfl) :
    ED X ct W (.Call (.Name x p) (e :: es) [] pos) (bnd mA (callH n FH dd)) := by
  obtain ⟨f, fd, ps, ds, dvs, rfl, hm, hk, FK, hb, hd, hdd⟩ := O.ex
  exact ed_callH FK hr hg hm hk hb hd hdd tk ha hdb he hpl
end
section
variable {P : Program} {w : World} {K : PySem.W.Frag} {mg : Str → Option Value} {base : Heap} {x : Str} {dvs : List V}
theorem okHf {st : Stmt} {N ps : List Str} {k : Nat} {ct : Nat → Addr} {m : M Fl} {dd : List D} (T : FnT K mg x st dvs) (S : FnScope N ps (defScope st)) (n j : Nat) (hd : dvs ≠ []) (hn : n + (dvs.length - j) = ps.length) (hdd : ∀ H, RepDs K ct H dvs dd)
    (hbd : ∀ (T : Addr) (kV doc pm : Value) (an : Option Addr) (cdv ct : Value) (us its : List Value), us.length = n → its.length = dvs.length →
      ∃ k, bindArgs (PySem.W.fnOf x x (defArgs st) (defBody st) (defScope st) (.ref T) kV doc pm an cdv ct) ⟨us, []⟩ = seqItems? (.ref T) >>= k ∧ k (some its.toArray) = pure (ps.zip (us ++ its.drop j)))
    (hb : ∀ (f : Addr) (cdv : Value) (A : Around) (outer : List Env) (s : Shared) (H : Hp) (E : XK), Room k (A.deeper (envOfC x (defScope st) s.heap.objs.size f cdv)) →
      SDs (cxOf (L2.CX P w) P w K mg base N x (defScope st) f cdv A outer s H E) ct (fun cls d _ H => E cls d H) (defBody st) m) : OkHd P w K mg base ct x ps.length (k + 1) (runH N.length m) (dd.drop j) := by
  obtain ⟨f, fd, hm, F⟩ := T.ex
  obtain ⟨ds, rv, bb⟩ := F.binds1 n j hd hn hbd
  exact ⟨f, fd, ps, ds, _, rfl, hm, F.kp, fnH F S (hb f), bb, rv, fun H => RepDs.drop j (hdd H)⟩
end
end Fd
set_option Elab.async false
set_option linter.all false
set_option maxRecDepth 100000
set_option maxHeartbeats 4000000
namespace Fd
open PySem PySem.Spec PyProof.Rows L2
def nilG : List SV → M Unit := fun xs => match xs with
  | [] => pur ()
  | _ => stuck
theorem gds_nilG {X : Cx} {ct : Nat → Addr} : GDs X ct [] [] nilG := gds_nil
@[simp] theorem e_nilG (s : S) : nilG [] s = .ok () s := rfl
/-! ## simp rules of the newer combinators -/
section
variable {s : S} {α : Type}
@[simp] theorem e_fldO (cs : List Nat) (f : Str) (c : Nat) (ds : List (Str × D)) : fldM cs f (RD (.obj c ds)) s = if cs.contains c = true then match ds.lookup f with
  | some d => .ok (RD d) s
  | none => .bad
  else .bad := rfl
@[simp] theorem e_fldH (cs : List Nat) (f : Str) : fldM cs f (.sv .hand) s = match s.hd with
  | some (.me c ds) => if cs.contains c = true then match ds.lookup f with
    | some d => .ok (RD d) s
    | none => .bad
    else .bad
  | _ => .bad := rfl
@[simp] theorem e_setMe (c0 i : Nat) (f : Str) (m : M RV) : setMe c0 i f m s = match m s with
  | .ok (.sv (.dat d)) s1 => (match s1.env[i]? with
    | some (some .hand) => (match s1.hd with
      | some (.me c ds) => if c = c0 ∧ ds.length < 900 then .ok .nx { s1 with hd := some (.me c (putD f d ds)) } else .bad
      | _ => .bad)
    | _ => .bad)
  | .ok _ _ => .bad
  | .exc x s' => .exc x s'
  | .bad => .bad := by
  conv => lhs; unfold setMe bnd
  cases m s with
  | exc => rfl
  | bad => rfl
  | ok x s1 =>
    cases x with
    | new => rfl
    | sv y => cases y with
      | ref => rfl
      | hand => rfl
      | dat d =>
        dsimp only
        unfold getV
        cases s1.env[i]? with
        | none => rfl
        | some o => cases o with
          | none => rfl
          | some z => cases z <;> rfl
@[simp] theorem e_putD0 (f : Str) (v : D) : putD f v [] = [(f, v)] := rfl
@[simp] theorem e_putD1 (f g : Str) (v x : D) (r : List (Str × D)) : putD f v ((g, x) :: r) = if g = f then (g, v) :: r else (g, x) :: putD f v r := rfl
@[simp] theorem e_altM (m1 m2 : M α) : altM m1 m2 s = match m1 s with
  | .bad => m2 s
  | o => o := rfl
@[simp] theorem e_startI (n c : Nat) (ds : List D) : startI n c ds = ⟨(SV.hand :: ds.map SV.dat).map some ++ List.replicate (n - (ds.length + 1)) none, [], some (.me c [])⟩ := rfl
@[simp] theorem e_runI (n c : Nat) (m : M Fl) (ds : List D) : runI n c m ds = resI (m (startI n c ds)) := rfl
@[simp] theorem e_resI1 (s : S) : resI (.ok .nx s) = match s.hd with
  | some (.me c fs) => if fs.isEmpty = true then .bad else .ret (.dat (.obj c fs))
  | _ => .bad := rfl
@[simp] theorem e_resI2 (x : Exn) : resI (.exc x s) = .exc x := rfl
@[simp] theorem e_datRes (F : List D → Res) (ds : List D) : datRes F ds = match F ds with
  | .ret (.new _) => .bad
  | r => r := rfl
@[simp] theorem e_isGO (kt kc) (c : Nat) (ds : List (Str × D)) : isiG kt kc (RD (.obj c ds)) s = match kc c with
  | some b => .ok (RB b) s
  | none => .bad := rfl
@[simp] theorem e_isG0 (kt kc) : isiG kt kc RN s = match kt .none with
  | some b => .ok (RB b) s
  | none => .bad := rfl
@[simp] theorem e_isG1 (kt kc) (b : Bool) : isiG kt kc (RB b) s = match kt .bool with
  | some b => .ok (RB b) s
  | none => .bad := rfl
@[simp] theorem e_isG2 (kt kc) (b : Int) : isiG kt kc (RI b) s = match kt .int with
  | some b => .ok (RB b) s
  | none => .bad := rfl
@[simp] theorem e_isG3 (kt kc) (b : Str) : isiG kt kc (RS b) s = match kt .str with
  | some b => .ok (RB b) s
  | none => .bad := rfl
@[simp] theorem e_isG4 (kt kc) (b : List D) : isiG kt kc (RT b) s = match kt .tuple with
  | some b => .ok (RB b) s
  | none => .bad := rfl
@[simp] theorem e_isG5 (kt kc) (b : List D) : isiG kt kc (RD (.lst b)) s = match kt .list with
  | some b => .ok (RB b) s
  | none => .bad := rfl
@[simp] theorem e_isG6 (kt kc) (b) : isiG kt kc (RD (.dct b)) s = match kt .dict with
  | some b => .ok (RB b) s
  | none => .bad := rfl
@[simp] theorem e_isG7 (kt kc) (b : List SV) : isiG kt kc (.new b) s = match kt .list with
  | some b => .ok (RB b) s
  | none => .bad := rfl
@[simp] theorem e_isG8 (kt kc) (k : Nat) : isiG kt kc (.sv (.ref k)) s = match tyR s (.sv (.ref k)) with
  | some t => match kt t with
    | some b => .ok (RB b) s
    | none => .bad
  | none => .bad := rfl
@[simp] theorem e_ktOwn (t : Ty) : ktOwn t = some false := rfl
@[simp] theorem e_ktB (u t : Ty) : ktB u t = some (subTy t u) := rfl
@[simp] theorem e_kcOwn (lo hi d c : Nat) : kcOwn lo hi d c = if inR lo hi c = true then some (c == d) else none := rfl
@[simp] theorem e_kcB (lo hi c : Nat) : kcB lo hi c = if inR lo hi c = true then some false else none := rfl
@[simp] theorem e_inR (lo hi c : Nat) : inR lo hi c = (decide (lo ≤ c) && decide (c < hi)) := rfl
@[simp] theorem e_methM (c0 : Nat) (mn : Str) (n : Nat) (F dd mo mA) : methM c0 mn n F dd mo mA s = match mo s with
  | .ok (.sv (.dat (.obj c ds))) s1 => if c = c0 ∧ (ds.lookup mn).isNone = true then bnd mA (fun xs => callM n F dd (.dat (.obj c ds) :: xs)) s1 else .bad
  | .ok _ _ => .bad
  | .exc x s' => .exc x s'
  | .bad => .bad := by
  conv => lhs; unfold methM bnd
  cases mo s with
  | exc => rfl
  | bad => rfl
  | ok x s1 =>
    cases x with
    | new => rfl
    | sv y => cases y with
      | ref => rfl
      | hand => rfl
      | dat d => cases d with
        | obj c ds =>
          dsimp only
          split <;> rfl
        | _ => rfl
@[simp] theorem e_eqOwn (lo hi c0 : Nat) (F neg) (c : Nat) (ds : List (Str × D)) (y : D) : eqOwnM lo hi c0 F neg (RD (.obj c ds)) (RD y) s = if c = c0 ∧ okT lo hi y = true then match F [.obj c ds, y] with
    | .ret (.dat (.bl b)) => .ok (RB (b != neg)) s
    | _ => .bad
    else .bad := rfl
@[simp] theorem e_okT0 (lo hi) : okT lo hi .non = true := rfl
@[simp] theorem e_okT1 (lo hi a) : okT lo hi (.bl a) = true := rfl
@[simp] theorem e_okT2 (lo hi a) : okT lo hi (.int a) = true := rfl
@[simp] theorem e_okT3 (lo hi a) : okT lo hi (.str a) = true := rfl
@[simp] theorem e_okT4 (lo hi a) : okT lo hi (.tup a) = true := rfl
@[simp] theorem e_okT5 (lo hi a) : okT lo hi (.lst a) = true := rfl
@[simp] theorem e_okT6 (lo hi a) : okT lo hi (.dct a) = true := rfl
@[simp] theorem e_okT7 (lo hi c a) : okT lo hi (.obj c a) = inR lo hi c := rfl
@[simp] theorem e_chainM (f g ma mb mc) : chainM f g ma mb mc s = bnd ma (fun x => bnd mb fun y => bnd (f x y) fun z => bnd (asB z) fun k => if k = true then bnd mc (fun w => g y w) else pur (RB false)) s := rfl
@[simp] theorem e_enumT (ds : List D) : enumM [RT ds] s = .ok ⟨enumF 0 ds, none⟩ s := rfl
@[simp] theorem e_enumL (ds : List D) : enumM [RD (.lst ds)] s = .ok ⟨enumF 0 ds, none⟩ s := rfl
@[simp] theorem e_enumN (xs : List SV) : enumM [.new xs] s = match datL xs with
  | some ds => .ok ⟨enumF 0 ds, none⟩ s
  | none => .bad := by
  show (match datL xs with | some ds => pur (Src.mk (enumF 0 ds) none) | none => stuck) s = _
  cases datL xs <;> rfl
@[simp] theorem e_rng3 (i j : Int) : rng3 [RI i, RI j, RI (-1)] s = ifC (-(2 ^ 62) ≤ i ∧ i < 2 ^ 62 ∧ -(2 ^ 62) ≤ j ∧ j < 2 ^ 62) (.ok ⟨downL i (i - j).toNat, none⟩ s) .bad := by
  show ifC ((-1 : Int) = -1 ∧ _) _ _ = _
  simp
@[simp] theorem e_intsL0 : intsL [] = some [] := rfl
@[simp] theorem e_intsL1 (i : Int) (r : List SV) : intsL (.dat (.int i) :: r) = match intsL r with
    | some is => some (i :: is)
    | none => none := rfl
@[simp] theorem e_maxM (x : RV) : maxM [x] s = match seqL s x with
    | some xs => match intsL xs with
      | some is => if is.isEmpty = true then .bad else .ok (RI (maxL is)) s
      | none => .bad
    | none => .bad := rfl
@[simp] theorem e_minM (x : RV) : minM [x] s = match seqL s x with
    | some xs => match intsL xs with
      | some is => if is.isEmpty = true then .bad else .ok (RI (minL is)) s
      | none => .bad
    | none => .bad := rfl
@[simp] theorem e_seqLN (xs : List SV) : seqL s (.new xs) = some xs := rfl
@[simp] theorem e_seqLL (ds : List D) : seqL s (RD (.lst ds)) = some (ds.map SV.dat) := rfl
@[simp] theorem e_seqLR (k : Nat) : seqL s (.sv (.ref k)) = match s.mem[k]? with
    | some (some xs) => some xs
    | _ => none := rfl
@[simp] theorem e_lrM (i j : Int) : lrM (RI i) (RI j) s = ifC (-(2 ^ 62) ≤ i ∧ i < 2 ^ 62 ∧ -(2 ^ 62) ≤ j ∧ j < 2 ^ 62 ∧ (j - i).toNat ≤ 100000) (.ok (.new (rangeL i (j - i).toNat)) s) .bad := rfl
@[simp] theorem e_appM (mo me : M RV) : appM mo me s = bnd mo (fun x => match x with
  | .sv (.ref k) => fun s0 => match s0.mem[k]? with
    | some (some _) => bnd me (fun y => match y with
      | .sv d => fun s => match s.mem[k]? with
        | some (some xs) => if xs.length < 100000 then .ok RN { s with mem := s.mem.set k (some (xs ++ [d])) } else .bad
        | _ => .bad
      | _ => stuck) s0
    | _ => .bad
  | _ => stuck) s := rfl
@[simp] theorem e_setIx (k : Nat) (n : Int) (d : SV) : setIx (.sv (.ref k)) (RI n) d s = match s.mem[k]? with
    | some (some xs) => match ixN xs.length n with
      | some q => .ok () { s with mem := s.mem.set k (some (xs.set q d)) }
      | none => .bad
    | _ => .bad := rfl
@[simp] theorem e_subG (mo mi : M RV) (d : SV) : subG mo mi d s = match mo s with
  | .ok x s1 => match mi s1 with
    | .ok j s2 => setIx x j d s2
    | _ => .bad
  | _ => .bad := rfl
@[simp] theorem e_repLM (xs : List SV) (n : Int) : repLM (.new xs) (RI n) s = if 0 ≤ n ∧ n ≤ 1000 ∧ xs.length ≤ 100 then .ok (.new (List.replicate n.toNat xs).flatten) s else .bad := rfl
@[simp] theorem e_keyI (i : Int) : keyM (RI i) = some (.inl i) := rfl
@[simp] theorem e_keyS (i : Str) : keyM (RS i) = some (.inr i) := rfl
@[simp] theorem e_dct1M (mk mv : M RV) : dct1M mk mv s = bnd mk (fun x => bnd mv fun y => match keyM x, y with
  | some k, .sv (.dat d) => pur (RD (.dct [(k, d)]))
  | _, _ => stuck) s := rfl
@[simp] theorem e_lenOwn (c0 : Nat) (F) (c : Nat) (ds : List (Str × D)) : lenOwnM c0 F [RD (.obj c ds)] s = if c = c0 then match F [.obj c ds] with
    | .ret (.dat (.int n)) => ifC (0 ≤ n ∧ n < 2 ^ 62) (.ok (RI n) s) .bad
    | _ => .bad
    else .bad := rfl
@[simp] theorem e_ownD (d : D) : own (RD d) s = .ok (RD d) s := rfl
@[simp] theorem e_ownN (xs : List SV) : own (.new xs) s = .ok (.sv (.ref s.mem.length)) { s with mem := s.mem ++ [some xs] } := rfl
@[simp] theorem e_fieldsH2 (f g : Str) (x : Exn) : fieldsH2 f g x s = match x.fs.lookup f, x.fs.lookup g with
  | some d, some e => .ok (.rt (RT [d, e])) s
  | _, _ => .bad := by
  unfold fieldsH2
  cases x.fs.lookup f with
  | none => rfl
  | some _ => cases x.fs.lookup g <;> rfl
@[simp] theorem e_ssM (mi vs f tt me) : ssM mi vs f tt me s = bnd mi (fun src s => bnd (siL src.Ok vs f tt me src.items []) (fun acc => pur (.new ((sortS acc).map fun k => .dat (.int k)))) (wipeS vs s)) s := rfl
@[simp] theorem e_tyD (b) : tyR s (RD (.dct b)) = some .dict := rfl
theorem lockM_dat {i : Nat} {m : M RV} {d : D} (h : s.env[i]? = some (some (.dat d))) : lockM i m s = m s := by
  unfold lockM
  rw [h]
theorem lockM_ref {i k : Nat} {m : M RV} {xs : List SV} {es : List D} {d : D} (h : s.env[i]? = some (some (.ref k))) (h2 : s.mem[k]? = some (some xs)) (h3 : datL xs = some es) (h4 : m (frzS k es s) = .ok (RD d) (frzS k es s)) (h5 : d.noL = true) (h6 : calmMem k s.mem) (h7 : ∀ c fs, s.hd ≠ some (.me c fs)) : lockM i m s = .ok (RD d) s := by
  unfold lockM
  simp only [h, h2, h3, h4]
  rw [if_pos ⟨rfl, h5, h6, h7⟩]
@[simp] theorem e_setLcO (i mi vs f tt me) : setLcO i mi vs f tt me s = bnd (lcM mi vs f tt me) (fun r s => match r with
  | .new xs => .ok .nx { s with mem := s.mem ++ [some xs], env := s.env.set i (some (.ref s.mem.length)) }
  | _ => .bad) s := rfl
end
end Fd
set_option Elab.async false
set_option linter.all false
set_option maxRecDepth 100000
set_option maxHeartbeats 4000000
namespace Fd
open PySem PySem.Spec PyProof.Rows L2
/-! ## the facts of classes, by their parts -/
section
variable {K : PySem.W.Frag} {ct : Nat → Addr} {c : Nat} {C f : Addr} {mn q : Str} {st : Stmt}
theorem mthT0 {oc : Value} {od an : Option Addr} {osl : Array (Option Value)} {kV doc pm cdv ct1 : Value} (hct : ct c = C) (a : PySem.W.findIn K (.ref C) mn = some (some (.ref f))) (t : PySem.W.typeIn K (.ref f) = some (.type "function")) (kp : PySem.W.keepIn K (.ref f) = true)
    (l : K.lookup f = some ⟨oc, od, .func (PySem.W.fnOf mn q (defArgs st) (defBody st) (defScope st) .none kV doc pm an cdv ct1), osl⟩) (cd : PySem.W.codeIn K cdv q = true) : MthT K ct c mn q st [] := by
  subst hct
  exact ⟨f, _, ⟨a, by unfold PySem.W.isFn; rw [t]; rfl, kp⟩, ⟨⟨oc, od, _, kV, doc, pm, an, cdv, ct1, osl, rfl, l, cd, .inl ⟨rfl, rfl⟩, .inl rfl⟩, kp⟩⟩
theorem clsT0 (hct : ct c = C) (pg : PySem.W.plainGet K C Str.empty = true) (hd : PySem.W.hasDictIn K C = true) (po : PySem.W.plainOver K C = true) (sa : PySem.W.findIn K (.ref C) "__setattr__" = some (some (.builtin "object.__setattr__")))
    (ca : PySem.W.findIn K (.ref C) "__class__" = some (some (.builtin "object.__class__"))) (cn : PySem.W.specialIn K (.builtin "object.__class__") "__get__" = some (some (.builtin "getset_descriptor.__get__"))) (tk : PySem.W.takesIn K (.builtin "object.__class__") = some true) (cm : PySem.W.mroIn K C (.type "object") = some true) : ClsT K ct c := by
  subst hct
  exact ⟨⟨pg, hd, po, sa⟩, ca, cn, tk, cm⟩
theorem mkT0 {mg : Str → Option Value} {x : Str} {h : Heap} (KX : K.In h) (G : h.Ns mainGlobals mg) (hct : ct c = C) (m : PySem.W.makesIn K C = true) (k : PySem.W.keepIn K (.ref C) = true) (e : PySem.W.nsIn K mainGlobals x = some (some (.ref C))) : MkT K mg ct c x := by
  subst hct
  exact ⟨m, k, PySem.W.mg_of KX G e⟩
theorem tyAll {p : Ty → Prop} (h0 : p .int) (h1 : p .bool) (h2 : p .str) (h3 : p .tuple) (h4 : p .list) (h5 : p .dict) (h6 : p .none) : ∀ t, p t := fun t => by cases t <;> assumption
theorem tyAllN {p : Ty → Prop} (h0 : p .int) (h1 : p .bool) (h2 : p .str) (h3 : p .tuple) (h4 : p .list) (h5 : p .dict) : ∀ t, t ≠ .none → p t := fun t h => by cases t <;> first | assumption | exact absurd rfl h
end
end Fd
set_option Elab.async false
set_option linter.all false
set_option maxRecDepth 100000
set_option maxHeartbeats 4000000
namespace Fd
open PySem PySem.Spec PyProof.Rows L2
/-! ## an own list that is let go -/
def dropS (i : Nat) (s : S) : S := match s.env[i]? with
  | some (some (.ref k)) => { s with mem := s.mem.set k none }
  | _ => s
def dropM {α : Type} (i : Nat) (m : M α) : M α := fun s => m (dropS i s)
theorem let_go {K : PySem.W.Frag} {ct : Nat → Addr} {γ : G} {s : S} {H : Hp} {σ : L2.St} (R : Rep K ct γ H σ s) (k : Nat) : Step γ γ s { s with mem := s.mem.set k none } H H ∧ Rep K ct γ H σ { s with mem := s.mem.set k none } := by
  have live : ∀ j, Live { s with mem := s.mem.set k none } j → Live s j := fun j ⟨ys, ey⟩ => by
    have ey' : (s.mem.set k none)[j]? = some (some ys) := ey
    by_cases hj : k = j
    · subst hj
      by_cases hk : k < s.mem.length
      · rw [List.getElem?_set_self hk] at ey'; cases ey'
      · rw [List.getElem?_eq_none (by simpa using hk)] at ey'; cases ey'
    · rw [List.getElem?_set_ne hj] at ey'
      exact ⟨ys, ey'⟩
  have ln : (s.mem.set k none).length = s.mem.length := List.length_set
  refine ⟨⟨fun _ _ e _ => e, fun x z => .inl ?_, KeepI.refl, fun _ z => z, fun _ _ => rfl, Nat.le_of_eq ln.symm, rfl, fun j h1 h2 => ?_⟩, ?_⟩
  · rcases z with ⟨j, lj, e⟩ | z
    · exact .inl ⟨j, live j lj, e⟩
    · exact .inr z
  · have h2' : j < (s.mem.set k none).length := h2
    rw [ln] at h2'
    omega
  · refine ⟨R.len, fun i x e => ?_, fun j ys ey => ?_, fun i j li lj => R.inj i j (live i li) (live j lj), R.hd, fun z j lj => R.hdk z j (live j lj)⟩
    · show ∃ v, σ[i]? = some (some v) ∧ RepS K ct γ (s.mem.set k none).length H v x
      rw [ln]
      exact R.env i x e
    · obtain ⟨us, eu⟩ := live j ⟨ys, ey⟩
      have ey' : (s.mem.set k none)[j]? = some (some ys) := ey
      have : s.mem[j]? = some (some ys) := by
        by_cases hj : k = j
        · subst hj
          have hk : k < s.mem.length := by
            by_cases hk : k < s.mem.length
            · exact hk
            · rw [List.getElem?_eq_none (by omega)] at eu; cases eu
          rw [List.getElem?_set_self hk] at ey'; cases ey'
        · rwa [List.getElem?_set_ne hj] at ey'
      show ∃ vs, H (γ.kp j) = some (.lst vs) ∧ Paired (RepS K ct γ (s.mem.set k none).length H) vs ys
      rw [ln]
      exact R.mem j ys this
theorem drop_step {K : PySem.W.Frag} {ct : Nat → Addr} {γ : G} {s : S} {H : Hp} {σ : L2.St} (R : Rep K ct γ H σ s) (i : Nat) : Step γ γ s (dropS i s) H H ∧ Rep K ct γ H σ (dropS i s) := by
  unfold dropS
  split
  · exact let_go R _
  · exact ⟨Step.refl, R⟩
section
variable {X : Cx} {ct : Nat → Addr} {W : WX} {e : Expr} {m : M RV} {s : S}
theorem ed_drop (i : Nat) (h : ED X ct W e m) : ED X ct W e (dropM i m) := by
  obtain ⟨t, p, r⟩ := h.ex
  refine ⟨t, p, fun σ H γ s Q R g => ?_⟩
  obtain ⟨st, R2⟩ := drop_step R i
  exact r σ H γ _ _ R2 (Good.step st g)
@[simp] theorem drop_non {i : Nat} {m : M RV} (h : s.env[i]? = some none) : dropM i m s = m s := by
  unfold dropM dropS
  rw [h]
@[simp] theorem drop_dat {i : Nat} {m : M RV} {d : D} (h : s.env[i]? = some (some (.dat d))) : dropM i m s = m s := by
  unfold dropM dropS
  rw [h]
@[simp] theorem drop_ref {i k : Nat} {m : M RV} (h : s.env[i]? = some (some (.ref k))) : dropM i m s = m { s with mem := s.mem.set k none } := by
  unfold dropM dropS
  rw [h]
end
/-! ## more rules -/
theorem lcL_map {l : List SV} {vs : List Nat} {f : SV → M Unit} {tt : M Bool} {me : M RV} {st : S} (g : SV → SV) : ∀ (xs acc : List SV), acc.length + xs.length ≤ 100000 →
    (∀ x ∈ xs, ∃ s1 s2 s3, f x st = .ok () s1 ∧ tt s1 = .ok true s2 ∧ me s2 = .ok (.sv (g x)) s3 ∧ wipeS vs s3 = st) → lcL (Src.mk l none).Ok vs f tt me xs acc st = .ok (.new (acc ++ xs.map g)) st := by
  intro xs
  induction xs with
  | nil => intro acc _ _; rw [List.map_nil, List.append_nil]; exact if_pos trivial
  | cons x xs ih =>
    intro acc hl h
    obtain ⟨s1, s2, s3, h1, h2, h3, h4⟩ := h x (by simp)
    unfold lcL
    rw [if_pos src_ok, h1]
    simp only [h2, h3, h4]
    rw [if_pos (by simp at hl; omega), ih (acc ++ [g x]) (by simp at hl ⊢; omega) fun y hy => h y (by simp [hy])]
    simp
theorem siL_filter {l : List SV} {vs : List Nat} {f : SV → M Unit} {tt : M Bool} {me : M RV} {st : S} (p : SV → Bool) (g : SV → Int) : ∀ (xs : List SV) (acc : List Int), acc.length + xs.length ≤ 60 →
    (∀ x ∈ xs, ∃ s1 s2, f x st = .ok () s1 ∧ tt s1 = .ok (p x) s2 ∧ (p x = true → ∃ s3, me s2 = .ok (RI (g x)) s3 ∧ wipeS vs s3 = st) ∧ (p x = false → wipeS vs s2 = st)) → siL (Src.mk l none).Ok vs f tt me xs acc st = .ok (acc ++ (xs.filter p).map g) st := by
  intro xs
  induction xs with
  | nil => intro acc _ _; rw [List.filter_nil, List.map_nil, List.append_nil]; exact if_pos trivial
  | cons x xs ih =>
    intro acc hl h
    obtain ⟨s1, s2, h1, h2, h3, h4⟩ := h x (by simp)
    unfold siL
    rw [if_pos src_ok, h1]
    cases c : p x with
    | true =>
      obtain ⟨s3, h5, h6⟩ := h3 c
      simp only [h2, c, h5, h6]
      rw [if_pos (by simp at hl; omega), ih (acc ++ [g x]) (by simp at hl ⊢; omega) fun y hy => h y (by simp [hy]), List.filter_cons_of_pos c]
      simp
    | false =>
      simp only [h2, c, h4 c]
      rw [ih acc (by simp at hl ⊢; omega) fun y hy => h y (by simp [hy]), List.filter_cons_of_neg (by simp [c])]
theorem lcL_step {l : List SV} {vs : List Nat} {f : SV → M Unit} {tt : M Bool} {me : M RV} {st s1 s2 s3 : S} {x y : SV} {xs acc : List SV} (h1 : f x st = .ok () s1) (h2 : tt s1 = .ok true s2) (h3 : me s2 = .ok (.sv y) s3) (hl : acc.length < 100000) :
    lcL (Src.mk l none).Ok vs f tt me (x :: xs) acc st = lcL (Src.mk l none).Ok vs f tt me xs (acc ++ [y]) (wipeS vs s3) := by
  conv => lhs; unfold lcL
  rw [if_pos src_ok, h1]
  simp only [h2, h3]
  rw [if_pos hl]
theorem ixN_nat {n k : Nat} (h : k < n) : ixN n (k : Int) = some k := by
  unfold ixN
  simp
  omega
theorem atI_nat {α : Type} {xs : List α} {k : Nat} (h : k < xs.length) : atI xs (k : Int) = some xs[k] := by
  unfold atI
  rw [ixN_nat h]
  simp [h]
theorem downL0 (i : Int) : downL i 0 = [] := rfl
theorem downL_cons (i : Int) (n : Nat) : downL i (n + 1) = .dat (.int i) :: downL (i - 1) n := by
  unfold downL
  rw [List.range_succ_eq_map, List.map_cons, List.map_map]
  congr 1
  · simp
  · apply List.map_congr_left
    intro k _
    simp
    omega
section
variable {s : S}
@[simp] theorem e_ixR (k : Nat) (i : Int) : ixM (.sv (.ref k)) (RI i) s = match s.mem[k]? with
  | some (some xs) => match atI xs i with
    | some y => .ok (.sv y) s
    | none => .bad
  | _ => .bad := by
  show (match seqL s (.sv (.ref k)) with | some xs => (match atI xs i with | some y => Out.ok (RV.sv y) s | none => .bad) | none => .bad) = _
  rw [e_seqLR]
  cases s.mem[k]? with
  | none => rfl
  | some o => cases o <;> rfl
@[simp] theorem e_resPR (k : Nat) : resP (.ok (.rt (.sv (.ref k))) s) = match s.mem[k]? with
  | some (some xs) => match datL xs with
    | some ds => .ret (.new ds)
    | none => .bad
  | _ => .bad := by
  show (match resV s (.sv (.ref k)) with | some x => Res.ret x | none => .bad) = _
  unfold resV
  cases h : s.mem[k]? with
  | none => simp [h]
  | some o => cases o with
    | none => simp [h]
    | some xs =>
      simp only [h]
      unfold datsR
      cases datL xs <;> rfl
@[simp] theorem e_tupleR (k : Nat) : tupleM [.sv (.ref k)] s = match s.mem[k]? with
  | some (some xs) => match datL xs with
    | some ds => .ok (RT ds) s
    | none => .bad
  | _ => .bad := by
  show (match seqL s (.sv (.ref k)) with | some xs => (match datL xs with | some ds => Out.ok (RT ds) s | none => .bad) | none => .bad) = _
  rw [e_seqLR]
  cases s.mem[k]? with
  | none => rfl
  | some o => cases o <;> rfl
@[simp] theorem e_listN (xs : List SV) : listM [.new xs] s = .ok (.new xs) s := rfl
@[simp] theorem e_min2 (i j : Int) : min2M [RI i, RI j] s = .ok (RI (if j < i then j else i)) s := rfl
end
theorem forL_step {l : List SV} {f : SV → M Unit} {b : M Fl} {x : SV} {xs : List SV} {s s1 s2 : S} (h1 : f x s = .ok () s1) (h2 : b s1 = .ok .nx s2) : forL (Src.mk l none).Ok f b (x :: xs) s = forL (Src.mk l none).Ok f b xs s2 := by
  rw [forL1, h1]
  simp only [h2]
theorem copy_row {l : List SV} {env : List (Option SV)} {mem : List (Option (List SV))} {hd : Option Hd} {k : Nat} (ds : List D) (hk : k < env.length) (he : env[k]? = some none) (hb : ds.length ≤ 100000) :
    lcL (Src.mk l none).Ok [k] (setV k) (pur true) (getV k) (ds.map SV.dat) [] ⟨env, mem, hd⟩ = .ok (.new (ds.map SV.dat)) ⟨env, mem, hd⟩ := by
  have q := lcL_map (l := l) (vs := [k]) (f := setV k) (tt := pur true) (me := getV k) (st := ⟨env, mem, hd⟩) id (ds.map SV.dat) [] (by simpa using hb) (fun x hx => by
    refine ⟨⟨env.set k (some x), mem, hd⟩, ⟨env.set k (some x), mem, hd⟩, ⟨env.set k (some x), mem, hd⟩, rfl, rfl, ?_, ?_⟩
    · simp [hk]
    · have : (env.set k (some x)).set k none = env := by
        rw [List.set_set]
        apply List.ext_getElem?
        intro i
        by_cases c : k = i
        · subst c
          rw [List.getElem?_set_self hk, he]
        · rw [List.getElem?_set_ne c]
      simp [wipeS, this])
  rw [q, List.nil_append, List.map_id]
theorem at_cases {α : Type} {xs : List α} {t : Int} (h0 : 0 ≤ t) (h1 : t < xs.length) : ∃ x ∈ xs, atI xs t = some x := by
  obtain ⟨k, rfl⟩ := Int.eq_ofNat_of_zero_le h0
  have : k < xs.length := by omega
  exact ⟨_, List.getElem_mem this, atI_nat this⟩
section
variable {s : S}
@[simp] theorem e_m3 (m : M RV) (ml mh : M (Option Int)) : m3 m ml mh s = bnd m (fun x => bnd ml fun lo => bnd mh fun hi => slM x lo hi) s := rfl
@[simp] theorem e_slT (ds : List D) (lo hi) : slM (RT ds) lo hi s = .ok (RT (cutD ds lo hi)) s := rfl
@[simp] theorem e_slL (ds : List D) (lo hi) : slM (RD (.lst ds)) lo hi s = .ok (.new (cutD (ds.map SV.dat) lo hi)) s := rfl
@[simp] theorem e_slN (xs : List SV) (lo hi) : slM (.new xs) lo hi s = .ok (.new (cutD xs lo hi)) s := rfl
end
theorem cut_to {α : Type} {xs : List α} {k : Nat} (h : k ≤ xs.length) : cutD xs none (some (k : Int)) = xs.take k := by
  unfold cutD
  rw [HT.sIx_none, HT.sIx_nat, List.drop_zero, Nat.sub_zero, Nat.min_eq_left h]
theorem cut_from {α : Type} {xs : List α} {k : Nat} (h : k ≤ xs.length) : cutD xs (some (k : Int)) none = xs.drop k := by
  unfold cutD
  rw [HT.sIx_none, HT.sIx_nat, Nat.min_eq_left h]
  exact List.take_of_length_le (by simp)
theorem cut_last {α : Type} {xs : List α} (h : 1 ≤ xs.length) : cutD xs none (some (-1)) = xs.take (xs.length - 1) := by
  unfold cutD
  rw [HT.sIx_none]
  have : HT.sIx xs.length xs.length (some (-1)) = xs.length - 1 := by
    show (if (-1 : Int) < 0 then ((-1 : Int) + (xs.length : Int)).toNat else min (-1 : Int).toNat xs.length) = _
    rw [if_pos (by decide)]
    omega
  rw [this, List.drop_zero, Nat.sub_zero]
/-- a call with an own list, locked for it -/
theorem lock_call {i k : Nat} {F : List D → Res} {es : List D} {d : D} {s : S} (h : s.env[i]? = some (some (.ref k))) (h2 : s.mem[k]? = some (some (es.map SV.dat))) (h3 : F [.lst es] = .ret (.dat d)) (h5 : d.noL = true) (h6 : calmMem k s.mem) (h7 : ∀ c fs, s.hd ≠ some (.me c fs)) :
    lockM i (bnd (consA (getV i) (pur [])) (callM 1 F [])) s = .ok (RD d) s := by
  refine lockM_ref h h2 (datL_map es) ?_ h5 h6 h7
  have e : (frzS k es s).env[i]? = some (some (.dat (.lst es))) := by
    show (s.env.map (substR k es))[i]? = _
    rw [List.getElem?_map, h]
    show some (substR k es (some (.ref k))) = _
    unfold substR
    simp
  simp [e, h3]
/-- one own list, all earlier ones let go -/
theorem calm_one {N : List (Option (List SV))} {l : List SV} (h : ∀ o ∈ N, o = none) : calmMem N.length (N ++ [some l]) := fun j ys ne e y hy => by
  by_cases c : j < N.length
  · rw [List.getElem?_append_left c] at e
    have := h _ (List.mem_of_getElem? e)
    cases this
  · rw [List.getElem?_eq_none (by simp; omega)] at e
    cases e
end Fd
set_option Elab.async false
set_option linter.all false
set_option maxRecDepth 100000
set_option maxHeartbeats 4000000
namespace Fd
open PySem PySem.Spec PyProof.Rows L2
/-! ## errors without fields -/
section
variable {X : Cx}
theorem bare_end {pins : List (Addr × Obj)} {σ : L2.St} {H H' : Hp} {Q : XK} {hp hq h' : Heap} {g g' : Array GenState} {dr dr' : Drawn} {t t' : Nat} {os os' : OsState} {a C : Addr} (T : Raises X (.ref C)) (I : Inv X pins σ H ⟨hp, g, dr, t, os⟩)
    (ha : hp.objs.size ≤ a) (k : ∀ b o, hp.get? b = some o → hq.get? b = some o) (u : Un (frs X.stack) [] (upd H a (exo a C none)) H' hq h') (ok : HOk X.prog X.w H' h') (eo : os' = os) (hb : AllBare g')
    (ea : H' a = some (exo a C none)) (q : Q (.ref C) none (del H' a)) : MkP X pins σ Q (.ref a) ⟨h', g', dr', t', os'⟩ := by
  obtain ⟨t0, ho⟩ := exo_at ok ea
  have fr : H a = none := I.hok.fresh ha
  obtain ⟨G, r1, r2⟩ := restrict h' fun b => decide (b ≠ a)
  have same : ∀ {b}, b ≠ a → G.get? b = h'.get? b := fun n => r1 _ (decide_eq_true n)
  have gone : G.get? a = none := r2 a (by simp)
  have old : ∀ {b : Addr} {o : Obj}, hp.get? b = some o → b ≠ a := fun e => Nat.ne_of_lt (Nat.lt_of_lt_of_le (Heap.lt_size e) ha)
  have free : ∀ {b : Addr}, b ≠ a → H b = none → upd H a (exo a C none) b = none := fun n e => (upd_ne n).trans e
  have un : Un (frs X.stack) [] H (del H' a) hp G := by
    refine ⟨fun b o e n f x => ?_, fun b o e n f x => ?_, fun b o e n x => ?_, fun b o e x => ?_, fun b xs e => ?_, fun b o v e => ?_, fun b ps e => ?_⟩
    · exact (same (old e)).trans (u.keep b o (k b o e) (free (old e) n) f x)
    · obtain ⟨sl, w⟩ := u.slot b o (k b o e) (free (old e) n) f x
      exact ⟨sl, (same (old e)).trans w⟩
    · exact (del_ne (old e)).trans (u.free b o (k b o e) (free (old e) n) x)
    · obtain ⟨o', w⟩ := u.there b o (k b o e) x
      exact ⟨o', (same (old e)).trans w⟩
    · exact (del_ne (ne_of_none e fr)).trans (u.tups b xs ((upd_ne (ne_of_none e fr)).trans e))
    · exact (del_ne (ne_of_none e fr)).trans (u.frzs b o v ((upd_ne (ne_of_none e fr)).trans e))
    · obtain ⟨more, w⟩ := u.tbls b ps ((upd_ne (ne_of_none e fr)).trans e)
      exact ⟨more, (del_ne (ne_of_none e fr)).trans w⟩
  have hok : HOk X.prog X.w (del H' a) G := fun b o e => by
    have nb : b ≠ a := fun z => by rw [z, del_same] at e; cases e
    rw [del_ne nb] at e
    have no : ∀ {c : Addr}, H' c = some (.own b) → c ≠ a := fun hc => at_ne ea hc exo_own
    refine (ok b o e).stay (fun c v hc y => ?_) (fun c hc => (del_ne (no hc)).trans hc) (fun c xs hc => (del_ne (at_ne ea hc exo_tup)).trans hc)
    have nc : c ≠ a := hc.elim (fun z => by rw [z]; exact nb) no
    exact (same nc).trans y
  have J : Inv X pins σ (del H' a) ⟨G, g', dr', t', os'⟩ := I.call' (ch := []) eo un hok hb fun b z => absurd z (by simp)
  refine ⟨a, _, _, ⟨G, g', dr', t', os'⟩, _, .ref C, none, rfl, J, fun b o e => ?_, gone, ho, ⟨rfl, rfl⟩, rfl, rfl, del_same, rfl, hb, T, q⟩
  have nb : b ≠ a := fun z => by rw [z, gone] at e; cases e
  exact (same nb).symm.trans e
def spX0 (K : PySem.W.Frag) (C : Addr) : Sp := fun vs H Q _ => ∃ a, vs = [.ref a] ∧ OexC K C ∧ H a = some (exo a C none) ∧ Q .non H
section
variable {X : Cx} {ct : Nat → Addr} {W : WX} {pos pos2 p : Pos} {x : Str} {C fI : Addr} {k : Nat} {fd : FuncData} {ps : List Str}
theorem pmk_bare {CX : CXT} {sp : Sp} (T : OexC X.K C) (iC : PySem.W.findIn X.K (.ref C) "__init__" = some (some (.ref fI))) (tI : PySem.W.typeIn X.K (.ref fI) = some (.type "function"))
    (F1 : FnOk X.prog X.w X.K X.mg X.base CX k fI fd ps sp) (hr : Room (k + 1) X.A) (hb : Binds X.K fd ps []) (hx : Passes CX X (fun _ _ _ => False)) (hg : Gl X x) (hm : X.mg x = some (.ref C)) (hdb : (x == ("__debug__" : Str)) = false := by decide) :
    PMk X (.Call (.Name x p) [] [] pos) (fun _ H Q => ∀ a, H a = none → sp [.ref a] (upd H a (exo a C none)) (fun v H2 => v = .non ∧ H2 a = some (exo a C none) ∧ Q (.ref C) none (del H2 a)) fun _ _ _ => False) := by
  intro pins ⟨hp, g, dr, tk, os⟩ σ H Q I h
  obtain ⟨_, _, _, _, bm, _, _, _, _, _, _, _, _, _, _, hC, hbm⟩ := T.cls
  refine wpAny_Call_Name_kw (ld_glob I hg hm ?_ hdb)
  refine PySem.W.callWith_K0 I.kIn T.kC ?_
  obtain ⟨a, ha⟩ : ∃ a : Addr, hp.objs.size + 1 = a := ⟨_, rfl⟩
  obtain ⟨G, hG⟩ : ∃ G : Heap, (hp.push (PySem.W.kdv_tup [])).push (PySem.HandSPX.excO C hp.objs.size) = G := ⟨_, rfl⟩
  have le : hp.objs.size ≤ a := by rw [← ha]; exact Nat.le_succ _
  have q := h a (I.hok.fresh le)
  have keep : ∀ b o, hp.get? b = some o → G.get? b = some o := fun b o e => by
    rw [← hG]
    exact Heap.get?_push_of_some _ (Heap.get?_push_of_some _ e)
  have at_a : G.get? a = some (PySem.HandSPX.excO C hp.objs.size) := by
    rw [← hG, ← ha]
    heap_get
  have J : Inv X pins σ (upd H a (exo a C none)) ⟨G, g, dr, tk, os⟩ := I.laid (t' := tk) (a := a) (o := exo a C none) (h' := G) keep le (exo_ok at_a)
  have one : Vals [V.ref a] [Value.ref a] := .cons rfl .nil
  have ln : ([Value.ref a] : List Value).length = ps.length := by rw [← F1.len _ _ _ _ q]; rfl
  subst ha
  subst hG
  refine wpAny_call (PySem.HandSPX.call_own F.excBase_ValueError (fun Y => PySem.HandSPX.refsVE_contains Y bm hbm) (I.kIn _ _ hC) (PySem.W.looks_findIn I.kIn iC) (fun self => PySem.W.bind_fn I.kIn self tI) (Nat.zero_le _)
    (codeAny_mono (F1.run _ X.stack _ _ ⟨[Value.ref (hp.objs.size + 1)], []⟩ [Value.ref (hp.objs.size + 1)] _ _ (fun _ _ _ => False) (hr.make C [] []) (J.env0.make C [] []) (by simpa using hb _ [Value.ref (hp.objs.size + 1)] J.kIn (by simpa using ln)) one q) fun r s' z => ?_))
  cases r with
  | error er => exact hx pins σ _ _ er s' J z
  | ok fl => cases fl with
    | ret u =>
      obtain ⟨v, H2, eo, bare, un, ok, rv, ev, ea, z⟩ := z
      subst ev
      exact ⟨rv, bare_end (raises_own T.exC T.tyC) I le keep un ok eo bare ea z⟩
    | next => exact False.elim z
    | brk => exact False.elim z
    | cont => exact False.elim z
def raise0F (c : Nat) : M Fl := fun s => .exc ⟨c, []⟩ s
theorem sd_raise0 {c : Nat} (hc : X.calm = true) (tk : Takes X W) (T : OexC X.K C) (hct : ct c = C) (iC : PySem.W.findIn X.K (.ref C) "__init__" = some (some (.ref fI))) (tI : PySem.W.typeIn X.K (.ref fI) = some (.type "function"))
    (F1 : FnOk X.prog X.w X.K X.mg X.base (L2.CX X.prog X.w) k fI fd ps (spX0 X.K C)) (hr : Room (k + 1) X.A) (hb : Binds X.K fd ps []) (hg : Gl X x) (hm : X.mg x = some (.ref C)) (hdb : (x == ("__debug__" : Str)) = false := by decide) :
    SD X ct W (.Raise (some (.Call (.Name x p) [] [] pos)) none pos2) (raise0F c) := by
  refine ⟨_, ps_raise hc tk (pmk_bare T iC tI F1 hr hb passL hg hm hdb), fun N σ H γ s R g => ?_⟩
  intro a na
  refine ⟨a, rfl, T, upd_same, rfl, upd_same, ?_⟩
  have sm : Same H (del (upd H a (exo a C none)) a) := fun b u eb => by
    have nb := ne_of_none eb na
    rw [del_ne nb, upd_ne nb]
    exact eb
  exact g _ _ σ γ _ (step_same sm) (R.kept sm) ⟨by rw [hct], .inl ⟨rfl, rfl⟩⟩
end
section
open PySem.W
variable {P : Program} {w : World} {K : PySem.W.Frag} {mg : Str → Option Value} {base : Heap} {ps : List Str} {name qual : Str} {params : Arguments} {scope : Scope} {dV kV doc pm ct oc ccl cl : Value} {an od cdd cld : Option Addr} {cc cda f C : Addr} {osl ccs csl : Array (Option Value)}
  {p0 p1 p2 p3 p4 : Pos} {e : Expr} {es : List Expr} {cvs : Array Value} {file : Str} {tf : Tok} {cdD : ClassData} {ar : Arg}
open FdX in
theorem fn_err0 (lk : K.lookup f = some ⟨oc, od, .func (fnS name qual params (bodyS p0 p1 p2 p3 p4 e es []) scope dV kV doc pm an (.ref cda) ct cc), osl⟩) (hcd : codeIn K (.ref cda) qual = true) (S : ScopeS ps scope)
    (har : (params.posonlyargs ++ params.args).head? = some ar) (hps : ps[0]? = some ar.arg) (T : OexC K C) (hcode : K.lookup cda = some ⟨ccl, cdd, .fields cvs, ccs⟩) (hvs : cvs[2]? = some (.str file tf)) (hfile : ((P.main.file : Str) == file) = true)
    (hcell : K.lookup cc = some ⟨cl, cld, .cell (some (.ref C)), csl⟩) (hD : clsIn K C = some cdD) (hsub : mroIn K C (.ref C) = some true) (hsuper : mg "super" = none) (htop : (P.main.scope.names.lookup ("super" : Str)).isSome = false) (hboot : bootBuiltins "super" = some (.type "super"))
    (hop : nsIn K cStatics "thirdparty.any" = some none) (hsu : ks_superIn K C C "__init__" = some (some (.builtin "ValueError.__init__"))) (hB : subIn K (.ref C) (.type "ValueError") = some true) (hpl : ps.length = 1) (hes : (e :: es).length ≤ 1000)
    (ha : ∀ (A : Around) (outer : List Env) (s : Shared) (H : Hp) (E : XK), PaK (cxS (L2.CX P w) P w K mg base ps (fnS name qual params (bodyS p0 p1 p2 p3 p4 e es []) scope dV kV doc pm an (.ref cda) ct cc) f A outer s H E) ps.length (e :: es))
    (hm1 : eval (.Call (.Attribute (.Call (.Name "super" p0) [] [] p1) "__init__" p2) (e :: es) [] p3) = fun env => (do
      let ov ← attributeBase (.Call (.Name "super" p0) [] [] p1) "__init__" env (eval (.Call (.Name "super" p0) [] [] p1) env)
      standAt p2.atName
      let (f, first) ← holding [ov] (getMethod ov "__init__" (pure false))
      callWith p3 f first (backTo p3 (starEach (e :: es) env)) []) := by rfl)
    (he : ∀ env, starEach (e :: es) env = (false, eval e env) :: starEach es env := by intro _; rfl) (hp3 : ∀ env, (backTo p3 (starEach es env)).any (·.1) = false := by intro _; rfl) :
    FnOk P w K mg base (L2.CX P w) 1 f (fnS name qual params (bodyS p0 p1 p2 p3 p4 e es []) scope dV kV doc pm an (.ref cda) ct cc) ps (spX0 K C) := by
  refine FdX.fn_sup (k := 0) lk hcd S har hps T hcode hvs hfile hcell hD hsub hsuper htop hboot hop hsu hB (fun vs H Q E h => ?_) (fun A outer s H vs Q E hr h => ?_) hm1 he hp3
  · obtain ⟨a, rfl, _⟩ := h
    exact hpl.symm
  · obtain ⟨a, rfl, T', h2, q⟩ := h
    obtain ⟨ta, pa, ra⟩ := pak_run (ha A outer s H E)
    exact ⟨a, [], ta, _, rfl, h2, pa, ra _ H _ (by simp [hpl]) fun zs hz => ⟨rfl, by omega⟩, pss_nil, q⟩
end
structure ErrX0 (P : Program) (w : World) (K : PySem.W.Frag) (mg : Str → Option Value) (base : Heap) (ct : Nat → Addr) (x : Str) (c : Nat) : Prop where
  ex : ∃ (fI : Addr) (fd : FuncData) (ps : List Str), OexC K (ct c) ∧ PySem.W.findIn K (.ref (ct c)) "__init__" = some (some (.ref fI)) ∧ PySem.W.typeIn K (.ref fI) = some (.type "function") ∧ FnOk P w K mg base (L2.CX P w) 1 fI fd ps (spX0 K (ct c)) ∧ L2.Binds K fd ps [] ∧ mg x = some (.ref (ct c))
section
variable {X : Cx} {ct : Nat → Addr} {W : WX} {pos pos2 p : Pos} {x : Str}
theorem sd_raiseE0 {c : Nat} (O : ErrX0 X.prog X.w X.K X.mg X.base ct x c) (hc : X.calm = true) (tk : Takes X W) (hr : Room 2 X.A) (hg : Gl X x := by rfl) (hdb : (x == ("__debug__" : Str)) = false := by decide) : SD X ct W (.Raise (some (.Call (.Name x p) [] [] pos)) none pos2) (raise0F c) := by
  obtain ⟨fI, fd, ps, T, iC, tI, F1, hb, hm⟩ := O.ex
  exact sd_raise0 hc tk T rfl iC tI F1 hr hb hg hm hdb
/-! ## except X: .. without a name -/
def tryO (mb : M Fl) (es : Nat → Option Bool) (mh : M Fl) : M Fl := fun s => match mb s with
  | .exc x s1 => match es x.c with
    | some true => match mh s1 with
      | .ok f s2 => .ok f s2
      | _ => .bad
    | some false => .exc x s1
    | none => .bad
  | o => o
theorem sd_tryO {c : Nat} {body suite : List Stmt} {b₀ : Stmt} {np pos' : Pos} {mb mh : M Fl} {exs : Nat → Option Bool} (O : ErrH X.K X.mg ct x c exs) (hs : X.stack = X.env :: X.outer) (hfr : X.env.frame = some X.env.locals) (tk : Takes X W)
    (hb : ∀ (W' : WX) (pn : List (Addr × Obj)) (xe : Value → Shared → Prop), Takes (X.tr pn xe) W' → PassesOwn (model X.prog X.w) X.A X.env xe → SDs (X.tr pn xe) ct W' body mb)
    (hh : ∀ a oe pn, SDs (X.suite a ((a, oe) :: pn)) ct WF (b₀ :: suite) mh) (hg : Gl X x := by rfl) (hdb : (x == ("__debug__" : Str)) = false := by decide) :
    SD X ct W (.Try body [.ExceptHandler (some (.Name x np)) none (b₀ :: suite) pos'] [] [] pos) (tryO mb exs mh) := by
  let tb : WX → TS := fun W' N σ H => ∃ γ s, Rep X.K ct γ H σ s ∧ GoodS X.K ct W' γ s H (mb s) N
  let th : Addr → Value → Option Addr → TS := fun _ _ _ N σ H => ∃ γ s, Rep X.K ct γ H σ s ∧ GoodS X.K ct WF γ s H (mh s) N
  have pb : ∀ (W' : WX) (pn : List (Addr × Obj)) (xe : Value → Shared → Prop), Takes (X.tr pn xe) W' → PassesOwn (model X.prog X.w) X.A X.env xe → PSs (X.tr pn xe) body (tb W') := fun W' pn xe t1 t2 => by
    obtain ⟨t, pt, r⟩ := (hb W' pn xe t1 t2).ex
    exact ⟨fun pins s σ H N I ⟨γ, s', R, g⟩ => pt.run pins s σ H N I (r N σ H γ s' R g)⟩
  have ph : ∀ (a : Addr) (oe : Obj) (cls : Value) (d : Option Addr) (pn : List (Addr × Obj)), Zc cls d oe → (∃ vs, oe.data = .fields vs) → PSs (X.suite a ((a, oe) :: pn)) (b₀ :: suite) (th a cls d) := fun a oe cls d pn _ _ => by
    obtain ⟨t, pt, r⟩ := (hh a oe pn).ex
    exact ⟨fun pins s σ H N I ⟨γ, s', R, g⟩ => pt.run pins s σ H N I (r N σ H γ s' R g)⟩
  refine ⟨_, ps_try_only hs hfr ⟨hg, hdb, .inl O.mg⟩ tk pb ph, fun N σ H γ s R h => ⟨γ, s, R, ?_⟩⟩
  unfold GoodS tryO at h
  unfold GoodS
  cases e1 : mb s with
  | bad => simp only [e1] at h; exact h
  | ok f s1 => simp only [e1] at h; exact h
  | exc y s1 =>
    simp only [e1] at h
    intro cl d σ' γ' H' st R' hx
    cases e2 : exs y.c with
    | none => simp only [e2] at h; exact False.elim h
    | some bb =>
      simp only [e2] at h
      refine ⟨bb, by rw [hx.1]; exact O.exm _ _ e2, fun e3 a na => ?_, fun e3 => ?_⟩
      · subst e3
        dsimp only at h
        refine ⟨γ', s1, R', GoodS.step st ?_⟩
        cases e4 : mh s1 with
        | bad => simp only [e4] at h; exact h
        | exc z s2 => simp only [e4] at h; exact False.elim h
        | ok f s2 => simp only [e4] at h; exact h
      · subst e3
        exact h cl d σ' γ' H' st R' hx
/-- return ('w', n.f) in an except clause -/
def fieldSH (w f : Str) (x : Exn) : M Fl := match x.fs.lookup f with
  | some d => pur (.rt (RT [.str w, d]))
  | none => stuck
theorem hd_fieldS {c i k2 j : Nat} {w n f : Str} {np p2 p5 p3 pt : Pos} {C : Addr} (hct : ct c = C) (T : XfC X.K C) (hf0 : PySem.W.findIn X.K (.ref C) f = some none) (hp : ∀ a oe pn, PE (X.suite a ((a, oe) :: pn)) (.Name n np) (tVar i))
    (hb : attributeBase (.Name n np) f X.env (eval (.Name n np) X.env) = eval (.Name n np) X.env := by rfl)
    (s1 : starEach [.Constant (.str w) j p5, .Attribute (.Name n np) f p2] X.env = (false, eval (.Constant (.str w) j p5) X.env) :: starEach [.Attribute (.Name n np) f p2] X.env := by rfl)
    (s2 : starEach [.Attribute (.Name n np) f p2] X.env = (false, eval (.Attribute (.Name n np) f p2) X.env) :: starEach [] X.env := by rfl) :
    HD X ct c i [.Return (some (.Tuple [.Constant (.str w) j p5, .Attribute (.Name n np) f p2] k2 pt)) p3] (fieldSH w f) := by
  refine ⟨fun a oe cls d pn hz hf => ⟨_, pss_one (ps_ret (pe_tup (pa_cons pe_str (pa_cons (pe_xf T hf0 hz hf (hp a oe pn) hb) pa_nil s2) s1))), fun N σ H γ s x R hσ hx hxc q => ?_⟩⟩
  unfold fieldSH at q
  cases e : x.fs.lookup f with
  | none => simp only [e] at q; exact False.elim q
  | some df =>
    simp only [e] at q
    obtain ⟨e1, e2⟩ := hx
    rcases e2 with ⟨e3, _⟩ | ⟨dx, fs, e3, e4, e5, e6⟩
    · rw [e3] at e; cases e
    · obtain ⟨v, lv, rv⟩ := lookup_rep e5 e6 e
      refine ⟨_, hσ, rfl, by rw [e1, hxc, hct], dx, fs, v, e3, e4, lv, by show 2 ≤ sizeLine; decide, fun p hp => ?_⟩
      exact q (.ref p) σ γ _ (Step.laid hp) (R.laid hp) (RepD.tup (SqT.of upd_same) (.cons (RepD.str _) (.cons (RepD.mono (keepI_new hp) rv) .nil)))
end
end
end Fd
set_option Elab.async false
set_option linter.all false
set_option maxRecDepth 100000
set_option maxHeartbeats 4000000
namespace Fd
open PySem PySem.Spec PyProof.Rows L2
/-! ## zip of two rows, each a list or a tuple -/
def sqK (K : PySem.W.Frag) (l : Bool) (H : Hp) (a : Addr) (xs : List V) : Prop := match l with
  | true => SqL K H a xs
  | false => SqT K H a xs
def itK (l : Bool) (h : Heap) (it a : Addr) (i : Nat) : Prop := match l with
  | true => h.IsListIter it a i
  | false => h.IsTupleIter it a i
def isK (l : Bool) (h : Heap) (a : Addr) (vs : Array Value) : Prop := match l with
  | true => h.IsList a vs
  | false => h.IsTuple a vs
def obK (l : Bool) (a : Addr) : Obj := match l with
  | true => { cls := .type "list_iterator", data := .fields #[.ref a, .int 0 0] }
  | false => { cls := .type "tuple_iterator", data := .fields #[.ref a, .int 0 0] }
theorem itK_at {l : Bool} {h h' : Heap} {it a : Addr} {i : Nat} (x : itK l h it a i) (e : ∀ o, h.get? it = some o → h'.get? it = some o) : itK l h' it a i := by
  cases l
  · exact Heap.IsTupleIter.at x e
  · exact Heap.IsListIter.at x e
theorem itK_ob {l : Bool} {h : Heap} {it a : Addr} {i : Nat} (x : itK l h it a i) : ∃ o, h.get? it = some o ∧ ∀ v, o.data ≠ .cell v := by
  cases l <;> (obtain ⟨o, e, _, d⟩ := x; exact ⟨o, e, fun v q => by rw [d] at q; cases q⟩)
theorem itK_0 {l : Bool} {h : Heap} {it a : Addr} (e : h.get? it = some (obK l a)) : itK l h it a 0 := by
  cases l <;> exact ⟨_, e, rfl, rfl⟩
theorem begK (l : Bool) (a : Addr) (vs : Array Value) : Begins (.ref a) (obK l a) (fun h => isK l h a vs) := by
  cases l
  · exact begins_tuple a vs
  · exact begins_list a vs
theorem drawK {prog : Program} {w : World} {A : Around} (hh : A.handled = none) (l : Bool) (it a : Addr) (ne : a ≠ it) (vs : Array Value) : Draws prog w A it [it, a] vs.size (fun i v => vs[i]? = some v) (fun i h => itK l h it a i ∧ isK l h a vs) := by
  cases l
  · exact Draws.tuple hh it a ne vs
  · exact Draws.list hh it a ne vs
section
variable {X : Cx} {pins : List (Addr × Obj)} {σ : L2.St} {H : Hp} {s : Shared}
theorem seqK (I : Inv X pins σ H s) {l : Bool} {a : Addr} {xs : List V} (q : sqK X.K l H a xs) : ∃ vs : List Value, Vals xs vs ∧ isK l s.heap a vs.toArray ∧ ∀ ys, sqK X.K l H a ys → ys = xs := by
  cases l
  · obtain ⟨vs, r, p, _⟩ := I.tuple q
    exact ⟨vs, r, p, fun ys h => I.tuple_inj h q⟩
  · obtain ⟨vs, r, p, _⟩ := I.list q
    exact ⟨vs, r, p.isList, fun ys h => I.list_inj h q⟩
theorem isK_lt {l : Bool} {h : Heap} {a : Addr} {vs : Array Value} (x : isK l h a vs) : a < h.objs.size := by
  cases l <;> (obtain ⟨_, e, _⟩ := x; exact Heap.lt_size e)
end
def Itzk (K : PySem.W.Frag) (l m : Bool) (a b : Addr) : It :=
  ⟨fun i H => ∃ xs ys x y, sqK K l H a xs ∧ sqK K m H b ys ∧ xs[i]? = some x ∧ ys[i]? = some y,
   fun i H v H' => ∃ T x y, v = .ref T ∧ H T = none ∧ H' = upd H T (.tup [x, y]) ∧ (∀ xs, sqK K l H a xs → xs[i]? = some x) ∧ ∀ ys, sqK K m H b ys → ys[i]? = some y,
   fun i H => ∃ xs ys, sqK K l H a xs ∧ sqK K m H b ys ∧ min xs.length ys.length = i⟩
structure Apart (z TI TO i1 i2 a b : Addr) : Prop where
  sep : ZipSep2 z TI TO i1 i2 [i1, a] [i2, b]
  n1 : a ≠ i1
  n2 : b ≠ i2
theorem turn_zk {P : Program} {w : World} {K : PySem.W.Frag} {elts : List Expr} {kk : Nat} {tpos : Pos} (l m : Bool) {a b z TI TO i1 i2 : Addr} (D : Apart z TI TO i1 i2 a b) :
    Turn P w K (.Tuple elts kk tpos) (Itzk K l m a b) [z, TI, TO, i1, i2] z (fun i h => IsZip h z TI TO .none ∧ IsTupOf2 h TI (.ref i1) (.ref i2) ∧ (∃ x y, IsTupOf2 h TO x y) ∧ itK l h i1 a i ∧ itK m h i2 b i) where
  mem := by simp
  obj := fun i h st c hc => by
    obtain ⟨ez, eI, ⟨x, y, eO⟩, e1, e2⟩ := st
    simp only [List.mem_cons, List.not_mem_nil, or_false] at hc
    rcases hc with rfl | rfl | rfl | rfl | rfl
    · exact ⟨_, ez, fun v q => nomatch q⟩
    · exact ⟨_, eI, fun v q => nomatch q⟩
    · exact ⟨_, eO, fun v q => nomatch q⟩
    · exact itK_ob e1
    · exact itK_ob e2
  keep := fun i h h' st k => let ⟨ez, eI, ⟨x, y, eO⟩, e1, e2⟩ := st
    ⟨k z (by simp) _ ez, k TI (by simp) _ eI, ⟨x, y, k TO (by simp) _ eO⟩, itK_at e1 (k i1 (by simp)), itK_at e2 (k i2 (by simp))⟩
  item := by
    intro X hP hw hK hc i pins s σ H Ex I hf st hg
    subst hP hw hK
    obtain ⟨ez, eI, eO, e1, e2⟩ := st
    obtain ⟨xs, ys, x, y, qx, qy, hx, hy⟩ := hg
    obtain ⟨us, r1, p1, j1⟩ := seqK I qx
    obtain ⟨ws, r2, p2, j2⟩ := seqK I qy
    obtain ⟨u, hu, ru⟩ := r1.get hx
    obtain ⟨v, hv, rv⟩ := r2.get hy
    have hh := I.ok.hd hc
    have W := WalksT.zipD2 D.sep (drawK (prog := X.prog) (w := X.w) (A := X.A.in1) hh l i1 a D.n1 us.toArray) (drawK (prog := X.prog) (w := X.w) (A := X.A.in1) hh m i2 b D.n2 ws.toArray)
    have lt1 : i < us.toArray.size := by
      have := (List.getElem?_eq_some_iff.mp hu).1
      simpa using this
    have lt2 : i < ws.toArray.size := by
      have := (List.getElem?_eq_some_iff.mp hv).1
      simpa using this
    refine W.item i s _ Ex (Nat.lt_min.mpr ⟨lt1, lt2⟩) ⟨ez, eI, eO, ⟨e1, p1⟩, e2, p2⟩ fun T vals h' tk pt hn hT mid kp => ?_
    obtain ⟨u', v', hu', hv', rfl⟩ := pt
    rw [List.getElem?_toArray, hu] at hu'
    rw [List.getElem?_toArray, hv] at hv'
    cases hu'
    cases hv'
    refine ⟨_, rfl, W.go elts kk tpos i T { s with heap := h', toks := tk } _ _ mid fun h2 st2 kp2 => ?_⟩
    have nT := W.apart i T h' mid
    have hT2 : h2.IsTuple T #[u, v] := hT.at fun o e => kp2 T o nT e
    have kk2 : ∀ c o, c ∉ [z, TI, TO, i1, i2] → s.heap.get? c = some o → h2.get? c = some o := fun c o nc e => by
      have nw : c ∉ [z, TO, i1, i2] := fun z => nc (by simp at z ⊢; rcases z with z | z | z | z <;> simp [z])
      exact kp2 c o nw (kp c o nw e)
    have new : ObjOk X.prog X.w (upd H T (.tup [x, y])) h2 T (.tup [x, y]) := ⟨by show 2 ≤ sizeLine; decide, [u, v], .cons ru (.cons rv .nil), hT2⟩
    have J : Inv X pins σ (upd H T (.tup [x, y])) { s with heap := h2, toks := tk } := I.turnedNew (t' := tk) (ch := [z, TI, TO, i1, i2]) kk2 hf hn new
    obtain ⟨ez', eI', eO', ⟨e1', _⟩, e2', _⟩ := st2
    refine ⟨.ref T, _, J, rfl, ⟨T, x, y, rfl, I.hok.fresh hn, rfl, fun zs hz => by rw [j1 zs hz]; exact hx, fun zs hz => by rw [j2 zs hz]; exact hy⟩, ⟨ez', eI', eO', e1', e2'⟩, fun c hc2 => ?_⟩
    have nc : c ≠ T := fun z => by
      have lt : ∀ {b : Addr} {o : Obj}, s.heap.get? b = some o → b ≠ T := fun e => Nat.ne_of_lt (Nat.lt_of_lt_of_le (Heap.lt_size e) hn)
      simp only [List.mem_cons, List.not_mem_nil, or_false] at hc2
      rcases hc2 with q | q | q | q | q
      · exact lt ez (q ▸ z)
      · exact lt eI (q ▸ z)
      · obtain ⟨_, _, eO⟩ := eO
        exact lt eO (q ▸ z)
      · obtain ⟨_, e, _⟩ := itK_ob e1
        exact lt e (q ▸ z)
      · obtain ⟨_, e, _⟩ := itK_ob e2
        exact lt e (q ▸ z)
    rw [upd_ne nc]
    exact (hf c hc2).1
  done := by
    intro X hP hw hK hc i pins s σ H Ex I hf st hg
    subst hP hw hK
    obtain ⟨ez, eI, eO, e1, e2⟩ := st
    obtain ⟨xs, ys, qx, qy, hi⟩ := hg
    obtain ⟨us, r1, p1, j1⟩ := seqK I qx
    obtain ⟨ws, r2, p2, j2⟩ := seqK I qy
    have hh := I.ok.hd hc
    have W := WalksT.zipD2 D.sep (drawK (prog := X.prog) (w := X.w) (A := X.A.in1) hh l i1 a D.n1 us.toArray) (drawK (prog := X.prog) (w := X.w) (A := X.A.in1) hh m i2 b D.n2 ws.toArray)
    have l1 := r1.length
    have l2 := r2.length
    have en : min us.toArray.size ws.toArray.size = i := by rw [List.size_toArray, List.size_toArray, ← l1, ← l2]; exact hi
    refine W.done s _ Ex (by rw [en]; exact ⟨ez, eI, eO, ⟨e1, p1⟩, e2, p2⟩) fun h' tk kp => ⟨rfl, I.turnedL (t' := tk) (ch := [z, TI, TO, i1, i2]) (fun c o nc e => ?_) hf⟩
    exact kp c o (fun z => nc (by simp at z ⊢; rcases z with z | z | z | z <;> simp [z])) e
  self := fun A i s Q Ex st h => wpAny_pyIter_zip st.1 h
def iZk (K : PySem.W.Frag) (ta : TA) : TI := fun σ H R => ta σ H fun vs Ha => ∃ a b l m xs ys, vs = [.ref a, .ref b] ∧ sqK K l Ha a xs ∧ sqK K m Ha b ys ∧ R (Itzk K l m a b) Ha
theorem not2 {c x y : Nat} (h1 : c ≠ x) (h2 : c ≠ y) : ¬ (show Addr from c) ∈ ([x, y] : List Addr) := fun z => by
  rcases List.mem_cons.mp z with z | z
  · exact h1 z
  · exact h2 (List.mem_singleton.mp z)
theorem apart_new {n a b : Nat} (ha : a < n) (hb : b < n) : Apart (n + 4 : Nat) (n + 2 : Nat) (n + 3 : Nat) n (n + 1 : Nat) a b := by
  have e : ∀ i j : Nat, i ≠ j → (n + i : Nat) ≠ n + j := fun i j q z => q (by omega)
  exact ⟨⟨e 2 4 (by decide), e 3 4 (by decide), e 2 3 (by decide), e 2 0 (by decide), List.mem_cons_self, not2 (e 4 0 (by decide)) (by omega), not2 (e 3 0 (by decide)) (by omega), e 2 1 (by decide), List.mem_cons_self,
    not2 (e 4 1 (by decide)) (by omega), not2 (e 3 1 (by decide)) (by omega), not2 (e 0 1 (by decide)) (by omega), not2 (e 1 0 (by decide)) (by omega)⟩, Nat.ne_of_lt ha, Nat.ne_of_lt (Nat.lt_succ_of_lt hb)⟩
theorem pi_zk {X : Cx} {e1 e2 : Expr} {ta : TA} {p pos tpos : Pos} {elts : List Expr} {kk : Nat} (hg : Gl X "zip") (hm : X.mg "zip" = none) (ha : PA X [e1, e2] ta) (hs : starEach [e1, e2] X.env = (false, eval e1 X.env) :: starEach [e2] X.env := by rfl) (hpl : (backTo pos (starEach [e2] X.env)).any (·.1) = false := by rfl) :
    PI X (.Tuple elts kk tpos) (.Call (.Name "zip" p) [e1, e2] [] pos) (iZk X.K ta) := by
  refine ⟨fun pins s σ H R I h => Call_ (ld_blt I hg hm PyProof.Rows.boot_zip (PyProof.Rows.callWith_type1 (thn (ha.run pos pins s σ H _ I h) fun us sa ⟨vs, Ha, Ia, rs, a, b, l, m, xs, ys, ev, qx, qy, q⟩ => ?_) hs hpl))⟩
  subst ev
  cases rs with
  | cons ra rs => cases rs with
    | cons rb rs =>
      cases rs
      cases ra
      cases rb
      obtain ⟨vx, _, p1, _⟩ := seqK Ia qx
      obtain ⟨vy, _, p2, _⟩ := seqK Ia qy
      refine zip_begins2 (begK l a vx.toArray) (begK m b vy.toArray) p1 p2 fun h' ez eI eO o1 o2 sz kp => wpAny_pyIter_zip ez ?_
      refine ⟨sa.heap.objs.size + 4, [sa.heap.objs.size + 4, sa.heap.objs.size + 2, sa.heap.objs.size + 3, sa.heap.objs.size, sa.heap.objs.size + 1], _, _, Ha, rfl, Ia.kept (t' := sa.toks) kp, turn_zk l m (apart_new (isK_lt p1) (isK_lt p2)), ⟨ez, eI, ⟨_, _, eO⟩, itK_0 o1, itK_0 o2⟩, fun c hc => ?_, q⟩
      have le : sa.heap.objs.size ≤ c := by
        simp only [List.mem_cons, List.not_mem_nil, or_false] at hc
        rcases hc with z | z | z | z | z <;> (rw [z]; first | exact Nat.le_refl _ | exact Nat.le_add_right _ _)
      exact Ia.fpOk le (Ia.hok.fresh le)
theorem walk_zk {K : PySem.W.Frag} {l m : Bool} {a b : Addr} {xs ys : List V} : L2.Walk (Itzk K l m a b) (min xs.length ys.length) (fun H => sqK K l H a xs ∧ sqK K m H b ys) (YPair (fun i => xs[i]?) (fun i => ys[i]?)) := by
  refine ⟨fun i H hi q => ?_, fun H q => ⟨xs, ys, q.1, q.2, rfl⟩, fun i H v H' _ q y => ?_⟩
  · have h1 : i < xs.length := by omega
    have h2 : i < ys.length := by omega
    exact ⟨xs, ys, xs[i], ys[i], q.1, q.2, by simp [h1], by simp [h2]⟩
  · obtain ⟨T, x, z, h1, h2, h3, h4, h5⟩ := y
    exact ⟨T, x, z, h1, h2, h3, h4 xs q.1, h5 ys q.2⟩
/-! ## zip over data -/
def rowD : D → Option (List D)
  | .tup ds => some ds
  | .lst ds => some ds
  | _ => none
def zipF (a b : List D) : List SV := (a.zip b).map fun p => .dat (.tup [p.1, p.2])
def zipM : List RV → M Src
  | [.sv (.dat a), .sv (.dat b)] => match rowD a, rowD b with
    | some xs, some ys => pur ⟨zipF xs ys, none⟩
    | _, _ => stuck
  | _ => stuck
section
variable {X : Cx} {ct : Nat → Addr} {W : WX} {p pos tpos : Pos} {e1 e2 : Expr} {mB : M (List RV)} {elts : List Expr} {kk : Nat}
theorem row_rep {K : PySem.W.Frag} {H : Hp} {v : V} {d : D} {ds : List D} (r : RepD K ct H v d) (e : rowD d = some ds) : ∃ a l vs, v = .ref a ∧ RepDs K ct H vs ds ∧ ∀ {H' : Hp}, KeepI H H' → sqK K l H' a vs := by
  cases d with
  | tup xs =>
    cases e
    cases r with
    | tup h w => exact ⟨_, false, _, rfl, w, fun k => sqT_mono k h⟩
  | lst xs =>
    cases e
    cases r with
    | lst h w => exact ⟨_, true, _, rfl, w, fun k => (h.mono k).sq⟩
  | _ => cases e
theorem walkD_zip {K : PySem.W.Frag} {γ : G} {s : S} {H : Hp} {l m : Bool} {a b : Addr} {vs ws : List V} {xs ys : List D} (h1 : ∀ {H' : Hp}, KeepI H H' → sqK K l H' a vs) (h2 : ∀ {H' : Hp}, KeepI H H' → sqK K m H' b ws) (p1 : RepDs K ct H vs xs) (p2 : RepDs K ct H ws ys) :
    WalkD K ct (Itzk K l m a b) ⟨zipF xs ys, none⟩ γ s H := by
  refine ⟨_, _, by rw [show (Src.mk (zipF xs ys) none).items.length = min vs.length ws.length by show (zipF xs ys).length = _; simp [zipF, p1.length, p2.length]]; exact walk_zk (K := K) (l := l) (m := m) (a := a) (b := b) (xs := vs) (ys := ws), fun γ1 s1 H1 σ1 st R1 _ => And.intro (h1 st.imm) (h2 st.imm), ?_⟩
  rintro i γ1 s1 H1 σ1 x H2 y st R1 ok e ⟨T, u, z, rfl, hT, rfl, eu, ez⟩
  have e' : ((xs.zip ys).map fun p => SV.dat (.tup [p.1, p.2]))[i]? = some y := e
  rw [List.getElem?_map] at e'
  cases e3 : (xs.zip ys)[i]? with
  | none => rw [e3] at e'; cases e'
  | some q =>
    rw [e3] at e'
    cases e'
    obtain ⟨q1, q2⟩ := List.getElem?_zip_eq_some.mp e3
    obtain ⟨v1, w1, r1⟩ := (RepDs.mono st.imm p1).get q1
    obtain ⟨v2, w2, r2⟩ := (RepDs.mono st.imm p2).get q2
    have eu' : vs[i]? = some u := eu
    have ez' : ws[i]? = some z := ez
    rw [w1] at eu'
    rw [w2] at ez'
    cases eu'
    cases ez'
    refine ⟨fun c o hc => by rw [upd_ne (ne_of_none hc hT)]; exact hc, ?_⟩
    exact RepD.tup (SqT.of upd_same) (.cons (RepD.mono (keepI_new hT) r1) (.cons (RepD.mono (keepI_new hT) r2) .nil))
theorem id_zip (hg : Gl X "zip") (hm : X.mg "zip" = none) (ha : BD X ct W [e1, e2] mB) (hs : starEach [e1, e2] X.env = (false, eval e1 X.env) :: starEach [e2] X.env := by rfl) (hpl : (backTo pos (starEach [e2] X.env)).any (·.1) = false := by rfl) : ID X ct W (.Tuple elts kk tpos) (.Call (.Name "zip" p) [e1, e2] [] pos) (bnd mB zipM) := by
  obtain ⟨t, pt, r⟩ := ha.ex
  refine ⟨_, pi_zk hg hm pt hs hpl, fun σ H γ s R0 R h => ?_⟩
  refine r σ H γ s _ R (Out.post.imp (post_bnd h) (fun xs s1 g vs γ1 H1 t1 R1 q1 => ?_) fun _ _ z => z)
  unfold zipM at g
  split at g
  · rename_i d1 d2
    cases q1 with
    | cons q1 q2 => cases q2 with
      | cons q2 q3 =>
        cases q3
        cases e1 : rowD d1 with
        | none => rw [e1] at g; exact False.elim g
        | some xs => cases e2 : rowD d2 with
          | none => rw [e1, e2] at g; exact False.elim g
          | some ys =>
            rw [e1, e2] at g
            obtain ⟨a, l, us, rfl, w1, k1⟩ := row_rep (show RepD X.K ct H1 _ d1 from q1) e1
            obtain ⟨b, m, ws, rfl, w2, k2⟩ := row_rep (show RepD X.K ct H1 _ d2 from q2) e2
            exact ⟨a, b, l, m, us, ws, rfl, k1 KeepI.refl, k2 KeepI.refl, g γ1 H1 _ t1 R1 (walkD_zip k1 k2 w1 w2)⟩
  · exact False.elim g
end
section
variable {s : S}
@[simp] theorem e_zipM (a b : D) : zipM [RD a, RD b] s = match rowD a, rowD b with
  | some xs, some ys => .ok ⟨zipF xs ys, none⟩ s
  | _, _ => .bad := by
  show (match rowD a, rowD b with | some xs, some ys => pur (Src.mk (zipF xs ys) none) | _, _ => stuck) s = _
  cases rowD a with
  | none => rfl
  | some _ => cases rowD b <;> rfl
@[simp] theorem e_rowT (ds : List D) : rowD (.tup ds) = some ds := rfl
@[simp] theorem e_rowL (ds : List D) : rowD (.lst ds) = some ds := rfl
end
end Fd
set_option Elab.async false
set_option linter.all false
set_option maxRecDepth 100000
set_option maxHeartbeats 4000000
/-! ## sorted(x), x a list or a tuple of ints -/
namespace Fd
open PySem PySem.Spec PyProof.Rows L2
section
open SrtO Srt
variable {prog : Program} {w : World} {A : Around} {E : Value → Shared → Prop} {s : Shared}
abbrev copyT (h : Heap) (ws : List Value) : Heap :=
  (h.push (seqObj "list" #[] 0)).update h.objs.size (Obj.mapSeq (· ++ ws.toArray))
theorem colT {t : Addr} {ws : List Value} {R : List Value → Shared → Prop} (ht : IsTup s.heap t ws.toArray) (hz : ws.length ≤ sizeLine)
    (k : R ws { s with heap := copyT s.heap ws }) : wpAny (model prog w) A (collect (.ref t)) R E s := by
  obtain ⟨o, ho, hc, n, hd⟩ := id ht
  have hnew : (s.heap.push (seqObj "list" #[] 0)).get? s.heap.objs.size = some (seqObj "list" #[] 0) := Heap.get?_push_size _ rfl
  have ho2 : (s.heap.push (seqObj "list" #[] 0)).get? t = some o := Heap.get?_push_of_some _ ho
  have et : (Value.type "tuple" == Value.type "tuple") = true := by rfl
  unfold collect
  refine (wpAny_bind (wpAny_runValue (codeAny_builtin entry_proto_collect' ?_)))
  show wpAny _ _ (do again (.builtin "list.__iadd__" ⟨[← newList [], .ref t], []⟩)) _ _ s
  refine (wpAny_bind (wpAny_newList (wpAny_pure ⟨Code.quiet_builtin _ (by decide +kernel), codeAny_builtin entry_list_iadd' ?_⟩)))
  show wpAny _ _ (Builtin.List.listExtendWith (.ref s.heap.objs.size) (.ref t) (.ref s.heap.objs.size)) _ _ { s with heap := s.heap.push (seqObj "list" #[] 0) }
  unfold Builtin.List.listExtendWith
  refine (wpAny_bind (wpAny_typeOf (T := "tuple") ⟨o, ho2, hc⟩ ?_))
  rw [if_pos (by rw [et, Bool.or_true])]
  refine (wpAny_bind (listItems_at ho2 hd ?_))
  refine (wpAny_bind (listItems_at (xs := #[]) (n := 0) hnew rfl ?_))
  rw [if_neg (fun z => by simp at z)]
  refine (wpAny_bind (listUpdate_at (xs := #[]) (n := 0) hnew rfl ?_ (Nat.zero_le _) (by
    show (#[] ++ ws.toArray).size ≤ sizeLine + 1
    rw [Array.size_append, List.size_toArray]
    show 0 + ws.length ≤ _
    omega)))
  refine (wpAny_pure ?_)
  show wpAny (model prog w) A (do
      let y ← load s.heap.objs.size
      match y.data with
      | .seq ys _ => pure ys.toList
      | _ => unsupported "internal:collect") R E { s with heap := copyT s.heap ws }
  refine (wpAny_bind (wpAny_load (get?_update_seq hnew _) ?_))
  show wpAny _ _ (pure ((#[] : Array Value) ++ ws.toArray).toList) R E _
  have e : ((#[] : Array Value) ++ ws.toArray).toList = ws := by simp
  rw [e]
  exact wpAny_pure k
theorem sortT {t : Addr} {ws : List Value} {lt : Value → Value → Bool} {R : Value → Shared → Prop} (O : Swo lt) (ht : IsTup s.heap t ws.toArray) (hz : ws.length ≤ sizeLine)
    (can : 2 ≤ ws.length → ∀ (h1 : Heap) (a : Addr), h1.get? a = some (seqObj "list" ws.toArray 0) → (∀ b o, s.heap.get? b = some o → b ≠ a ∧ h1.get? b = some o) → SortableO prog w A.in1.in1 { s with heap := h1 } a ws lt)
    (k : ∀ out : List Value, Srtd lt out → Stb lt out ws → R (.ref (s.heap.objs.size + 1)) { s with heap := sortedAll s.heap ws out.toArray }) : wpAny (model prog w) A (call (.builtin "sorted") [.ref t]) R E s := by
  refine (Calls.call_function_entry kind_sorted plain_sorted entry_sorted (args_sorted1 _) ?_)
  unfold Builtin.«sorted»
  refine (wpAny_bind (m := checkCount "sorted" 1 1 _) (wpAny_pure ?_))
  refine (wpAny_bind (colT ht hz ?_))
  refine (wpAny_bind (wpAny_newList ?_ hz))
  have sz : (copyT s.heap ws).objs.size = s.heap.objs.size + 1 := by
    unfold copyT
    rw [Heap.size_update, size_push']
  have at1 : ((copyT s.heap ws).push (seqObj "list" ws.toArray 0)).get? (s.heap.objs.size + 1) = some (seqObj "list" ws.toArray 0) := by
    rw [← sz]
    exact Heap.get?_push_size _ rfl
  have old : ∀ b o, s.heap.get? b = some o → b ≠ s.heap.objs.size + 1 ∧ ((copyT s.heap ws).push (seqObj "list" ws.toArray 0)).get? b = some o := fun b o q => by
    have lt1 : b < s.heap.objs.size := Heap.lt_size q
    refine ⟨Nat.ne_of_lt (Nat.lt_succ_of_lt lt1), Heap.get?_push_of_some _ ?_⟩
    unfold copyT
    rw [Heap.get?_update_ne _ _ _ _ (Nat.ne_of_lt lt1)]
    exact Heap.get?_push_of_some _ q
  show wpAny _ _ _ _ _ { s with heap := (copyT s.heap ws).push (seqObj "list" ws.toArray 0) }
  rw [sz]
  refine (wpAny_bind (wpAny_holding (wpAny_call_entry slot_list_sort ⟨_, at1, rfl⟩ entry_list_sort (list_sort_ord O at1 hz (fun h2 => can h2 _ _ at1 old) fun out a b => ⟨_, rfl, ?_⟩) (args_list_sort _))))
  exact wpAny_pure ⟨_, rfl, k out a b⟩
end
def rSortedB (K : PySem.W.Frag) : List V → Hp → VK → Prop := fun vs H Q => ∃ (a : Addr) (ns : List Int), vs = [.ref a] ∧ (SqL K H a (ns.map V.int) ∨ SqT K H a (ns.map V.int)) ∧
  ∀ (l : List Int) (p : Addr), l.Perm ns → l.Pairwise (· ≤ ·) → H p = none → Q (.ref p) (upd H p (.lst (l.map V.int)))
theorem cr_sortedB {X : Cx} : CallR X (.builtin "sorted") (rSortedB X.K) := by
  intro pins s σ H vs us Q I r h
  obtain ⟨a, ns, rfl, hs, q⟩ := h
  rcases hs with hs | hs
  · exact cr_sortedI pins s σ H _ us Q I r ⟨a, ns, rfl, hs, q⟩
  · obtain ⟨its, rv, hl, hz⟩ := I.tuple hs
    rw [Vals.ref1 r]
    have hi := rv.ints
    refine sortT SrtO.swo_int hl (rv.length ▸ hz) (fun h2 h1 b _ _ => SrtO.ints_sortable hi h2) fun out h1 h2 => ?_
    obtain ⟨k1, k2, k3⟩ := SrtO.ints_out hi h1 h2
    obtain ⟨ep, he⟩ := PyProof.Rows.sortedAll_at s.heap its out.toArray
    have hlen : ((out.map SrtO.iv).map V.int).length ≤ sizeLine := by
      rw [List.length_map] at hz ⊢
      rw [k2.length_eq]
      exact hz
    refine ⟨.ref _, upd H (s.heap.objs.size + 1) (.lst ((out.map SrtO.iv).map V.int)), ?_, rfl, q _ _ k2 k3 (I.hok.fresh (Nat.le_succ _))⟩
    exact I.laid (t' := s.toks) (fun _ _ => PyProof.Rows.sortedAll_old) (Nat.le_succ _) ⟨hlen, out, ep, vals_of_ints k1, he⟩
/-! ### the sorted list as a function -/
def insI (k : Int) : List Int → List Int
  | [] => [k]
  | x :: xs => if k ≤ x then k :: x :: xs else x :: insI k xs
def sortI : List Int → List Int
  | [] => []
  | x :: xs => insI x (sortI xs)
theorem insI_perm (k : Int) : ∀ l : List Int, (insI k l).Perm (k :: l)
  | [] => List.Perm.refl _
  | x :: xs => by
    unfold insI
    split
    · exact List.Perm.refl _
    · exact ((insI_perm k xs).cons x).trans (List.Perm.swap k x xs)
theorem sortI_perm : ∀ l : List Int, (sortI l).Perm l
  | [] => List.Perm.refl _
  | x :: xs => (insI_perm x _).trans ((sortI_perm xs).cons x)
theorem insI_up (k : Int) : ∀ {l : List Int}, l.Pairwise (· ≤ ·) → (insI k l).Pairwise (· ≤ ·)
  | [], _ => List.pairwise_singleton _ _
  | x :: xs, h => by
    obtain ⟨h1, h2⟩ := List.pairwise_cons.mp h
    unfold insI
    split
    · rename_i c
      refine List.pairwise_cons.mpr ⟨fun y hy => ?_, h⟩
      rcases List.mem_cons.mp hy with rfl | hy
      · exact c
      · have := h1 y hy; omega
    · rename_i c
      refine List.pairwise_cons.mpr ⟨fun y hy => ?_, insI_up k h2⟩
      rcases List.mem_cons.mp ((insI_perm k xs).mem_iff.mp hy) with rfl | hy
      · omega
      · exact h1 y hy
theorem sortI_up : ∀ l : List Int, (sortI l).Pairwise (· ≤ ·)
  | [] => List.Pairwise.nil
  | x :: xs => insI_up x (sortI_up xs)
theorem up_perm : ∀ {a b : List Int}, a.Pairwise (· ≤ ·) → b.Pairwise (· ≤ ·) → a.Perm b → a = b
  | [], [], _, _, _ => rfl
  | [], y :: ys, _, _, p => by have := p.length_eq; simp at this
  | x :: xs, [], _, _, p => by have := p.length_eq; simp at this
  | x :: xs, y :: ys, ha, hb, p => by
    obtain ⟨a1, a2⟩ := List.pairwise_cons.mp ha
    obtain ⟨b1, b2⟩ := List.pairwise_cons.mp hb
    have e : x = y := by
      rcases List.mem_cons.mp (p.mem_iff.mp List.mem_cons_self) with e | e
      · exact e
      · rcases List.mem_cons.mp (p.mem_iff.mpr List.mem_cons_self) with f | f
        · exact f.symm
        · have := a1 y f; have := b1 x e; omega
    subst e
    rw [up_perm a2 b2 ((List.perm_cons x).mp p)]
def sortedM : List RV → M RV
  | [.sv (.dat (.tup ds))] => fun s => match intsL (ds.map SV.dat) with
    | some is => .ok (.new ((sortI is).map fun k => .dat (.int k))) s
    | none => .bad
  | [x] => fun s => match seqL s x with
    | some xs => match intsL xs with
      | some is => .ok (.new ((sortI is).map fun k => .dat (.int k))) s
      | none => .bad
    | none => .bad
  | _ => stuck
section
variable {X : Cx} {ct : Nat → Addr}
theorem reps_ints {K : PySem.W.Frag} {γ : G} {n : Nat} {H : Hp} : ∀ l : List Int, Paired (RepS K ct γ n H) (l.map V.int) (l.map fun k => SV.dat (.int k))
  | [] => .nil
  | k :: l => .cons (.int k) (reps_ints l)
theorem sortedM_ok : CallOk X ct (rSortedB X.K) sortedM := by
  intro W σ γ s H Ha vs rs Q R q h
  have fin : ∀ (a : Addr) (us : List V) (is : List Int) (xs : List SV), us = is.map V.int → vs = [.ref a] → (SqL X.K H a us ∨ SqT X.K H a us) → Good X.K ct W σ γ s H (.ok (.new ((sortI is).map fun k => .dat (.int k))) s) Q → rSortedB X.K vs H Q := by
    rintro a us is xs rfl rfl sq g
    refine ⟨a, is, rfl, sq, fun l p hp hu hn => ?_⟩
    have : l = sortI is := up_perm hu (sortI_up is) (hp.trans (sortI_perm is).symm)
    subst this
    exact good_new R (reps_ints _) g p hn
  unfold sortedM at h
  split at h
  · rename_i ds
    cases q with
    | cons q1 q2 =>
      cases q2
      split at h
      · rename_i is e2
        obtain ⟨p1, vs1, rfl, h1, w1⟩ := tup_rep q1
        exact fin p1 vs1 is [] (intsL_rep (γ := γ) (n := 0) e2 (rep_map w1)) rfl (.inr h1) h
      · exact False.elim h
  · rename_i x _
    cases q with
    | cons q1 q2 =>
      cases q2
      cases e1 : seqL s x with
      | none => simp only [e1] at h; exact False.elim h
      | some xs =>
        cases e2 : intsL xs with
        | none => simp only [e1, e2] at h; exact False.elim h
        | some is =>
          simp only [e1, e2] at h
          obtain ⟨a, us, rfl, hq, pr⟩ := seqL_rep R e1 q1
          exact fin a us is xs (intsL_rep e2 pr) rfl (.inl hq) h
  · exact False.elim h
end
section
variable {s : S}
@[simp] theorem e_sortT (ds : List D) : sortedM [RT ds] s = match intsL (ds.map SV.dat) with
  | some is => .ok (.new ((sortI is).map fun k => .dat (.int k))) s
  | none => .bad := rfl
@[simp] theorem e_sortL (ds : List D) : sortedM [RD (.lst ds)] s = match intsL (ds.map SV.dat) with
  | some is => .ok (.new ((sortI is).map fun k => .dat (.int k))) s
  | none => .bad := rfl
end
end Fd
namespace Fd
open PySem PySem.Spec PyProof.Rows L2
/-! ## tuple * int (from 2 on) -/
def repTM : RV → RV → M RV
  | .sv (.dat (.tup ds)), .sv (.dat (.int n)) => fun s => if ds ≠ [] ∧ 2 ≤ n ∧ n ≤ 1000 ∧ ds.length ≤ 1000 then .ok (RT (List.replicate n.toNat ds).flatten) s else .bad
  | _, _ => stuck
section
variable {X : Cx} {ct : Nat → Addr} {W : WX} {pos : Pos} {a b : Expr} {ma mb : M RV}
theorem repDs_rep {K : PySem.W.Frag} {H : Hp} {vs : List V} {ds : List D} (h : RepDs K ct H vs ds) : ∀ n : Nat, RepDs K ct H (List.replicate n vs).flatten (List.replicate n ds).flatten
  | 0 => .nil
  | n + 1 => by
    rw [List.replicate_succ, List.flatten_cons, List.replicate_succ, List.flatten_cons]
    exact RepDs.append h (repDs_rep h n)
theorem repTM_ok : BinOk X ct (rRepT X.K) repTM := by
  intro W σ γ s H Ha Hb x y r1 r2 Q R q1 q2 h
  unfold repTM at h
  split at h
  · rename_i ds n
    by_cases cc : ds ≠ [] ∧ 2 ≤ n ∧ n ≤ 1000 ∧ ds.length ≤ 1000
    · rw [if_pos cc] at h
      obtain ⟨p1, vs1, rfl, h1, w1⟩ := tup_rep q1
      have hl := w1.length
      refine ⟨p1, n, vs1, rfl, rep_int q2, h1, fun z => cc.1 ?_, cc.2.1, cc.2.2.1, by omega, good_tup R (repDs_rep w1 _) h⟩
      rw [z] at hl
      exact List.eq_nil_of_length_eq_zero hl.symm
    · rw [if_neg cc] at h; exact False.elim h
  · exact False.elim h
theorem ed_repT (ha : ED X ct W a ma) (hb : ED X ct W b mb) : ED X ct W (.BinOp a .Mult b pos) (m2 ma mb repTM) := ed_bin op_repT repTM_ok ha hb
end
@[simp] theorem e_repTM (ds : List D) (n : Int) (s : S) : repTM (RT ds) (RI n) s = if ds ≠ [] ∧ 2 ≤ n ∧ n ≤ 1000 ∧ ds.length ≤ 1000 then .ok (RT (List.replicate n.toNat ds).flatten) s else .bad := rfl
end Fd
set_option Elab.async false
set_option linter.all false
set_option maxRecDepth 100000
set_option maxHeartbeats 4000000
namespace Law
open PySem PySem.Spec PyProof.Rows L2 Fd
def top (i : Nat) : Stmt := PySem.Challenge.pw_stillarms_k05_whole_other_arms_led_along.main.body.getD i (.Pass ⟨0, 0, 0, 0⟩)
abbrev s_is_whole : Stmt := top 10
abbrev s_is_ratio : Stmt := top 11
abbrev s_is_above_zero : Stmt := top 12
abbrev s_lowest_terms : Stmt := top 13
abbrev s_plus : Stmt := top 14
abbrev s_times : Stmt := top 15
abbrev s_is_row : Stmt := top 20
abbrev s_is_place_form : Stmt := top 21
abbrev s_check_place : Stmt := top 22
abbrev s_bad_bar : Stmt := top 23
abbrev s_check_bars : Stmt := top 24
abbrev s_check_order : Stmt := top 25
abbrev s_law_hand : Stmt := top 28
abbrev s_law_take : Stmt := top 29
abbrev s_law_gcd : Stmt := top 30
abbrev s_law_ratio : Stmt := top 31
abbrev s_law_plus : Stmt := top 32
abbrev s_law_times : Stmt := top 33
abbrev s_law_over : Stmt := top 34
abbrev s_law_mark : Stmt := top 35
abbrev s_law_letters : Stmt := top 36
abbrev s_law_bars : Stmt := top 37
abbrev s_law_most : Stmt := top 38
abbrev s_law_wide : Stmt := top 39
abbrev s_law_wide_ratio : Stmt := top 40
abbrev s_law_tuples : Stmt := top 41
abbrev s_law_odd : Stmt := top 42
abbrev s_law_grown_place : Stmt := top 43
abbrev s_law_moved_place : Stmt := top 44
abbrev s_law_order : Stmt := top 45
abbrev s_law_renamed : Stmt := top 46
abbrev s_law_grown : Stmt := top 47
abbrev s_law_shifted : Stmt := top 48
abbrev s_law_named : Stmt := top 49
abbrev s_law_longer : Stmt := top 50
abbrev s_law_refused : Stmt := top 51
abbrev s_law_added : Stmt := top 52
abbrev s_law : Stmt := top 53
abbrev s_Arms___init__ : Stmt := inClass (top 26) 0
abbrev s_Arms___len__ : Stmt := inClass (top 26) 1
abbrev s_Arms___eq__ : Stmt := inClass (top 26) 2
abbrev s_Arms_line_row : Stmt := inClass (top 26) 3
abbrev s_Arms_row_of : Stmt := inClass (top 26) 4
abbrev s_Arms_with_bar : Stmt := inClass (top 26) 7
abbrev s_Arms_grown : Stmt := inClass (top 26) 8
abbrev s_Arms_renamed : Stmt := inClass (top 26) 9
abbrev s_Arms_shifted : Stmt := inClass (top 26) 10
abbrev i_BadPlace : Stmt := inClass (top 4) 0
abbrev i_BadArms : Stmt := inClass (top 5) 0
abbrev i_BadSize : Stmt := inClass (top 6) 0
abbrev i_BadOrder : Stmt := inClass (top 7) 0
structure Txt (P : Program) (w : World) (K : PySem.W.Frag) (mg : Str → Option Value) (base : Heap) (ct : Nat → Addr) : Prop where
  abs : mg "abs" = none
  bool : mg "bool" = none
  enumerate : mg "enumerate" = none
  int : mg "int" = none
  isinstance : mg "isinstance" = none
  len : mg "len" = none
  list : mg "list" = none
  max : mg "max" = none
  min : mg "min" = none
  range : mg "range" = none
  sorted : mg "sorted" = none
  str : mg "str" = none
  tuple : mg "tuple" = none
  gcd : mg "gcd" = some (.builtin "math.gcd")
  c_MAST : CsT K mg ct "MAST" (.int (-1))
  c_MOST_BARS : CsT K mg ct "MOST_BARS" (.int 6)
  c_MOST_LETTERS : CsT K mg ct "MOST_LETTERS" (.int 4)
  c_ZERO : CsT K mg ct "ZERO" (.tup [.int 0, .int 1])
  f_is_whole : FnT K mg "is_whole" s_is_whole [.non, .non]
  f_is_ratio : FnT K mg "is_ratio" s_is_ratio []
  f_is_above_zero : FnT K mg "is_above_zero" s_is_above_zero []
  f_lowest_terms : FnT K mg "lowest_terms" s_lowest_terms []
  f_plus : FnT K mg "plus" s_plus []
  f_times : FnT K mg "times" s_times []
  f_is_row : FnT K mg "is_row" s_is_row []
  f_is_place_form : FnT K mg "is_place_form" s_is_place_form []
  f_check_place : FnT K mg "check_place" s_check_place []
  f_bad_bar : FnT K mg "bad_bar" s_bad_bar []
  f_check_bars : FnT K mg "check_bars" s_check_bars []
  f_check_order : FnT K mg "check_order" s_check_order []
  f_law_hand : FnT K mg "_law_hand" s_law_hand []
  f_law_take : FnT K mg "_law_take" s_law_take []
  f_law_gcd : FnT K mg "_law_gcd" s_law_gcd []
  f_law_ratio : FnT K mg "_law_ratio" s_law_ratio []
  f_law_plus : FnT K mg "_law_plus" s_law_plus []
  f_law_times : FnT K mg "_law_times" s_law_times []
  f_law_over : FnT K mg "_law_over" s_law_over []
  f_law_mark : FnT K mg "_law_mark" s_law_mark []
  f_law_letters : FnT K mg "_law_letters" s_law_letters []
  f_law_bars : FnT K mg "_law_bars" s_law_bars [.int 2]
  f_law_most : FnT K mg "_law_most" s_law_most []
  f_law_wide : FnT K mg "_law_wide" s_law_wide []
  f_law_wide_ratio : FnT K mg "_law_wide_ratio" s_law_wide_ratio []
  f_law_tuples : FnT K mg "_law_tuples" s_law_tuples []
  f_law_odd : FnT K mg "_law_odd" s_law_odd []
  f_law_grown_place : FnT K mg "_law_grown_place" s_law_grown_place []
  f_law_moved_place : FnT K mg "_law_moved_place" s_law_moved_place []
  f_law_order : FnT K mg "_law_order" s_law_order []
  f_law_renamed : FnT K mg "_law_renamed" s_law_renamed []
  f_law_grown : FnT K mg "_law_grown" s_law_grown []
  f_law_shifted : FnT K mg "_law_shifted" s_law_shifted []
  f_law_named : FnT K mg "_law_named" s_law_named []
  f_law_longer : FnT K mg "_law_longer" s_law_longer []
  f_law_refused : FnT K mg "_law_refused" s_law_refused []
  f_law_added : FnT K mg "_law_added" s_law_added []
  allc : AllC K ct 4 5
  k_Arms : MkT K mg ct 4 "Arms"
  ne_Arms : PySem.W.findIn K (.ref (ct 4)) "__ne__" = some (some (.builtin "object.__ne__"))
  fld_bars : FldC K ct [4] "bars"
  fld_letters : FldC K ct [4] "letters"
  mt_Arms_with_bar : MthT K ct 4 "with_bar" "Arms.with_bar" s_Arms_with_bar []
  mt_Arms_renamed : MthT K ct 4 "renamed" "Arms.renamed" s_Arms_renamed []
  mt_Arms_row_of : MthT K ct 4 "row_of" "Arms.row_of" s_Arms_row_of []
  mt_Arms_line_row : MthT K ct 4 "line_row" "Arms.line_row" s_Arms_line_row []
  mt_Arms___len__ : MthT K ct 4 "__len__" "Arms.__len__" s_Arms___len__ []
  mt_Arms___init__ : MthT K ct 4 "__init__" "Arms.__init__" s_Arms___init__ []
  mt_Arms___eq__ : MthT K ct 4 "__eq__" "Arms.__eq__" s_Arms___eq__ []
  mt_Arms_shifted : MthT K ct 4 "shifted" "Arms.shifted" s_Arms_shifted []
  mt_Arms_grown : MthT K ct 4 "grown" "Arms.grown" s_Arms_grown []
  x_BadPlace : ErrX0 P w K mg base ct "BadPlace" 0
  x_BadArms : ErrX P w K mg base ct "BadArms" 1 ["index", "what"]
  h_BadArms : ErrH K mg ct "BadArms" 1 (exsOf 4 1)
  no_BadArms_index : PySem.W.findIn K (.ref (ct 1)) "index" = some none
  no_BadArms_what : PySem.W.findIn K (.ref (ct 1)) "what" = some none
  x_BadSize : ErrX0 P w K mg base ct "BadSize" 2
  h_BadSize : ErrH K mg ct "BadSize" 2 (exsOf 4 2)
  x_BadOrder : ErrX0 P w K mg base ct "BadOrder" 3
  h_BadOrder : ErrH K mg ct "BadOrder" 3 (exsOf 4 3)
section
variable {P : Program} {w : World} {K : PySem.W.Frag} {mg : Str → Option Value} {base : Heap} {ct : Nat → Addr}
abbrev N_law_take : List Str := ["_law_hand_here", "_law_many", "_law_cell", "_law_once", "_law_twice"]
theorem sc_law_take : FnScope N_law_take ["_law_hand_here", "_law_many"] (defScope s_law_take) := ⟨rfl, rfl, rfl, by decide +kernel, rfl, by decide +kernel, by decide +kernel⟩
theorem ok_law_take (T : Txt P w K mg base ct) : OkH P w K mg base ct "_law_take" 2 1 R_law_take := by
  obtain ⟨f, fd, hm, F⟩ := T.f_law_take.ex
  refine ⟨f, fd, ["_law_hand_here", "_law_many"], rfl, hm, F.kp, F.ok sc_law_take (fun vs H Q E h => h.1) fun cdv A outer s H vs Q E hr h => ?_, F.bindsN fun _ _ _ _ _ _ us hl => match us, hl with | [_, _], _ => rfl⟩
  exact ⟨_, (pss_cons (ps_while (passes_of rfl) (PW.pt (pw_and (pt_truth (pe_ix ix_list (pv 0) pe_int (fun _ _ => rfl)) (fun _ => rfl)) (pw_and1 (pt_cmpR op_eq (pe_ix ix_list (pe_ix ix_list (pv 0) pe_int (fun _ _ => rfl)) pe_int (fun _ _ => rfl)) pe_int (nomark _))))) (pss_one (ps_asg (pe_slice sl_list (pe_ix ix_list (pv 0) pe_int (fun _ _ => rfl)) (po_some pe_int) po_none) (pg_sub (pv 0) pe_int set_list (fun _ => rfl)))))
    (pss_cons (ps_if (pt_truth (pe_ix ix_list (pv 0) pe_int (fun _ _ => rfl)) (fun _ => rfl)) (pss_cons (ps_asg (pe_ix ix_list (pe_ix ix_list (pv 0) pe_int (fun _ _ => rfl)) pe_int (fun _ _ => rfl)) (pg_name (i := 2) sc_law_take.nd rfl (.inl rfl))) (pss_cons (ps_asg (pe_op op_divF (pe_callTy call_int1 (by rfl) T.int PyProof.Rows.boot_int (pa_cons (pv 2) pa_nil)) (pv 1)) (pg_sub (pe_ix ix_list (pv 0) pe_int (fun _ _ => rfl)) pe_int set_list (fun _ => rfl))) (pss_one (ps_ret (pe_op op_mod (pe_callTy call_int1 (by rfl) T.int PyProof.Rows.boot_int (pa_cons (pv 2) pa_nil)) (pv 1)))))) pss_nil)
    (pss_cons (ps_asg (pe_op op_add (pe_ix ix_list (pv 0) pe_int (fun _ _ => rfl)) pe_int) (pg_sub (pv 0) pe_int set_list (fun _ => rfl)))
    (pss_cons (ps_asg (pe_op op_mod (pe_callTy call_int1 (by rfl) T.int PyProof.Rows.boot_int (pa_cons (pe_op op_add (pe_op op_mul (pe_ix ix_list (pv 0) pe_int (fun _ _ => rfl)) pe_int) pe_int) pa_nil)) pe_int) (pg_sub (pv 0) pe_int set_list (fun _ => rfl)))
    (pss_cons (ps_asg (pe_op op_mod (pe_callTy call_int1 (by rfl) T.int PyProof.Rows.boot_int (pa_cons (pe_op op_add (pe_op op_mul (pe_ix ix_list (pv 0) pe_int (fun _ _ => rfl)) pe_int) (pe_op op_mul (pe_ix ix_list (pv 0) pe_int (fun _ _ => rfl)) pe_int)) pa_nil)) pe_int) (pg_name (i := 3) sc_law_take.nd rfl (.inl rfl)))
    (pss_cons (ps_asg (pe_op op_mod (pe_callTy call_int1 (by rfl) T.int PyProof.Rows.boot_int (pa_cons (pe_op op_add (pe_op op_add (pe_op op_mul (pv 3) (pv 3)) (pe_op op_mul (pe_ix ix_list (pv 0) pe_int (fun _ _ => rfl)) pe_int)) (pe_op op_fdiv (pv 3) pe_int)) pa_nil)) pe_int) (pg_name (i := 4) sc_law_take.nd rfl (.inl rfl)))
    (pss_one (ps_ret (pe_op op_mod (pe_callTy call_int1 (by rfl) T.int PyProof.Rows.boot_int (pa_cons (pe_op op_fdiv (pv 4) pe_int) pa_nil)) (pv 1)))))))))), take_read rfl h⟩
abbrev N_law_hand : List Str := ["_law_script", "_law_great", "_law_mixed", "_law_cell", "_law_size"]
theorem sc_law_hand : FnScope N_law_hand ["_law_script"] (defScope s_law_hand) := ⟨rfl, rfl, rfl, by decide +kernel, rfl, by decide +kernel, by decide +kernel⟩
theorem ok_law_hand (T : Txt P w K mg base ct) : OkN P w K mg base "_law_hand" 1 := by
  obtain ⟨f, fd, hm, F⟩ := T.f_law_hand.ex
  refine ⟨f, fd, ["_law_script"], rfl, hm, F.kp, F.ok sc_law_hand spN_len fun cdv A outer s H vs Q E hr h => ?_, F.bindsN fun _ _ _ _ _ _ us hl => match us, hl with | [_], _ => rfl⟩
  exact ⟨_, (pss_cons (ps_asg (pe_lst pa_nil) (pg_name (i := 1) sc_law_hand.nd rfl (.inl rfl)))
    (pss_cons (ps_asg (pe_op op_add (pe_callB call_len (by rfl) T.len PySem.boot_len (pa_cons (pv 0) pa_nil)) pe_int) (pg_name (i := 2) sc_law_hand.nd rfl (.inl rfl)))
    (pss_cons (ps_for (passes_of rfl) rfl (pi_list (pv 0)) (pg_name (i := 3) sc_law_hand.nd rfl (.inl rfl))
      (pss_cons (ps_asg (pe_callB call_abs (by rfl) T.abs PyProof.Rows.boot_abs (pa_cons (pe_callTy call_int1 (by rfl) T.int PyProof.Rows.boot_int (pa_cons (pv 3) pa_nil)) pa_nil)) (pg_name (i := 4) sc_law_hand.nd rfl (.inl rfl)))
      (pss_cons (ps_asg (pe_op op_add (pe_op op_mod (pe_callTy call_int1 (by rfl) T.int PyProof.Rows.boot_int (pa_cons (pe_op op_add (pe_op op_mul (pv 2) pe_int) (pv 4)) pa_nil)) pe_int) pe_int) (pg_name (i := 2) sc_law_hand.nd rfl (.inl rfl)))
      (pss_one (ps_if (pt_cmpR op_ge (pv 4) (pe_op op_pow pe_int pe_int) (nomark _)) (pss_one (ps_expr (pe_bm PySem.F.plainAttrs_list PySem.F.slot_list_append PySem.F.type_list_append mt_append (pv 1) (pa_cons (pv 4) pa_nil)))) pss_nil)))))
    (pss_one (ps_ret (pe_lst (pa_cons (pv 1) (pa_cons (pv 2) (pa_cons pe_int pa_nil))))))))), hand_read rfl h⟩

abbrev N_is_whole : List Str := ["thing", "low", "high"]
theorem sc_is_whole : FnScope N_is_whole ["thing", "low", "high"] (defScope s_is_whole) := ⟨rfl, rfl, rfl, by decide +kernel, rfl, by decide +kernel, by decide +kernel⟩
noncomputable def m_is_whole : M Fl := (seqF (ifF (orT (notT (bnd (bnd (getV 0) (isiG (ktB .int) (kcB 4 5))) truthM)) (bnd (bnd (getV 0) (isiG (ktB .bool) (kcB 4 5))) truthM)) (retF (pur (RB false))) (pur .nx))
    (seqF (ifF (andT (bnd (m2 (getV 1) (pur RN) notNM) asB) (bnd (m2 (getV 0) (getV 1) ltM) asB)) (retF (pur (RB false))) (pur .nx))
    (seqF (ifF (andT (bnd (m2 (getV 2) (pur RN) notNM) asB) (bnd (m2 (getV 0) (getV 2) gtM) asB)) (retF (pur (RB false))) (pur .nx))
    (retF (pur (RB true))))))
noncomputable def R_is_whole : List D → Res := runP 3 m_is_whole
def dd_is_whole : List D := [.non, .non]
theorem bd_is_whole (T : Txt P w K mg base ct) (f : Addr) (cdv : Value) (A : Around) (outer : List Env) (s : Shared) (H : Hp) (E : XK) (hr : Room 0 (A.deeper (envOfC "is_whole" (defScope s_is_whole) s.heap.objs.size f cdv))) : SDs (cxOf (L2.CX P w) P w K mg base N_is_whole "is_whole" (defScope s_is_whole) f cdv A outer s H E) ct (fun cls d _ H => E cls d H) (defBody s_is_whole) m_is_whole :=
    (sds_cons (sd_if (WD.td (wd_or (td_not (td_truth (ed_isiG (.ty _) (hkB (u := .int) (by decide)) (hcB T.allc (by decide)) (by rfl) T.isinstance (nv 0) (pe_bltn (by rfl) T.int PyProof.Rows.boot_int rfl)))) (wd_or1 (td_truth (ed_isiG (.ty _) (hkB (u := .bool) (by decide)) (hcB T.allc (by decide)) (by rfl) T.isinstance (nv 0) (pe_bltn (by rfl) T.bool PyProof.Rows.boot_bool rfl)))))) (sds_one (sd_ret ed_bl)) sds_nil)
    (sds_cons (sd_if (WD.td (wd_and (td_notN (nv 1) ed_non) (wd_and1 (td_lt (nv 0) (nv 1))))) (sds_one (sd_ret ed_bl)) sds_nil)
    (sds_cons (sd_if (WD.td (wd_and (td_notN (nv 2) ed_non) (wd_and1 (td_gt (nv 0) (nv 2))))) (sds_one (sd_ret ed_bl)) sds_nil)
    (sds_one (sd_ret ed_bl)))))
theorem ok_is_whole_1 (T : Txt P w K mg base ct) : OkP P w K mg base ct "is_whole" 3 1 R_is_whole (dd_is_whole.drop 0) :=
  okDf T.f_is_whole sc_is_whole 1 0 (by decide) rfl (fun _ => (.cons (.non) (.cons (.non) .nil))) (fun _ _ _ _ _ _ _ us its hl hi => match us, hl, its, hi with | [_], _, [_, _], _ => ⟨_, rfl, rfl⟩) (bd_is_whole T)
theorem ok_is_whole_2 (T : Txt P w K mg base ct) : OkP P w K mg base ct "is_whole" 3 1 R_is_whole (dd_is_whole.drop 1) :=
  okDf T.f_is_whole sc_is_whole 2 1 (by decide) rfl (fun _ => (.cons (.non) (.cons (.non) .nil))) (fun _ _ _ _ _ _ _ us its hl hi => match us, hl, its, hi with | [_, _], _, [_, _], _ => ⟨_, rfl, rfl⟩) (bd_is_whole T)
theorem ok_is_whole_3 (T : Txt P w K mg base ct) : OkP P w K mg base ct "is_whole" 3 1 R_is_whole (dd_is_whole.drop 2) :=
  okDf T.f_is_whole sc_is_whole 3 2 (by decide) rfl (fun _ => (.cons (.non) (.cons (.non) .nil))) (fun _ _ _ _ _ _ _ us its hl hi => match us, hl, its, hi with | [_, _, _], _, [_, _], _ => ⟨_, rfl, rfl⟩) (bd_is_whole T)
abbrev N_Arms___eq__ : List Str := ["self", "other"]
theorem sc_Arms___eq__ : FnScope N_Arms___eq__ ["self", "other"] (defScope s_Arms___eq__) := ⟨rfl, rfl, rfl, by decide +kernel, rfl, by decide +kernel, by decide +kernel⟩
noncomputable def m_Arms___eq__ : M Fl := (retF (andV (bnd (getV 1) (isiG ktOwn (kcOwn 4 5 4))) (m2 (bnd (getV 0) (fldM [4] "bars")) (bnd (getV 1) (fldM [4] "bars")) eqM)))
noncomputable def R_Arms___eq__ : List D → Res := runP 2 m_Arms___eq__
theorem ok_Arms___eq__ (T : Txt P w K mg base ct) : OkE P w K mg base ct 4 1 R_Arms___eq__ :=
  okE T.mt_Arms___eq__ T.ne_Arms sc_Arms___eq__ rfl (fun _ _ _ _ _ _ us hl => match us, hl with | [_, _], _ => rfl) fun f cdv A outer s H E hr =>
    (sds_one (sd_ret (ed_and (ed_isiG (.own (ct 4)) (hkOwn T.allc rfl) (hcOwn T.allc rfl) (by rfl) T.isinstance (nv 1) (pe_glob (by rfl) T.k_Arms.mg rfl)) (ed_one (ed_eq (hu64 hr) (ed_fld T.fld_bars (nv 0)) (ed_fld T.fld_bars (nv 1)))))))
abbrev N_Arms___len__ : List Str := ["self"]
theorem sc_Arms___len__ : FnScope N_Arms___len__ ["self"] (defScope s_Arms___len__) := ⟨rfl, rfl, rfl, by decide +kernel, rfl, by decide +kernel, by decide +kernel⟩
noncomputable def m_Arms___len__ : M Fl := (retF (bnd (consB (bnd (getV 0) (fldM [4] "bars")) (pur [])) lenM))
noncomputable def R_Arms___len__ : List D → Res := runP 1 m_Arms___len__
theorem ok_Arms___len__ (T : Txt P w K mg base ct) : OkL P w K mg base ct 4 1 R_Arms___len__ :=
  okLen T.mt_Arms___len__ sc_Arms___len__ rfl (fun _ _ _ _ _ _ us hl => match us, hl with | [_], _ => rfl) fun f cdv A outer s H E hr =>
    (sds_one (sd_ret (ed_blt (fun _ h => pe_callB call_len (by rfl) T.len PySem.boot_len h) lenM_ok (bd_cons (ed_fld T.fld_bars (nv 0)) bd_nil))))
abbrev N_is_ratio : List Str := ["thing", "top", "bottom"]
theorem sc_is_ratio : FnScope N_is_ratio ["thing"] (defScope s_is_ratio) := ⟨rfl, rfl, rfl, by decide +kernel, rfl, by decide +kernel, by decide +kernel⟩
noncomputable def m_is_ratio : M Fl := (seqF (ifF (notT (andT (bnd (bnd (getV 0) (isiG (ktB .tuple) (kcB 4 5))) truthM) (bnd (m2 (bnd (consB (getV 0) (pur [])) lenM) (pur (RI 2)) eqM) asB))) (retF (pur (RB false))) (pur .nx))
    (seqF (asgF (getV 0) (seqG (consG (setV 1) (consG (setV 2) nilG)) 2))
    (retF (andV (bnd (consA (getV 1) (pur [])) (callM 3 R_is_whole [.non, .non])) (andV (bnd (consA (getV 2) (consA (pur (RI 1)) (pur []))) (callM 3 R_is_whole [.non])) (m2 (bnd (consB (getV 1) (consB (getV 2) (pur []))) gcdM) (pur (RI 1)) eqM))))))
noncomputable def R_is_ratio : List D → Res := runP 3 m_is_ratio
theorem ok_is_ratio (T : Txt P w K mg base ct) : OkP P w K mg base ct "is_ratio" 1 2 R_is_ratio [] :=
  okP T.f_is_ratio sc_is_ratio (fun _ _ _ _ _ _ us hl => match us, hl with | [_], _ => rfl) fun f cdv A outer s H E hr =>
    (sds_cons (sd_if (td_not (WD.td (wd_and (td_truth (ed_isiG (.ty _) (hkB (u := .tuple) (by decide)) (hcB T.allc (by decide)) (by rfl) T.isinstance (nv 0) (pe_bltn (by rfl) T.tuple PyProof.Rows.boot_tuple rfl))) (wd_and1 (td_eq (hu64 hr) (ed_blt (fun _ h => pe_callB call_len (by rfl) T.len PySem.boot_len h) lenM_ok (bd_cons (nv 0) bd_nil)) ed_int))))) (sds_one (sd_ret ed_bl)) sds_nil)
    (sds_cons (sd_asg (nv 0) (gd_seq rfl (gds_cons (gn 1 sc_is_ratio.nd) (gds_cons (gn 2 sc_is_ratio.nd) gds_nilG))))
    (sds_one (sd_ret (ed_and (ed_callP (ok_is_whole_1 T) (hr.mono (by decide)) (takes_of rfl rfl rfl rfl) (ad_cons (nv 1) ad_nil)) (ed_and (ed_callP (ok_is_whole_2 T) (hr.mono (by decide)) (takes_of rfl rfl rfl rfl) (ad_cons (nv 2) (ad_cons ed_int ad_nil))) (ed_one (ed_eq (hu64 hr) (ed_blt (fun _ h => pe_callBfun cr_gcd (by rfl) T.gcd h) gcdM_ok (bd_cons (nv 1) (bd_cons (nv 2) bd_nil))) ed_int))))))))
abbrev N_is_above_zero : List Str := ["thing"]
theorem sc_is_above_zero : FnScope N_is_above_zero ["thing"] (defScope s_is_above_zero) := ⟨rfl, rfl, rfl, by decide +kernel, rfl, by decide +kernel, by decide +kernel⟩
noncomputable def m_is_above_zero : M Fl := (retF (andV (bnd (consA (getV 0) (pur [])) (callM 1 R_is_ratio [])) (m2 (m2 (getV 0) (pur (RI 0)) ixM) (pur (RI 0)) gtM)))
noncomputable def R_is_above_zero : List D → Res := runP 1 m_is_above_zero
theorem ok_is_above_zero (T : Txt P w K mg base ct) : OkP P w K mg base ct "is_above_zero" 1 3 R_is_above_zero [] :=
  okP T.f_is_above_zero sc_is_above_zero (fun _ _ _ _ _ _ us hl => match us, hl with | [_], _ => rfl) fun f cdv A outer s H E hr =>
    (sds_one (sd_ret (ed_and (ed_callP (ok_is_ratio T) (hr.mono (by decide)) (takes_of rfl rfl rfl rfl) (ad_cons (nv 0) ad_nil)) (ed_one (ed_gt (ed_sub1 (nv 0) ed_int) ed_int)))))
abbrev N_lowest_terms : List Str := ["top", "bottom", "shared"]
theorem sc_lowest_terms : FnScope N_lowest_terms ["top", "bottom"] (defScope s_lowest_terms) := ⟨rfl, rfl, rfl, by decide +kernel, rfl, by decide +kernel, by decide +kernel⟩
noncomputable def m_lowest_terms : M Fl := (seqF (ifF (bnd (m2 (getV 1) (pur (RI 0)) ltM) asB) (parF 0 1 (consA (bnd (getV 0) negM) (consA (bnd (getV 1) negM) (pur [])))) (pur .nx))
    (seqF (asgF (bnd (consB (getV 0) (consB (getV 1) (pur []))) gcdM) (setV 2))
    (retF (bnd (consA (m2 (getV 0) (getV 2) divM) (consA (m2 (getV 1) (getV 2) divM) (pur []))) tupM))))
noncomputable def R_lowest_terms : List D → Res := runP 3 m_lowest_terms
theorem ok_lowest_terms (T : Txt P w K mg base ct) : OkP P w K mg base ct "lowest_terms" 2 1 R_lowest_terms [] :=
  okP T.f_lowest_terms sc_lowest_terms (fun _ _ _ _ _ _ us hl => match us, hl with | [_, _], _ => rfl) fun f cdv A outer s H E hr =>
    (sds_cons (sd_if (td_lt (nv 1) ed_int) (sds_one (sd_par (i := 0) (j := 1) rfl sc_lowest_terms.nd rfl rfl (by decide) rfl rfl (ad_cons (ed_neg (nv 0)) (ad_cons (ed_neg (nv 1)) ad_nil)) (by rfl))) sds_nil)
    (sds_cons (sd_asg (ed_blt (fun _ h => pe_callBfun cr_gcd (by rfl) T.gcd h) gcdM_ok (bd_cons (nv 0) (bd_cons (nv 1) bd_nil))) (gn 2 sc_lowest_terms.nd))
    (sds_one (sd_ret (ed_tup (ad_cons (ed_div (nv 0) (nv 2)) (ad_cons (ed_div (nv 1) (nv 2)) ad_nil)))))))
abbrev N_plus : List Str := ["one", "other"]
theorem sc_plus : FnScope N_plus ["one", "other"] (defScope s_plus) := ⟨rfl, rfl, rfl, by decide +kernel, rfl, by decide +kernel, by decide +kernel⟩
noncomputable def m_plus : M Fl := (retF (bnd (consA (m2 (m2 (m2 (getV 0) (pur (RI 0)) ixM) (m2 (getV 1) (pur (RI 1)) ixM) mulI) (m2 (m2 (getV 1) (pur (RI 0)) ixM) (m2 (getV 0) (pur (RI 1)) ixM) mulI) addM) (consA (m2 (m2 (getV 0) (pur (RI 1)) ixM) (m2 (getV 1) (pur (RI 1)) ixM) mulI) (pur []))) (callM 2 R_lowest_terms [])))
noncomputable def R_plus : List D → Res := runP 2 m_plus
theorem ok_plus (T : Txt P w K mg base ct) : OkP P w K mg base ct "plus" 2 2 R_plus [] :=
  okP T.f_plus sc_plus (fun _ _ _ _ _ _ us hl => match us, hl with | [_, _], _ => rfl) fun f cdv A outer s H E hr =>
    (sds_one (sd_ret (ed_callP (ok_lowest_terms T) (hr.mono (by decide)) (takes_of rfl rfl rfl rfl) (ad_cons (ed_add (ed_mulI (ed_sub1 (nv 0) ed_int) (ed_sub1 (nv 1) ed_int)) (ed_mulI (ed_sub1 (nv 1) ed_int) (ed_sub1 (nv 0) ed_int))) (ad_cons (ed_mulI (ed_sub1 (nv 0) ed_int) (ed_sub1 (nv 1) ed_int)) ad_nil)))))
abbrev N_times : List Str := ["one", "other"]
theorem sc_times : FnScope N_times ["one", "other"] (defScope s_times) := ⟨rfl, rfl, rfl, by decide +kernel, rfl, by decide +kernel, by decide +kernel⟩
noncomputable def m_times : M Fl := (retF (bnd (consA (m2 (m2 (getV 0) (pur (RI 0)) ixM) (m2 (getV 1) (pur (RI 0)) ixM) mulI) (consA (m2 (m2 (getV 0) (pur (RI 1)) ixM) (m2 (getV 1) (pur (RI 1)) ixM) mulI) (pur []))) (callM 2 R_lowest_terms [])))
noncomputable def R_times : List D → Res := runP 2 m_times
theorem ok_times (T : Txt P w K mg base ct) : OkP P w K mg base ct "times" 2 2 R_times [] :=
  okP T.f_times sc_times (fun _ _ _ _ _ _ us hl => match us, hl with | [_, _], _ => rfl) fun f cdv A outer s H E hr =>
    (sds_one (sd_ret (ed_callP (ok_lowest_terms T) (hr.mono (by decide)) (takes_of rfl rfl rfl rfl) (ad_cons (ed_mulI (ed_sub1 (nv 0) ed_int) (ed_sub1 (nv 1) ed_int)) (ad_cons (ed_mulI (ed_sub1 (nv 0) ed_int) (ed_sub1 (nv 1) ed_int)) ad_nil)))))
abbrev N_is_row : List Str := ["thing", "least", "most"]
theorem sc_is_row : FnScope N_is_row ["thing", "least", "most"] (defScope s_is_row) := ⟨rfl, rfl, rfl, by decide +kernel, rfl, by decide +kernel, by decide +kernel⟩
noncomputable def m_is_row : M Fl := (retF (andV (bnd (getV 0) (isiM2 .list .tuple)) (chainM leM leM (getV 1) (bnd (consB (getV 0) (pur [])) lenM) (getV 2))))
noncomputable def R_is_row : List D → Res := runP 3 m_is_row
theorem ok_is_row (T : Txt P w K mg base ct) : OkP P w K mg base ct "is_row" 3 1 R_is_row [] :=
  okP T.f_is_row sc_is_row (fun _ _ _ _ _ _ us hl => match us, hl with | [_, _, _], _ => rfl) fun f cdv A outer s H E hr =>
    (sds_one (sd_ret (ed_and (ed_isi2 .list .tuple (by decide) (by decide) (by rfl) T.isinstance (nv 0) (pe_bltn (by rfl) T.list PyProof.Rows.boot_list rfl) (pe_bltn (by rfl) T.tuple PyProof.Rows.boot_tuple rfl)) (ed_one (ed_chain op_le op_le leOk leOk (nv 1) (ed_blt (fun _ h => pe_callB call_len (by rfl) T.len PySem.boot_len h) lenM_ok (bd_cons (nv 0) bd_nil)) (nv 2))))))
abbrev N_is_place_form : List Str := ["thing", "many"]
theorem sc_is_place_form : FnScope N_is_place_form ["thing", "many"] (defScope s_is_place_form) := ⟨rfl, rfl, rfl, by decide +kernel, rfl, by decide +kernel, by decide +kernel⟩
noncomputable def m_is_place_form : M Fl := (seqF (ifF (notT (bnd (bnd (consA (getV 0) (consA (pur (RI 2)) (consA (pur (RI 2)) (pur [])))) (callM 3 R_is_row [])) truthM)) (retF (pur (RB false))) (pur .nx))
    (retF (andV (bnd (consA (m2 (getV 0) (pur (RI 0)) ixM) (consA (pur (RD (.int (-1)))) (consA (m2 (getV 1) (pur (RI 1)) subM) (pur [])))) (callM 3 R_is_whole [])) (bnd (consA (m2 (getV 0) (pur (RI 1)) ixM) (pur [])) (callM 1 R_is_ratio [])))))
noncomputable def R_is_place_form : List D → Res := runP 2 m_is_place_form
theorem ok_is_place_form (T : Txt P w K mg base ct) : OkP P w K mg base ct "is_place_form" 2 3 R_is_place_form [] :=
  okP T.f_is_place_form sc_is_place_form (fun _ _ _ _ _ _ us hl => match us, hl with | [_, _], _ => rfl) fun f cdv A outer s H E hr =>
    (sds_cons (sd_if (td_not (td_truth (ed_callP (ok_is_row T) (hr.mono (by decide)) (takes_of rfl rfl rfl rfl) (ad_cons (nv 0) (ad_cons ed_int (ad_cons ed_int ad_nil)))))) (sds_one (sd_ret ed_bl)) sds_nil)
    (sds_one (sd_ret (ed_and (ed_callP (ok_is_whole_3 T) (hr.mono (by decide)) (takes_of rfl rfl rfl rfl) (ad_cons (ed_sub1 (nv 0) ed_int) (ad_cons (ed_glob T.c_MAST) (ad_cons (ed_sub (nv 1) ed_int) ad_nil)))) (ed_one (ed_callP (ok_is_ratio T) (hr.mono (by decide)) (takes_of rfl rfl rfl rfl) (ad_cons (ed_sub1 (nv 0) ed_int) ad_nil)))))))
abbrev N_check_place : List Str := ["arms", "place"]
theorem sc_check_place : FnScope N_check_place ["arms", "place"] (defScope s_check_place) := ⟨rfl, rfl, rfl, by decide +kernel, rfl, by decide +kernel, by decide +kernel⟩
noncomputable def m_check_place : M Fl := (seqF (ifF (notT (bnd (bnd (consA (getV 1) (consA (altM (bnd (consB (getV 0) (pur [])) lenM) (bnd (consB (getV 0) (pur [])) (lenOwnM 4 R_Arms___len__))) (pur []))) (callM 2 R_is_place_form [])) truthM)) (raise0F 0) (pur .nx))
    (retF (bnd (consB (getV 1) (pur [])) tupleM)))
noncomputable def R_check_place : List D → Res := runP 2 m_check_place
theorem ok_check_place (T : Txt P w K mg base ct) : OkP P w K mg base ct "check_place" 2 4 R_check_place [] :=
  okP T.f_check_place sc_check_place (fun _ _ _ _ _ _ us hl => match us, hl with | [_, _], _ => rfl) fun f cdv A outer s H E hr =>
    (sds_cons (sd_if (td_not (td_truth (ed_callP (ok_is_place_form T) (hr.mono (by decide)) (takes_of rfl rfl rfl rfl) (ad_cons (nv 1) (ad_cons (ed_alt (ed_blt (fun _ h => pe_callB call_len (by rfl) T.len PySem.boot_len h) lenM_ok (bd_cons (nv 0) bd_nil)) (ed_blt (fun _ h => pe_callB (call_lenI (ok_Arms___len__ T) (hr.mono (by decide))) (by rfl) T.len PySem.boot_len h) lenOwnM_ok (bd_cons (nv 0) bd_nil))) ad_nil))))) (sds_one (sd_raiseE0 (c := 0) T.x_BadPlace rfl (takes_of rfl rfl rfl rfl) (hr.mono (by decide)))) sds_nil)
    (sds_one (sd_ret (ed_blt (fun _ h => pe_callTy call_tuple_of (by rfl) T.tuple PyProof.Rows.boot_tuple h) tupleM_ok (bd_cons (nv 1) bd_nil)))))
abbrev N_bad_bar : List Str := ["number", "bar"]
theorem sc_bad_bar : FnScope N_bad_bar ["number", "bar"] (defScope s_bad_bar) := ⟨rfl, rfl, rfl, by decide +kernel, rfl, by decide +kernel, by decide +kernel⟩
noncomputable def m_bad_bar : M Fl := (seqF (ifF (notT (bnd (bnd (consA (getV 1) (consA (pur (RI 3)) (consA (pur (RI 3)) (pur [])))) (callM 3 R_is_row [])) truthM)) (retF (pur (RS ("bar" : Str)))) (pur .nx))
    (seqF (ifF (notT (bnd (bnd (consA (m2 (getV 1) (pur (RI 0)) ixM) (consA (pur (RD (.int (-1)))) (consA (m2 (getV 0) (pur (RI 1)) subM) (pur [])))) (callM 3 R_is_whole [])) truthM)) (retF (pur (RS ("host" : Str)))) (pur .nx))
    (seqF (ifF (notT (bnd (bnd (consA (m2 (getV 1) (pur (RI 1)) ixM) (pur [])) (callM 1 R_is_ratio [])) truthM)) (retF (pur (RS ("mark" : Str)))) (pur .nx))
    (seqF (ifF (notT (bnd (bnd (consA (m2 (getV 1) (pur (RI 2)) ixM) (consA (pur (RI 0)) (consA (pur (RD (.int 4))) (pur [])))) (callM 3 R_is_whole [])) truthM)) (retF (pur (RS ("letter" : Str)))) (pur .nx))
    (retF (pur RN))))))
noncomputable def R_bad_bar : List D → Res := runP 2 m_bad_bar
theorem ok_bad_bar (T : Txt P w K mg base ct) : OkP P w K mg base ct "bad_bar" 2 3 R_bad_bar [] :=
  okP T.f_bad_bar sc_bad_bar (fun _ _ _ _ _ _ us hl => match us, hl with | [_, _], _ => rfl) fun f cdv A outer s H E hr =>
    (sds_cons (sd_if (td_not (td_truth (ed_callP (ok_is_row T) (hr.mono (by decide)) (takes_of rfl rfl rfl rfl) (ad_cons (nv 1) (ad_cons ed_int (ad_cons ed_int ad_nil)))))) (sds_one (sd_ret ed_str)) sds_nil)
    (sds_cons (sd_if (td_not (td_truth (ed_callP (ok_is_whole_3 T) (hr.mono (by decide)) (takes_of rfl rfl rfl rfl) (ad_cons (ed_sub1 (nv 1) ed_int) (ad_cons (ed_glob T.c_MAST) (ad_cons (ed_sub (nv 0) ed_int) ad_nil)))))) (sds_one (sd_ret ed_str)) sds_nil)
    (sds_cons (sd_if (td_not (td_truth (ed_callP (ok_is_ratio T) (hr.mono (by decide)) (takes_of rfl rfl rfl rfl) (ad_cons (ed_sub1 (nv 1) ed_int) ad_nil)))) (sds_one (sd_ret ed_str)) sds_nil)
    (sds_cons (sd_if (td_not (td_truth (ed_callP (ok_is_whole_3 T) (hr.mono (by decide)) (takes_of rfl rfl rfl rfl) (ad_cons (ed_sub1 (nv 1) ed_int) (ad_cons ed_int (ad_cons (ed_glob T.c_MOST_LETTERS) ad_nil)))))) (sds_one (sd_ret ed_str)) sds_nil)
    (sds_one (sd_ret ed_non))))))
abbrev N_check_bars : List Str := ["bars", "number", "bar", "word", "found"]
theorem sc_check_bars : FnScope N_check_bars ["bars"] (defScope s_check_bars) := ⟨rfl, rfl, rfl, by decide +kernel, rfl, by decide +kernel, by decide +kernel⟩
noncomputable def m_check_bars : M Fl := (seqF (ifF (notT (bnd (bnd (consA (getV 0) (consA (pur (RI 1)) (consA (pur (RD (.int 6))) (pur [])))) (callM 3 R_is_row [])) truthM)) (raiseF 1 ["index", "what"] (consA (pur (RI 0)) (consA (pur (RS ("many" : Str))) (pur [])))) (pur .nx))
    (seqF (forF (bnd (consB (getV 0) (pur [])) enumM) (seqG (consG (setV 1) (consG (setV 2) nilG)) 2) (seqF (asgF (bnd (consA (getV 1) (consA (getV 2) (pur []))) (callM 2 R_bad_bar [])) (setV 3))
    (ifF (bnd (m2 (getV 3) (pur RN) notNM) asB) (raiseF 1 ["index", "what"] (consA (getV 1) (consA (getV 3) (pur [])))) (pur .nx))))
    (seqF (asgF (bnd (ssM (bnd (getV 0) seqSrc) [2] (setV 2) (bnd (m2 (m2 (getV 2) (pur (RI 2)) ixM) (pur (RI 0)) gtM) asB) (m2 (getV 2) (pur (RI 2)) ixM)) frz) (setV 4))
    (seqF (ifF (orT (bnd (m2 (getV 4) (bnd (pur []) lstM) eqM) asB) (bnd (m2 (getV 4) (m2 (pur (RI 1)) (m2 (bnd (consB (getV 4) (pur [])) lenM) (pur (RI 1)) addM) lrM) neM) asB)) (raiseF 1 ["index", "what"] (consA (pur (RI 0)) (consA (pur (RS ("gap" : Str))) (pur [])))) (pur .nx))
    (retF (bnd (consB (lcM (bnd (getV 0) seqSrc) [2] (setV 2) (pur true) (bnd (consB (getV 2) (pur [])) tupleM)) (pur [])) tupleM))))))
noncomputable def R_check_bars : List D → Res := runP 5 m_check_bars
theorem ok_check_bars (T : Txt P w K mg base ct) : OkP P w K mg base ct "check_bars" 1 4 R_check_bars [] :=
  okP T.f_check_bars sc_check_bars (fun _ _ _ _ _ _ us hl => match us, hl with | [_], _ => rfl) fun f cdv A outer s H E hr =>
    (sds_cons (sd_if (td_not (td_truth (ed_callP (ok_is_row T) (hr.mono (by decide)) (takes_of rfl rfl rfl rfl) (ad_cons (nv 0) (ad_cons ed_int (ad_cons (ed_glob T.c_MOST_BARS) ad_nil)))))) (sds_one (sd_raiseE (c := 1) (fs := ["index", "what"]) T.x_BadArms (by decide) rfl (takes_of rfl rfl rfl rfl) (hr.mono (by decide)) (ad_cons ed_int (ad_cons ed_str ad_nil)))) sds_nil)
    (sds_cons (sd_for (passes_of rfl) rfl (id_enum (by rfl) T.enumerate (bd_cons (nv 0) bd_nil)) (gd_seq rfl (gds_cons (gn 1 sc_check_bars.nd) (gds_cons (gn 2 sc_check_bars.nd) gds_nilG))) (sds_cons (sd_asg (ed_callP (ok_bad_bar T) (hr.mono (by decide)) (takes_of rfl rfl rfl rfl) (ad_cons (nv 1) (ad_cons (nv 2) ad_nil))) (gn 3 sc_check_bars.nd))
    (sds_one (sd_if (td_notN (nv 3) ed_non) (sds_one (sd_raiseE (c := 1) (fs := ["index", "what"]) T.x_BadArms (by decide) rfl (takes_of rfl rfl rfl rfl) (hr.mono (by decide)) (ad_cons (nv 1) (ad_cons (nv 3) ad_nil)))) sds_nil))))
    (sds_cons (sd_asg (ed_frz (ed_sortedSC (own := [("bar", 2)]) rfl sc_check_bars.nd (by rfl) T.sorted (id_seq (nv 0)) (blkOk_by (own := [("bar", 2)]) (N := N_check_bars) (sc := (defScope s_check_bars)) (by decide +kernel)) (by decide) (fun _ _ _ _ _ => (gn 2 sc_check_bars.nd)) (fun _ _ _ _ _ => (ifs_one (td_gt (ed_sub1 (nv 2) ed_int) ed_int))) (fun _ _ _ _ _ => (ed_sub1 (nv 2) ed_int)))) (gn 4 sc_check_bars.nd))
    (sds_cons (sd_if (WD.td (wd_or (td_eq (hu64 hr) (nv 4) (ed_lst ad_nil)) (wd_or1 (td_ne (hu64 hr) (nv 4) (ed_listRg (by rfl) (by rfl) T.list (by rfl) T.range ed_int (ed_add (ed_blt (fun _ h => pe_callB call_len (by rfl) T.len PySem.boot_len h) lenM_ok (bd_cons (nv 4) bd_nil)) ed_int)))))) (sds_one (sd_raiseE (c := 1) (fs := ["index", "what"]) T.x_BadArms (by decide) rfl (takes_of rfl rfl rfl rfl) (hr.mono (by decide)) (ad_cons ed_int (ad_cons ed_str ad_nil)))) sds_nil)
    (sds_one (sd_ret (ed_blt (fun _ h => pe_callTy call_tuple_of (by rfl) T.tuple PyProof.Rows.boot_tuple h) tupleM_ok (bd_cons (ed_lc (own := [("bar", 2)]) rfl sc_check_bars.nd (id_seq (nv 0)) (blkOk_by (own := [("bar", 2)]) (N := N_check_bars) (sc := (defScope s_check_bars)) (by decide +kernel)) (by decide) (fun _ _ _ _ _ => (gn 2 sc_check_bars.nd)) (fun _ _ _ _ _ => ifs_nil) (fun _ _ _ _ _ => (ed_blt (fun _ h => pe_callTy call_tuple_of (by rfl) T.tuple PyProof.Rows.boot_tuple h) tupleM_ok (bd_cons (nv 2) bd_nil)))) bd_nil))))))))
abbrev N_check_order : List Str := ["letters", "order", "entry"]
theorem sc_check_order : FnScope N_check_order ["letters", "order"] (defScope s_check_order) := ⟨rfl, rfl, rfl, by decide +kernel, rfl, by decide +kernel, by decide +kernel⟩
noncomputable def m_check_order : M Fl := (seqF (ifF (notT (bnd (bnd (consA (getV 1) (consA (getV 0) (consA (getV 0) (pur [])))) (callM 3 R_is_row [])) truthM)) (raise0F 3) (pur .nx))
    (seqF (forF (bnd (getV 1) seqSrc) (setV 2) (ifF (notT (bnd (bnd (consA (getV 2) (consA (pur (RI 1)) (consA (getV 0) (pur [])))) (callM 3 R_is_whole [])) truthM)) (raise0F 3) (pur .nx)))
    (seqF (ifF (bnd (m2 (bnd (consB (getV 1) (pur [])) sortedM) (m2 (pur (RI 1)) (m2 (getV 0) (pur (RI 1)) addM) lrM) neM) asB) (raise0F 3) (pur .nx))
    (retF (bnd (consB (getV 1) (pur [])) tupleM)))))
noncomputable def R_check_order : List D → Res := runP 3 m_check_order
theorem ok_check_order (T : Txt P w K mg base ct) : OkP P w K mg base ct "check_order" 2 3 R_check_order [] :=
  okP T.f_check_order sc_check_order (fun _ _ _ _ _ _ us hl => match us, hl with | [_, _], _ => rfl) fun f cdv A outer s H E hr =>
    (sds_cons (sd_if (td_not (td_truth (ed_callP (ok_is_row T) (hr.mono (by decide)) (takes_of rfl rfl rfl rfl) (ad_cons (nv 1) (ad_cons (nv 0) (ad_cons (nv 0) ad_nil)))))) (sds_one (sd_raiseE0 (c := 3) T.x_BadOrder rfl (takes_of rfl rfl rfl rfl) (hr.mono (by decide)))) sds_nil)
    (sds_cons (sd_for (passes_of rfl) rfl (id_seq (nv 1)) (gn 2 sc_check_order.nd) (sds_one (sd_if (td_not (td_truth (ed_callP (ok_is_whole_3 T) (hr.mono (by decide)) (takes_of rfl rfl rfl rfl) (ad_cons (nv 2) (ad_cons ed_int (ad_cons (nv 0) ad_nil)))))) (sds_one (sd_raiseE0 (c := 3) T.x_BadOrder rfl (takes_of rfl rfl rfl rfl) (hr.mono (by decide)))) sds_nil)))
    (sds_cons (sd_if (td_ne (hu64 hr) (ed_blt (fun _ h => pe_callB cr_sortedB (by rfl) T.sorted PyProof.Rows.boot_sorted h) sortedM_ok (bd_cons (nv 1) bd_nil)) (ed_listRg (by rfl) (by rfl) T.list (by rfl) T.range ed_int (ed_add (nv 0) ed_int))) (sds_one (sd_raiseE0 (c := 3) T.x_BadOrder rfl (takes_of rfl rfl rfl rfl) (hr.mono (by decide)))) sds_nil)
    (sds_one (sd_ret (ed_blt (fun _ h => pe_callTy call_tuple_of (by rfl) T.tuple PyProof.Rows.boot_tuple h) tupleM_ok (bd_cons (nv 1) bd_nil)))))))
abbrev N_law_gcd : List Str := ["_law_one", "_law_other"]
theorem sc_law_gcd : FnScope N_law_gcd ["_law_one", "_law_other"] (defScope s_law_gcd) := ⟨rfl, rfl, rfl, by decide +kernel, rfl, by decide +kernel, by decide +kernel⟩
noncomputable def m_law_gcd : M Fl := (seqF (parF 0 1 (consA (bnd (consB (getV 0) (pur [])) absM) (consA (bnd (consB (getV 1) (pur [])) absM) (pur []))))
    (seqF (whileL (bnd (getV 1) truthM) (parF 0 1 (consA (getV 1) (consA (m2 (bnd (consB (getV 0) (pur [])) intM) (getV 1) modM) (pur [])))) 100000)
    (retF (getV 0))))
noncomputable def R_law_gcd : List D → Res := runP 2 m_law_gcd
theorem ok_law_gcd (T : Txt P w K mg base ct) : OkP P w K mg base ct "_law_gcd" 2 1 R_law_gcd [] :=
  okP T.f_law_gcd sc_law_gcd (fun _ _ _ _ _ _ us hl => match us, hl with | [_, _], _ => rfl) fun f cdv A outer s H E hr =>
    (sds_cons (sd_par (i := 0) (j := 1) rfl sc_law_gcd.nd rfl rfl (by decide) rfl rfl (ad_cons (ed_blt (fun _ h => pe_callB call_abs (by rfl) T.abs PyProof.Rows.boot_abs h) absM_ok (bd_cons (nv 0) bd_nil)) (ad_cons (ed_blt (fun _ h => pe_callB call_abs (by rfl) T.abs PyProof.Rows.boot_abs h) absM_ok (bd_cons (nv 1) bd_nil)) ad_nil)) (by rfl))
    (sds_cons (sd_while 100000 (passes_of rfl) (td_truth (nv 1)) (sds_one (sd_par (i := 0) (j := 1) rfl sc_law_gcd.nd rfl rfl (by decide) rfl rfl (ad_cons (nv 1) (ad_cons (ed_mod (ed_blt (fun _ h => pe_callTy call_int1 (by rfl) T.int PyProof.Rows.boot_int h) intM_ok (bd_cons (nv 0) bd_nil)) (nv 1)) ad_nil)) (by rfl))))
    (sds_one (sd_ret (nv 0)))))
abbrev N_law_ratio : List Str := ["_law_top", "_law_bottom", "_law_part"]
theorem sc_law_ratio : FnScope N_law_ratio ["_law_top", "_law_bottom"] (defScope s_law_ratio) := ⟨rfl, rfl, rfl, by decide +kernel, rfl, by decide +kernel, by decide +kernel⟩
noncomputable def m_law_ratio : M Fl := (seqF (asgF (bnd (bnd (consA (getV 0) (consA (getV 1) (pur []))) (callM 2 R_law_gcd [])) frz) (setV 2))
    (seqF (ifF (bnd (m2 (getV 1) (pur (RI 0)) ltM) asB) (asgF (bnd (getV 2) negM) (setV 2)) (pur .nx))
    (retF (bnd (consA (m2 (getV 0) (getV 2) divM) (consA (m2 (getV 1) (getV 2) divM) (pur []))) tupM))))
noncomputable def R_law_ratio : List D → Res := runP 3 m_law_ratio
theorem ok_law_ratio (T : Txt P w K mg base ct) : OkP P w K mg base ct "_law_ratio" 2 2 R_law_ratio [] :=
  okP T.f_law_ratio sc_law_ratio (fun _ _ _ _ _ _ us hl => match us, hl with | [_, _], _ => rfl) fun f cdv A outer s H E hr =>
    (sds_cons (sd_asg (ed_frz (ed_callP (ok_law_gcd T) (hr.mono (by decide)) (takes_of rfl rfl rfl rfl) (ad_cons (nv 0) (ad_cons (nv 1) ad_nil)))) (gn 2 sc_law_ratio.nd))
    (sds_cons (sd_if (td_lt (nv 1) ed_int) (sds_one (sd_asg (ed_neg (nv 2)) (gn 2 sc_law_ratio.nd))) sds_nil)
    (sds_one (sd_ret (ed_tup (ad_cons (ed_div (nv 0) (nv 2)) (ad_cons (ed_div (nv 1) (nv 2)) ad_nil)))))))
abbrev N_law_plus : List Str := ["_law_one", "_law_other"]
theorem sc_law_plus : FnScope N_law_plus ["_law_one", "_law_other"] (defScope s_law_plus) := ⟨rfl, rfl, rfl, by decide +kernel, rfl, by decide +kernel, by decide +kernel⟩
noncomputable def m_law_plus : M Fl := (retF (bnd (consA (m2 (m2 (m2 (getV 0) (pur (RI 0)) ixM) (m2 (getV 1) (pur (RI 1)) ixM) mulI) (m2 (m2 (getV 1) (pur (RI 0)) ixM) (m2 (getV 0) (pur (RI 1)) ixM) mulI) addM) (consA (m2 (m2 (getV 0) (pur (RI 1)) ixM) (m2 (getV 1) (pur (RI 1)) ixM) mulI) (pur []))) (callM 2 R_law_ratio [])))
noncomputable def R_law_plus : List D → Res := runP 2 m_law_plus
theorem ok_law_plus (T : Txt P w K mg base ct) : OkP P w K mg base ct "_law_plus" 2 3 R_law_plus [] :=
  okP T.f_law_plus sc_law_plus (fun _ _ _ _ _ _ us hl => match us, hl with | [_, _], _ => rfl) fun f cdv A outer s H E hr =>
    (sds_one (sd_ret (ed_callP (ok_law_ratio T) (hr.mono (by decide)) (takes_of rfl rfl rfl rfl) (ad_cons (ed_add (ed_mulI (ed_sub1 (nv 0) ed_int) (ed_sub1 (nv 1) ed_int)) (ed_mulI (ed_sub1 (nv 1) ed_int) (ed_sub1 (nv 0) ed_int))) (ad_cons (ed_mulI (ed_sub1 (nv 0) ed_int) (ed_sub1 (nv 1) ed_int)) ad_nil)))))
abbrev N_law_times : List Str := ["_law_one", "_law_other"]
theorem sc_law_times : FnScope N_law_times ["_law_one", "_law_other"] (defScope s_law_times) := ⟨rfl, rfl, rfl, by decide +kernel, rfl, by decide +kernel, by decide +kernel⟩
noncomputable def m_law_times : M Fl := (retF (bnd (consA (m2 (m2 (getV 0) (pur (RI 0)) ixM) (m2 (getV 1) (pur (RI 0)) ixM) mulI) (consA (m2 (m2 (getV 0) (pur (RI 1)) ixM) (m2 (getV 1) (pur (RI 1)) ixM) mulI) (pur []))) (callM 2 R_law_ratio [])))
noncomputable def R_law_times : List D → Res := runP 2 m_law_times
theorem ok_law_times (T : Txt P w K mg base ct) : OkP P w K mg base ct "_law_times" 2 3 R_law_times [] :=
  okP T.f_law_times sc_law_times (fun _ _ _ _ _ _ us hl => match us, hl with | [_, _], _ => rfl) fun f cdv A outer s H E hr =>
    (sds_one (sd_ret (ed_callP (ok_law_ratio T) (hr.mono (by decide)) (takes_of rfl rfl rfl rfl) (ad_cons (ed_mulI (ed_sub1 (nv 0) ed_int) (ed_sub1 (nv 1) ed_int)) (ad_cons (ed_mulI (ed_sub1 (nv 0) ed_int) (ed_sub1 (nv 1) ed_int)) ad_nil)))))
abbrev N_law_over : List Str := ["_law_one", "_law_other"]
theorem sc_law_over : FnScope N_law_over ["_law_one", "_law_other"] (defScope s_law_over) := ⟨rfl, rfl, rfl, by decide +kernel, rfl, by decide +kernel, by decide +kernel⟩
noncomputable def m_law_over : M Fl := (retF (bnd (consA (m2 (m2 (getV 0) (pur (RI 0)) ixM) (m2 (getV 1) (pur (RI 1)) ixM) mulI) (consA (m2 (m2 (getV 0) (pur (RI 1)) ixM) (m2 (getV 1) (pur (RI 0)) ixM) mulI) (pur []))) (callM 2 R_law_ratio [])))
noncomputable def R_law_over : List D → Res := runP 2 m_law_over
theorem ok_law_over (T : Txt P w K mg base ct) : OkP P w K mg base ct "_law_over" 2 3 R_law_over [] :=
  okP T.f_law_over sc_law_over (fun _ _ _ _ _ _ us hl => match us, hl with | [_, _], _ => rfl) fun f cdv A outer s H E hr =>
    (sds_one (sd_ret (ed_callP (ok_law_ratio T) (hr.mono (by decide)) (takes_of rfl rfl rfl rfl) (ad_cons (ed_mulI (ed_sub1 (nv 0) ed_int) (ed_sub1 (nv 1) ed_int)) (ad_cons (ed_mulI (ed_sub1 (nv 0) ed_int) (ed_sub1 (nv 1) ed_int)) ad_nil)))))
abbrev N_law_mark : List Str := ["_law_hand_here"]
theorem sc_law_mark : FnScope N_law_mark ["_law_hand_here"] (defScope s_law_mark) := ⟨rfl, rfl, rfl, by decide +kernel, rfl, by decide +kernel, by decide +kernel⟩
noncomputable def m_law_mark : M Fl := (retF (bnd (consA (m2 (bnd (consA (getV 0) (consA (pur (RI 13)) (pur []))) (callH 2 R_law_take [])) (pur (RI 4)) subM) (consA (pur (RI 2)) (pur []))) (callM 2 R_law_ratio [])))
noncomputable def R_law_mark : List SV → Hand → Res × Hand := runH 1 m_law_mark
theorem ok_law_mark (T : Txt P w K mg base ct) : OkH P w K mg base ct "_law_mark" 1 3 R_law_mark :=
  okH T.f_law_mark sc_law_mark (fun _ _ _ _ _ _ us hl => match us, hl with | [_], _ => rfl) fun f cdv A outer s H E hr =>
    (sds_one (sd_ret (ed_callP (ok_law_ratio T) (hr.mono (by decide)) (takes_of rfl rfl rfl rfl) (ad_cons (ed_sub (ed_callHP (ok_law_take T) (hr.mono (by decide)) (takes_of rfl rfl rfl rfl) (ad_cons (nv 0) (ad_cons ed_int ad_nil))) ed_int) (ad_cons ed_int ad_nil)))))
abbrev N_law_letters : List Str := ["_law_hand_here", "_law_many", "_law_most_here", "_law_n", "_law_row", "_law_k", "_law_other"]
theorem sc_law_letters : FnScope N_law_letters ["_law_hand_here", "_law_many", "_law_most_here"] (defScope s_law_letters) := ⟨rfl, rfl, rfl, by decide +kernel, rfl, by decide +kernel, by decide +kernel⟩
noncomputable def m_law_letters : M Fl := (seqF (asgF (m2 (pur (RI 1)) (bnd (consA (getV 0) (consA (bnd (consB (getV 1) (consB (getV 2) (pur []))) min2M) (pur []))) (callH 2 R_law_take [])) addM) (setV 3))
    (seqF (setLcO 4 (bnd (consB (getV 1) (pur [])) rng1) [5] (setV 5) (pur true) (ifE (bnd (m2 (getV 5) (getV 3) ltM) asB) (m2 (getV 5) (pur (RI 1)) addM) (bnd (consA (getV 0) (consA (m2 (getV 3) (pur (RI 1)) addM) (pur []))) (callH 2 R_law_take []))))
    (seqF (forF (bnd (consB (m2 (getV 1) (pur (RI 1)) subM) (consB (pur (RI 0)) (consB (bnd (pur (RI 1)) negM) (pur [])))) rng3) (setV 5) (seqF (asgF (bnd (consA (getV 0) (consA (m2 (getV 5) (pur (RI 1)) addM) (pur []))) (callH 2 R_law_take [])) (setV 6))
    (asgF (bnd (consA (m2 (getV 4) (getV 6) ixM) (consA (m2 (getV 4) (getV 5) ixM) (pur []))) tupM) (seqG (consG (subG (getV 4) (getV 5)) (consG (subG (getV 4) (getV 6)) nilG)) 2))))
    (retF (getV 4)))))
noncomputable def R_law_letters : List SV → Hand → Res × Hand := runH 7 m_law_letters
theorem ok_law_letters (T : Txt P w K mg base ct) : OkH P w K mg base ct "_law_letters" 3 2 R_law_letters :=
  okH T.f_law_letters sc_law_letters (fun _ _ _ _ _ _ us hl => match us, hl with | [_, _, _], _ => rfl) fun f cdv A outer s H E hr =>
    (sds_cons (sd_asg (ed_add ed_int (ed_callHP (ok_law_take T) (hr.mono (by decide)) (takes_of rfl rfl rfl rfl) (ad_cons (nv 0) (ad_cons (ed_blt (fun _ h => pe_callB (call_min2 rfl) (by rfl) T.min PyProof.Rows.boot_min h) min2M_ok (bd_cons (nv 1) (bd_cons (nv 2) bd_nil))) ad_nil)))) (gn 3 sc_law_letters.nd))
    (sds_cons (sd_setLcO (i := 4) (own := [("_law_k", 5)]) rfl sc_law_letters.nd rfl rfl (sw_true rfl rfl rfl (by decide +kernel)) (id_range1 (by rfl) T.range (bd_cons (nv 1) bd_nil)) (blkOk_by (own := [("_law_k", 5)]) (N := N_law_letters) (sc := (defScope s_law_letters)) (by decide +kernel)) (by decide) (fun _ _ _ _ _ => (gn 5 sc_law_letters.nd)) (fun _ _ _ _ _ => ifs_nil) (fun _ _ _ _ _ => (ed_if (td_lt (nv 5) (nv 3)) (ed_add (nv 5) ed_int) (ed_callHP (ok_law_take T) (hr.mono (by decide)) takes0 (ad_cons (nv 0) (ad_cons (ed_add (nv 3) ed_int) ad_nil))))))
    (sds_cons (sd_for (passes_of rfl) rfl (id_range3 (by rfl) T.range (bd_cons (ed_sub (nv 1) ed_int) (bd_cons ed_int (bd_cons (ed_neg ed_int) bd_nil)))) (gn 5 sc_law_letters.nd) (sds_cons (sd_asg (ed_callHP (ok_law_take T) (hr.mono (by decide)) (takes_of rfl rfl rfl rfl) (ad_cons (nv 0) (ad_cons (ed_add (nv 5) ed_int) ad_nil))) (gn 6 sc_law_letters.nd))
    (sds_one (sd_asg (ed_tup (ad_cons (ed_sub1 (nv 4) (nv 6)) (ad_cons (ed_sub1 (nv 4) (nv 5)) ad_nil))) (gd_seq rfl (gds_cons (gd_sub (nv 4) (nv 5)) (gds_cons (gd_sub (nv 4) (nv 6)) gds_nilG)))))))
    (sds_one (sd_ret (nv 4))))))
abbrev N_law_bars : List Str := ["_law_hand_here", "_law_most_here", "_law_many", "_law_row", "_law_bars_here", "_law_k"]
theorem sc_law_bars : FnScope N_law_bars ["_law_hand_here", "_law_most_here"] (defScope s_law_bars) := ⟨rfl, rfl, rfl, by decide +kernel, rfl, by decide +kernel, by decide +kernel⟩
noncomputable def m_law_bars : M Fl := (seqF (asgF (m2 (bnd (consA (pur (RI 2)) (consA (pur (RI 1)) (consA (pur (RI 3)) (consA (pur (RI 2)) (consA (pur (RI 3)) (consA (pur (RI 2)) (consA (pur (RI 3)) (consA (pur (RI 6)) (pur []))))))))) lstM) (bnd (consA (getV 0) (consA (pur (RI 8)) (pur []))) (callH 2 R_law_take [])) ixM) (setV 2))
    (seqF (asgF (bnd (bnd (consA (getV 0) (consA (getV 2) (consA (getV 1) (pur [])))) (callH 3 R_law_letters [])) frz) (setV 3))
    (seqF (asgF (bnd (bnd (pur []) lstM) own) (setV 4))
    (seqF (forF (bnd (consB (getV 2) (pur [])) rng1) (setV 5) (dropF (appM (getV 4) (bnd (consA (m2 (bnd (consA (getV 0) (consA (m2 (getV 5) (pur (RI 1)) addM) (pur []))) (callH 2 R_law_take [])) (pur (RI 1)) subM) (consA (bnd (consA (getV 0) (pur [])) (callH 1 R_law_mark [])) (consA (m2 (getV 3) (getV 5) ixM) (pur [])))) tupM))))
    (retF (bnd (consB (getV 4) (pur [])) tupleM))))))
noncomputable def R_law_bars : List SV → Hand → Res × Hand := runH 6 m_law_bars
def dd_law_bars : List D := [.int 2]
theorem bd_law_bars (T : Txt P w K mg base ct) (f : Addr) (cdv : Value) (A : Around) (outer : List Env) (s : Shared) (H : Hp) (E : XK) (hr : Room 3 (A.deeper (envOfC "_law_bars" (defScope s_law_bars) s.heap.objs.size f cdv))) : SDs (cxOf (L2.CX P w) P w K mg base N_law_bars "_law_bars" (defScope s_law_bars) f cdv A outer s H E) ct (fun cls d _ H => E cls d H) (defBody s_law_bars) m_law_bars :=
    (sds_cons (sd_asg (ed_sub1 (ed_lst (ad_cons ed_int (ad_cons ed_int (ad_cons ed_int (ad_cons ed_int (ad_cons ed_int (ad_cons ed_int (ad_cons ed_int (ad_cons ed_int ad_nil))))))))) (ed_callHP (ok_law_take T) (hr.mono (by decide)) (takes_of rfl rfl rfl rfl) (ad_cons (nv 0) (ad_cons ed_int ad_nil)))) (gn 2 sc_law_bars.nd))
    (sds_cons (sd_asg (ed_frz (ed_callHP (ok_law_letters T) (hr.mono (by decide)) (takes_of rfl rfl rfl rfl) (ad_cons (nv 0) (ad_cons (nv 2) (ad_cons (nv 1) ad_nil))))) (gn 3 sc_law_bars.nd))
    (sds_cons (sd_asg (ed_own (ed_lst ad_nil)) (gn 4 sc_law_bars.nd))
    (sds_cons (sd_for (passes_of rfl) rfl (id_range1 (by rfl) T.range (bd_cons (nv 2) bd_nil)) (gn 5 sc_law_bars.nd) (sds_one (sd_expr (ed_append (nv 4) (ed_tup (ad_cons (ed_sub (ed_callHP (ok_law_take T) (hr.mono (by decide)) (takes_of rfl rfl rfl rfl) (ad_cons (nv 0) (ad_cons (ed_add (nv 5) ed_int) ad_nil))) ed_int) (ad_cons (ed_callHP (ok_law_mark T) (hr.mono (by decide)) (takes_of rfl rfl rfl rfl) (ad_cons (nv 0) ad_nil)) (ad_cons (ed_sub1 (nv 3) (nv 5)) ad_nil))))))))
    (sds_one (sd_ret (ed_blt (fun _ h => pe_callTy call_tuple_of (by rfl) T.tuple PyProof.Rows.boot_tuple h) tupleM_ok (bd_cons (nv 4) bd_nil))))))))
theorem ok_law_bars_2 (T : Txt P w K mg base ct) : OkHd P w K mg base ct "_law_bars" 2 4 R_law_bars (dd_law_bars.drop 1) :=
  okHf T.f_law_bars sc_law_bars 2 1 (by decide) rfl (fun _ => (.cons (.int _) .nil)) (fun _ _ _ _ _ _ _ us its hl hi => match us, hl, its, hi with | [_, _], _, [_], _ => ⟨_, rfl, rfl⟩) (bd_law_bars T)
abbrev N_law_most : List Str := ["_law_bars_here", "_law_bar"]
theorem sc_law_most : FnScope N_law_most ["_law_bars_here"] (defScope s_law_most) := ⟨rfl, rfl, rfl, by decide +kernel, rfl, by decide +kernel, by decide +kernel⟩
noncomputable def m_law_most : M Fl := (retF (bnd (consB (lcM (bnd (getV 0) seqSrc) [1] (setV 1) (pur true) (m2 (getV 1) (pur (RI 2)) ixM)) (pur [])) maxM))
noncomputable def R_law_most : List D → Res := runP 2 m_law_most
theorem ok_law_most (T : Txt P w K mg base ct) : OkP P w K mg base ct "_law_most" 1 1 R_law_most [] :=
  okP T.f_law_most sc_law_most (fun _ _ _ _ _ _ us hl => match us, hl with | [_], _ => rfl) fun f cdv A outer s H E hr =>
    (sds_one (sd_ret (ed_blt (fun _ h => pe_callB (cr_max (by rfl)) (by rfl) T.max PyProof.Rows.boot_max h) maxM_ok (bd_cons (ed_lc (own := [("_law_bar", 1)]) rfl sc_law_most.nd (id_seq (nv 0)) (blkOk_by (own := [("_law_bar", 1)]) (N := N_law_most) (sc := (defScope s_law_most)) (by decide +kernel)) (by decide) (fun _ _ _ _ _ => (gn 1 sc_law_most.nd)) (fun _ _ _ _ _ => ifs_nil) (fun _ _ _ _ _ => (ed_sub1 (nv 1) ed_int))) bd_nil))))
abbrev N_law_wide : List Str := ["_law_hand_here", "_law_way", "_law_total", "_law_turn"]
theorem sc_law_wide : FnScope N_law_wide ["_law_hand_here"] (defScope s_law_wide) := ⟨rfl, rfl, rfl, by decide +kernel, rfl, by decide +kernel, by decide +kernel⟩
noncomputable def m_law_wide : M Fl := (seqF (asgF (bnd (consA (getV 0) (consA (pur (RI 9)) (pur []))) (callH 2 R_law_take [])) (setV 1))
    (seqF (ifF (bnd (m2 (getV 1) (pur (RI 6)) ltM) asB) (retF (m2 (bnd (consA (getV 0) (consA (pur (RI 25)) (pur []))) (callH 2 R_law_take [])) (pur (RI 12)) subM)) (pur .nx))
    (seqF (asgF (pur (RI 0)) (setV 2))
    (seqF (forF (bnd (consB (ifE (bnd (m2 (getV 1) (pur (RI 8)) ltM) asB) (pur (RI 1)) (pur (RI 5))) (pur [])) rng1) (setV 3) (asgF (m2 (m2 (getV 2) (m2 (pur (RI 10)) (pur (RI 9)) powM) mulI) (bnd (consA (getV 0) (consA (m2 (pur (RI 10)) (pur (RI 9)) powM) (pur []))) (callH 2 R_law_take [])) addM) (setV 2)))
    (retF (m2 (getV 2) (m2 (pur (RI 1)) (m2 (pur (RI 2)) (bnd (consA (getV 0) (consA (pur (RI 2)) (pur []))) (callH 2 R_law_take [])) mulI) subM) mulI))))))
noncomputable def R_law_wide : List SV → Hand → Res × Hand := runH 4 m_law_wide
theorem ok_law_wide (T : Txt P w K mg base ct) : OkH P w K mg base ct "_law_wide" 1 2 R_law_wide :=
  okH T.f_law_wide sc_law_wide (fun _ _ _ _ _ _ us hl => match us, hl with | [_], _ => rfl) fun f cdv A outer s H E hr =>
    (sds_cons (sd_asg (ed_callHP (ok_law_take T) (hr.mono (by decide)) (takes_of rfl rfl rfl rfl) (ad_cons (nv 0) (ad_cons ed_int ad_nil))) (gn 1 sc_law_wide.nd))
    (sds_cons (sd_if (td_lt (nv 1) ed_int) (sds_one (sd_ret (ed_sub (ed_callHP (ok_law_take T) (hr.mono (by decide)) (takes_of rfl rfl rfl rfl) (ad_cons (nv 0) (ad_cons ed_int ad_nil))) ed_int))) sds_nil)
    (sds_cons (sd_asg ed_int (gn 2 sc_law_wide.nd))
    (sds_cons (sd_for (passes_of rfl) rfl (id_range1 (by rfl) T.range (bd_cons (ed_if (td_lt (nv 1) ed_int) ed_int ed_int) bd_nil)) (gn 3 sc_law_wide.nd) (sds_one (sd_asg (ed_add (ed_mulI (nv 2) (ed_pow ed_int ed_int)) (ed_callHP (ok_law_take T) (hr.mono (by decide)) (takes_of rfl rfl rfl rfl) (ad_cons (nv 0) (ad_cons (ed_pow ed_int ed_int) ad_nil)))) (gn 2 sc_law_wide.nd))))
    (sds_one (sd_ret (ed_mulI (nv 2) (ed_sub ed_int (ed_mulI ed_int (ed_callHP (ok_law_take T) (hr.mono (by decide)) (takes_of rfl rfl rfl rfl) (ad_cons (nv 0) (ad_cons ed_int ad_nil))))))))))))
abbrev N_law_wide_ratio : List Str := ["_law_hand_here"]
theorem sc_law_wide_ratio : FnScope N_law_wide_ratio ["_law_hand_here"] (defScope s_law_wide_ratio) := ⟨rfl, rfl, rfl, by decide +kernel, rfl, by decide +kernel, by decide +kernel⟩
noncomputable def m_law_wide_ratio : M Fl := (retF (bnd (consA (bnd (consA (getV 0) (pur [])) (callH 1 R_law_wide [])) (consA (m2 (pur (RI 1)) (bnd (consB (bnd (consA (getV 0) (pur [])) (callH 1 R_law_wide [])) (pur [])) absM) addM) (pur []))) (callM 2 R_law_ratio [])))
noncomputable def R_law_wide_ratio : List SV → Hand → Res × Hand := runH 1 m_law_wide_ratio
theorem ok_law_wide_ratio (T : Txt P w K mg base ct) : OkH P w K mg base ct "_law_wide_ratio" 1 3 R_law_wide_ratio :=
  okH T.f_law_wide_ratio sc_law_wide_ratio (fun _ _ _ _ _ _ us hl => match us, hl with | [_], _ => rfl) fun f cdv A outer s H E hr =>
    (sds_one (sd_ret (ed_callP (ok_law_ratio T) (hr.mono (by decide)) (takes_of rfl rfl rfl rfl) (ad_cons (ed_callHP (ok_law_wide T) (hr.mono (by decide)) (takes_of rfl rfl rfl rfl) (ad_cons (nv 0) ad_nil)) (ad_cons (ed_add ed_int (ed_blt (fun _ h => pe_callB call_abs (by rfl) T.abs PyProof.Rows.boot_abs h) absM_ok (bd_cons (ed_callHP (ok_law_wide T) (hr.mono (by decide)) (takes_of rfl rfl rfl rfl) (ad_cons (nv 0) ad_nil)) bd_nil))) ad_nil)))))
abbrev N_law_tuples : List Str := ["_law_thing", "_law_part"]
theorem sc_law_tuples : FnScope N_law_tuples ["_law_thing"] (defScope s_law_tuples) := ⟨rfl, rfl, rfl, by decide +kernel, rfl, by decide +kernel, by decide +kernel⟩
noncomputable def m_law_tuples (F : List D → Res) : M Fl := (seqF (ifF (bnd (bnd (getV 0) (isiG (ktB .tuple) (kcB 4 5))) truthM) (retF (bnd (lcM (bnd (getV 0) seqSrc) [1] (setV 1) (notT (bnd (bnd (consA (getV 1) (pur [])) (callM 1 F [])) truthM)) (pur (RI 1))) notM)) (pur .nx))
    (retF (orV (m2 (getV 0) (pur RN) isNM) (orV (bnd (getV 0) (isiG (ktB .str) (kcB 4 5))) (andV (bnd (getV 0) (isiG (ktB .int) (kcB 4 5))) (bnd (bnd (getV 0) (isiG (ktB .bool) (kcB 4 5))) notM))))))
noncomputable def R_law_tuples : Nat → List D → Res
  | 0 => fun _ => .bad
  | i + 1 => runP 2 (m_law_tuples (R_law_tuples i))
theorem okr_law_tuples (T : Txt P w K mg base ct) : ∀ i, OkP P w K mg base ct "_law_tuples" 1 (1 + i) (R_law_tuples i) []
  | 0 => okBad T.f_law_tuples sc_law_tuples (k := 0) (fun _ _ _ _ _ _ us hl => match us, hl with | [_], _ => rfl)
  | i + 1 => by
    have O := okr_law_tuples T i
    exact okP (k := 1 + i) T.f_law_tuples sc_law_tuples (fun _ _ _ _ _ _ us hl => match us, hl with | [_], _ => rfl) (fun f cdv A outer s H E hr =>
    (sds_cons (sd_if (td_truth (ed_isiG (.ty _) (hkB (u := .tuple) (by decide)) (hcB T.allc (by decide)) (by rfl) T.isinstance (nv 0) (pe_bltn (by rfl) T.tuple PyProof.Rows.boot_tuple rfl))) (sds_one (sd_ret (ed_not (ed_lc (own := [("_law_part", 1)]) rfl sc_law_tuples.nd (id_seq (nv 0)) (blkOk_by (own := [("_law_part", 1)]) (N := N_law_tuples) (sc := (defScope s_law_tuples)) (by decide +kernel)) (by decide) (fun _ _ _ _ _ => (gn 1 sc_law_tuples.nd)) (fun _ _ _ _ _ => (ifs_one (td_not (td_truth (ed_callP O (hr.mono (by omega)) takes0 (ad_cons (nv 1) ad_nil)))))) (fun _ _ _ _ _ => ed_int))))) sds_nil)
    (sds_one (sd_ret (ed_or (ed_isN (nv 0) ed_non) (ed_or (ed_isiG (.ty _) (hkB (u := .str) (by decide)) (hcB T.allc (by decide)) (by rfl) T.isinstance (nv 0) (pe_bltn (by rfl) T.str PyProof.Rows.boot_str rfl)) (ed_one (ed_and (ed_isiG (.ty _) (hkB (u := .int) (by decide)) (hcB T.allc (by decide)) (by rfl) T.isinstance (nv 0) (pe_bltn (by rfl) T.int PyProof.Rows.boot_int rfl)) (ed_one (ed_not (ed_isiG (.ty _) (hkB (u := .bool) (by decide)) (hcB T.allc (by decide)) (by rfl) T.isinstance (nv 0) (pe_bltn (by rfl) T.bool PyProof.Rows.boot_bool rfl))))))))))))
theorem ok_law_tuples (T : Txt P w K mg base ct) : OkP P w K mg base ct "_law_tuples" 1 9 (R_law_tuples 8) [] := okr_law_tuples T 8
abbrev N_law_odd : List Str := ["_law_hand_here", "_law_top", "_law_odds"]
theorem sc_law_odd : FnScope N_law_odd ["_law_hand_here"] (defScope s_law_odd) := ⟨rfl, rfl, rfl, by decide +kernel, rfl, by decide +kernel, by decide +kernel⟩
noncomputable def m_law_odd : M Fl := (seqF (asgF (m2 (bnd (consA (getV 0) (consA (pur (RI 9)) (pur []))) (callH 2 R_law_take [])) (pur (RI 4)) subM) (setV 1))
    (seqF (asgF (bnd (bnd (consA (getV 1) (consA (bnd (bnd (consA (getV 1) (consA (pur (RI 1)) (pur []))) lstM) frz) (consA (bnd (consA (getV 1) (consA (pur (RI 0)) (pur []))) tupM) (consA (bnd (consA (m2 (pur (RI 2)) (getV 1) mulI) (consA (pur (RI 2)) (pur []))) tupM) (consA (bnd (consA (getV 1) (consA (pur (RI 1)) (consA (pur (RI 1)) (pur [])))) tupM) (consA (bnd (consA (pur (RB true)) (consA (pur (RI 1)) (pur []))) tupM) (pur []))))))) lstM) frz) (setV 2))
    (seqF (asgF (bnd (m2 (getV 2) (bnd (consA (bnd (consA (getV 1) (consA (pur (RB true)) (pur []))) tupM) (consA (pur RN) (consA (pur (RS ("1" : Str))) (consA (bnd (consA (getV 1) (consA (bnd (pur (RI 1)) negM) (pur []))) tupM) (consA (bnd (consA (getV 1) (pur [])) tupM) (consA (bnd (pur []) tupM) (pur []))))))) lstM) addM) frz) (setV 2))
    (retF (m2 (getV 2) (bnd (consA (getV 0) (consA (pur (RI 12)) (pur []))) (callH 2 R_law_take [])) ixM)))))
noncomputable def R_law_odd : List SV → Hand → Res × Hand := runH 3 m_law_odd
theorem ok_law_odd (T : Txt P w K mg base ct) : OkH P w K mg base ct "_law_odd" 1 2 R_law_odd :=
  okH T.f_law_odd sc_law_odd (fun _ _ _ _ _ _ us hl => match us, hl with | [_], _ => rfl) fun f cdv A outer s H E hr =>
    (sds_cons (sd_asg (ed_sub (ed_callHP (ok_law_take T) (hr.mono (by decide)) (takes_of rfl rfl rfl rfl) (ad_cons (nv 0) (ad_cons ed_int ad_nil))) ed_int) (gn 1 sc_law_odd.nd))
    (sds_cons (sd_asg (ed_frz (ed_lst (ad_cons (nv 1) (ad_cons (ed_frz (ed_lst (ad_cons (nv 1) (ad_cons ed_int ad_nil)))) (ad_cons (ed_tup (ad_cons (nv 1) (ad_cons ed_int ad_nil))) (ad_cons (ed_tup (ad_cons (ed_mulI ed_int (nv 1)) (ad_cons ed_int ad_nil))) (ad_cons (ed_tup (ad_cons (nv 1) (ad_cons ed_int (ad_cons ed_int ad_nil)))) (ad_cons (ed_tup (ad_cons ed_bl (ad_cons ed_int ad_nil))) ad_nil)))))))) (gn 2 sc_law_odd.nd))
    (sds_cons (sd_asg (ed_frz (ed_add (nv 2) (ed_lst (ad_cons (ed_tup (ad_cons (nv 1) (ad_cons ed_bl ad_nil))) (ad_cons ed_non (ad_cons ed_str (ad_cons (ed_tup (ad_cons (nv 1) (ad_cons (ed_neg ed_int) ad_nil))) (ad_cons (ed_tup (ad_cons (nv 1) ad_nil)) (ad_cons (ed_tup ad_nil) ad_nil))))))))) (gn 2 sc_law_odd.nd))
    (sds_one (sd_ret (ed_sub1 (nv 2) (ed_callHP (ok_law_take T) (hr.mono (by decide)) (takes_of rfl rfl rfl rfl) (ad_cons (nv 0) (ad_cons ed_int ad_nil)))))))))
abbrev N_law_grown_place : List Str := ["_law_place", "_law_size"]
theorem sc_law_grown_place : FnScope N_law_grown_place ["_law_place", "_law_size"] (defScope s_law_grown_place) := ⟨rfl, rfl, rfl, by decide +kernel, rfl, by decide +kernel, by decide +kernel⟩
noncomputable def m_law_grown_place : M Fl := (retF (bnd (consA (m2 (getV 0) (pur (RI 0)) ixM) (consA (bnd (consA (m2 (getV 0) (pur (RI 1)) ixM) (consA (getV 1) (pur []))) (callM 2 R_law_times [])) (pur []))) tupM))
noncomputable def R_law_grown_place : List D → Res := runP 2 m_law_grown_place
theorem ok_law_grown_place (T : Txt P w K mg base ct) : OkP P w K mg base ct "_law_grown_place" 2 4 R_law_grown_place [] :=
  okP T.f_law_grown_place sc_law_grown_place (fun _ _ _ _ _ _ us hl => match us, hl with | [_, _], _ => rfl) fun f cdv A outer s H E hr =>
    (sds_one (sd_ret (ed_tup (ad_cons (ed_sub1 (nv 0) ed_int) (ad_cons (ed_callP (ok_law_times T) (hr.mono (by decide)) (takes_of rfl rfl rfl rfl) (ad_cons (ed_sub1 (nv 0) ed_int) (ad_cons (nv 1) ad_nil))) ad_nil)))))
abbrev N_law_moved_place : List Str := ["_law_place", "_law_step"]
theorem sc_law_moved_place : FnScope N_law_moved_place ["_law_place", "_law_step"] (defScope s_law_moved_place) := ⟨rfl, rfl, rfl, by decide +kernel, rfl, by decide +kernel, by decide +kernel⟩
noncomputable def m_law_moved_place : M Fl := (retF (bnd (consA (m2 (getV 0) (pur (RI 0)) ixM) (consA (ifE (bnd (m2 (m2 (getV 0) (pur (RI 0)) ixM) (bnd (pur (RI 1)) negM) eqM) asB) (bnd (consA (m2 (getV 0) (pur (RI 1)) ixM) (consA (getV 1) (pur []))) (callM 2 R_law_plus [])) (m2 (getV 0) (pur (RI 1)) ixM)) (pur []))) tupM))
noncomputable def R_law_moved_place : List D → Res := runP 2 m_law_moved_place
theorem ok_law_moved_place (T : Txt P w K mg base ct) : OkP P w K mg base ct "_law_moved_place" 2 4 R_law_moved_place [] :=
  okP T.f_law_moved_place sc_law_moved_place (fun _ _ _ _ _ _ us hl => match us, hl with | [_, _], _ => rfl) fun f cdv A outer s H E hr =>
    (sds_one (sd_ret (ed_tup (ad_cons (ed_sub1 (nv 0) ed_int) (ad_cons (ed_if (td_eq (hu64 hr) (ed_sub1 (nv 0) ed_int) (ed_neg ed_int)) (ed_callP (ok_law_plus T) (hr.mono (by decide)) (takes_of rfl rfl rfl rfl) (ad_cons (ed_sub1 (nv 0) ed_int) (ad_cons (nv 1) ad_nil))) (ed_sub1 (nv 0) ed_int)) ad_nil)))))
abbrev N_law_order : List Str := ["_law_hand_here", "_law_n", "_law_row", "_law_k", "_law_other"]
theorem sc_law_order : FnScope N_law_order ["_law_hand_here", "_law_n"] (defScope s_law_order) := ⟨rfl, rfl, rfl, by decide +kernel, rfl, by decide +kernel, by decide +kernel⟩
noncomputable def m_law_order : M Fl := (seqF (setLcO 2 (bnd (consB (getV 1) (pur [])) rng1) [3] (setV 3) (pur true) (m2 (getV 3) (pur (RI 1)) addM))
    (seqF (forF (bnd (consB (m2 (getV 1) (pur (RI 1)) subM) (consB (pur (RI 0)) (consB (bnd (pur (RI 1)) negM) (pur [])))) rng3) (setV 3) (seqF (asgF (bnd (consA (getV 0) (consA (m2 (getV 3) (pur (RI 1)) addM) (pur []))) (callH 2 R_law_take [])) (setV 4))
    (asgF (bnd (consA (m2 (getV 2) (getV 4) ixM) (consA (m2 (getV 2) (getV 3) ixM) (pur []))) tupM) (seqG (consG (subG (getV 2) (getV 3)) (consG (subG (getV 2) (getV 4)) nilG)) 2))))
    (retF (bnd (consB (getV 2) (pur [])) tupleM))))
noncomputable def R_law_order : List SV → Hand → Res × Hand := runH 5 m_law_order
theorem ok_law_order (T : Txt P w K mg base ct) : OkH P w K mg base ct "_law_order" 2 2 R_law_order :=
  okH T.f_law_order sc_law_order (fun _ _ _ _ _ _ us hl => match us, hl with | [_, _], _ => rfl) fun f cdv A outer s H E hr =>
    (sds_cons (sd_setLcO (i := 2) (own := [("_law_k", 3)]) rfl sc_law_order.nd rfl rfl (sw_true rfl rfl rfl (by decide +kernel)) (id_range1 (by rfl) T.range (bd_cons (nv 1) bd_nil)) (blkOk_by (own := [("_law_k", 3)]) (N := N_law_order) (sc := (defScope s_law_order)) (by decide +kernel)) (by decide) (fun _ _ _ _ _ => (gn 3 sc_law_order.nd)) (fun _ _ _ _ _ => ifs_nil) (fun _ _ _ _ _ => (ed_add (nv 3) ed_int)))
    (sds_cons (sd_for (passes_of rfl) rfl (id_range3 (by rfl) T.range (bd_cons (ed_sub (nv 1) ed_int) (bd_cons ed_int (bd_cons (ed_neg ed_int) bd_nil)))) (gn 3 sc_law_order.nd) (sds_cons (sd_asg (ed_callHP (ok_law_take T) (hr.mono (by decide)) (takes_of rfl rfl rfl rfl) (ad_cons (nv 0) (ad_cons (ed_add (nv 3) ed_int) ad_nil))) (gn 4 sc_law_order.nd))
    (sds_one (sd_asg (ed_tup (ad_cons (ed_sub1 (nv 2) (nv 4)) (ad_cons (ed_sub1 (nv 2) (nv 3)) ad_nil))) (gd_seq rfl (gds_cons (gd_sub (nv 2) (nv 3)) (gds_cons (gd_sub (nv 2) (nv 4)) gds_nilG)))))))
    (sds_one (sd_ret (ed_blt (fun _ h => pe_callTy call_tuple_of (by rfl) T.tuple PyProof.Rows.boot_tuple h) tupleM_ok (bd_cons (nv 2) bd_nil))))))
abbrev N_law_renamed : List Str := ["_law_bars_here", "_law_order_here", "_law_names", "_law_host", "_law_mark_here", "_law_letter"]
theorem sc_law_renamed : FnScope N_law_renamed ["_law_bars_here", "_law_order_here"] (defScope s_law_renamed) := ⟨rfl, rfl, rfl, by decide +kernel, rfl, by decide +kernel, by decide +kernel⟩
noncomputable def m_law_renamed : M Fl := (seqF (asgF (bnd (m2 (bnd (consA (pur (RI 0)) (pur [])) tupM) (bnd (consB (getV 1) (pur [])) tupleM) addM) frz) (setV 2))
    (retF (bnd (consB (lcM (bnd (getV 0) seqSrc) [3, 4, 5] (seqG (consG (setV 3) (consG (setV 4) (consG (setV 5) nilG))) 3) (pur true) (bnd (consA (getV 3) (consA (getV 4) (consA (m2 (getV 2) (getV 5) ixM) (pur [])))) tupM)) (pur [])) tupleM)))
noncomputable def R_law_renamed : List D → Res := runP 6 m_law_renamed
theorem ok_law_renamed (T : Txt P w K mg base ct) : OkP P w K mg base ct "_law_renamed" 2 1 R_law_renamed [] :=
  okP T.f_law_renamed sc_law_renamed (fun _ _ _ _ _ _ us hl => match us, hl with | [_, _], _ => rfl) fun f cdv A outer s H E hr =>
    (sds_cons (sd_asg (ed_frz (ed_add (ed_tup (ad_cons ed_int ad_nil)) (ed_blt (fun _ h => pe_callTy call_tuple_of (by rfl) T.tuple PyProof.Rows.boot_tuple h) tupleM_ok (bd_cons (nv 1) bd_nil)))) (gn 2 sc_law_renamed.nd))
    (sds_one (sd_ret (ed_blt (fun _ h => pe_callTy call_tuple_of (by rfl) T.tuple PyProof.Rows.boot_tuple h) tupleM_ok (bd_cons (ed_lc (own := [("_law_host", 3), ("_law_mark_here", 4), ("_law_letter", 5)]) rfl sc_law_renamed.nd (id_seq (nv 0)) (blkOk_by (own := [("_law_host", 3), ("_law_mark_here", 4), ("_law_letter", 5)]) (N := N_law_renamed) (sc := (defScope s_law_renamed)) (by decide +kernel)) (by decide) (fun _ _ _ _ _ => (gd_seq rfl (gds_cons (gn 3 sc_law_renamed.nd) (gds_cons (gn 4 sc_law_renamed.nd) (gds_cons (gn 5 sc_law_renamed.nd) gds_nilG))))) (fun _ _ _ _ _ => ifs_nil) (fun _ _ _ _ _ => (ed_tup (ad_cons (nv 3) (ad_cons (nv 4) (ad_cons (ed_sub1 (nv 2) (nv 5)) ad_nil)))))) bd_nil)))))
abbrev N_Arms___init__ : List Str := ["self", "bars", "bar"]
theorem sc_Arms___init__ : FnScope N_Arms___init__ ["self", "bars"] (defScope s_Arms___init__) := ⟨rfl, rfl, rfl, by decide +kernel, rfl, by decide +kernel, by decide +kernel⟩
noncomputable def m_Arms___init__ : M Fl := (seqF (setMe 4 0 "bars" (bnd (consA (getV 1) (pur [])) (callM 1 R_check_bars [])))
    (setMe 4 0 "letters" (bnd (consB (lcM (bnd (bnd (getV 0) (fldM [4] "bars")) seqSrc) [2] (setV 2) (pur true) (m2 (getV 2) (pur (RI 2)) ixM)) (pur [])) maxM)))
noncomputable def R_Arms___init__ : List D → Res := runI 3 4 m_Arms___init__
theorem ok_Arms___init__ (T : Txt P w K mg base ct) : OkI P w K mg base ct "Arms" 4 1 5 R_Arms___init__ [] :=
  okI T.mt_Arms___init__ T.k_Arms sc_Arms___init__ (n := 1) rfl (fun _ _ _ _ _ _ us hl => match us, hl with | [_, _], _ => rfl) fun f cdv A outer s H E hr =>
    (sds_cons (sd_setMe (c0 := 4) (i := 0) (T.fld_bars 4 rfl).1 (T.fld_bars 4 rfl).2 (ed_callP (ok_check_bars T) (hr.mono (by decide)) (takes_of rfl rfl rfl rfl) (ad_cons (nv 1) ad_nil)) (pv 0))
    (sds_one (sd_setMe (c0 := 4) (i := 0) (T.fld_letters 4 rfl).1 (T.fld_letters 4 rfl).2 (ed_blt (fun _ h => pe_callB (cr_max (by rfl)) (by rfl) T.max PyProof.Rows.boot_max h) maxM_ok (bd_cons (ed_lc (own := [("bar", 2)]) rfl sc_Arms___init__.nd (id_seq (ed_fld T.fld_bars (nv 0))) (blkOk_by (own := [("bar", 2)]) (N := N_Arms___init__) (sc := (defScope s_Arms___init__)) (by decide +kernel)) (by decide) (fun _ _ _ _ _ => (gn 2 sc_Arms___init__.nd)) (fun _ _ _ _ _ => ifs_nil) (fun _ _ _ _ _ => (ed_sub1 (nv 2) ed_int))) bd_nil)) (pv 0))))
abbrev N_Arms_grown : List Str := ["self", "size", "host", "mark", "letter"]
theorem sc_Arms_grown : FnScope N_Arms_grown ["self", "size"] (defScope s_Arms_grown) := ⟨rfl, rfl, rfl, by decide +kernel, rfl, by decide +kernel, by decide +kernel⟩
noncomputable def m_Arms_grown : M Fl := (seqF (ifF (notT (bnd (bnd (consA (getV 1) (pur [])) (callM 1 R_is_above_zero [])) truthM)) (raise0F 2) (pur .nx))
    (retF (bnd (consA (bnd (lcM (bnd (bnd (getV 0) (fldM [4] "bars")) seqSrc) [2, 3, 4] (seqG (consG (setV 2) (consG (setV 3) (consG (setV 4) nilG))) 3) (pur true) (bnd (consA (getV 2) (consA (bnd (consA (getV 3) (consA (getV 1) (pur []))) (callM 2 R_times [])) (consA (getV 4) (pur [])))) tupM)) frz) (pur [])) (callM 1 (datRes R_Arms___init__) []))))
noncomputable def R_Arms_grown : List D → Res := runP 5 m_Arms_grown
theorem ok_Arms_grown (T : Txt P w K mg base ct) : OkM P w K mg base ct 4 "grown" 2 7 R_Arms_grown [] :=
  okM T.mt_Arms_grown sc_Arms_grown (fun _ _ _ _ _ _ us hl => match us, hl with | [_, _], _ => rfl) fun f cdv A outer s H E hr =>
    (sds_cons (sd_if (td_not (td_truth (ed_callP (ok_is_above_zero T) (hr.mono (by decide)) (takes_of rfl rfl rfl rfl) (ad_cons (nv 1) ad_nil)))) (sds_one (sd_raiseE0 (c := 2) T.x_BadSize rfl (takes_of rfl rfl rfl rfl) (hr.mono (by decide)))) sds_nil)
    (sds_one (sd_ret (ed_makeP (ok_Arms___init__ T) (hr.mono (by decide)) (takes_of rfl rfl rfl rfl) (ad_cons (ed_frz (ed_lc (own := [("host", 2), ("mark", 3), ("letter", 4)]) rfl sc_Arms_grown.nd (id_seq (ed_fld T.fld_bars (nv 0))) (blkOk_by (own := [("host", 2), ("mark", 3), ("letter", 4)]) (N := N_Arms_grown) (sc := (defScope s_Arms_grown)) (by decide +kernel)) (by decide) (fun _ _ _ _ _ => (gd_seq rfl (gds_cons (gn 2 sc_Arms_grown.nd) (gds_cons (gn 3 sc_Arms_grown.nd) (gds_cons (gn 4 sc_Arms_grown.nd) gds_nilG))))) (fun _ _ _ _ _ => ifs_nil) (fun _ _ _ _ _ => (ed_tup (ad_cons (nv 2) (ad_cons (ed_callP (ok_times T) (hr.mono (by decide)) takes0 (ad_cons (nv 3) (ad_cons (nv 1) ad_nil))) (ad_cons (nv 4) ad_nil))))))) ad_nil)))))
abbrev N_law_grown : List Str := ["_law_arms", "_law_size"]
theorem sc_law_grown : FnScope N_law_grown ["_law_arms", "_law_size"] (defScope s_law_grown) := ⟨rfl, rfl, rfl, by decide +kernel, rfl, by decide +kernel, by decide +kernel⟩
noncomputable def m_law_grown : M Fl := (tryO (retF (methM 4 "grown" 2 R_Arms_grown [] (getV 0) (consA (getV 1) (pur [])))) (exsOf 4 2) (retF (pur (RS ("size" : Str)))))
noncomputable def R_law_grown : List D → Res := runP 2 m_law_grown
theorem ok_law_grown (T : Txt P w K mg base ct) : OkP P w K mg base ct "_law_grown" 2 8 R_law_grown [] :=
  okP T.f_law_grown sc_law_grown (fun _ _ _ _ _ _ us hl => match us, hl with | [_, _], _ => rfl) fun f cdv A outer s H E hr =>
    (sds_one (sd_tryO (c := 2) T.h_BadSize rfl rfl (takes_of rfl rfl rfl rfl) (fun W pn xe tk hpo => (sds_one (sd_ret (ed_methP (T.allc.cl 4 (by decide) (by decide)) (ok_Arms_grown T) (hr.mono (by decide)) tk (nv 0) (ad_cons (nv 1) ad_nil))))) (fun _ _ _ => (sds_one (sd_ret ed_str)))))
abbrev N_Arms_shifted : List Str := ["self", "step", "host", "mark", "letter"]
theorem sc_Arms_shifted : FnScope N_Arms_shifted ["self", "step"] (defScope s_Arms_shifted) := ⟨rfl, rfl, rfl, by decide +kernel, rfl, by decide +kernel, by decide +kernel⟩
noncomputable def m_Arms_shifted : M Fl := (seqF (ifF (notT (bnd (bnd (consA (getV 1) (pur [])) (callM 1 R_is_ratio [])) truthM)) (raise0F 2) (pur .nx))
    (retF (bnd (consA (bnd (lcM (bnd (bnd (getV 0) (fldM [4] "bars")) seqSrc) [2, 3, 4] (seqG (consG (setV 2) (consG (setV 3) (consG (setV 4) nilG))) 3) (pur true) (bnd (consA (getV 2) (consA (ifE (bnd (m2 (getV 2) (pur (RD (.int (-1)))) eqM) asB) (bnd (consA (getV 3) (consA (getV 1) (pur []))) (callM 2 R_plus [])) (getV 3)) (consA (getV 4) (pur [])))) tupM)) frz) (pur [])) (callM 1 (datRes R_Arms___init__) []))))
noncomputable def R_Arms_shifted : List D → Res := runP 5 m_Arms_shifted
theorem ok_Arms_shifted (T : Txt P w K mg base ct) : OkM P w K mg base ct 4 "shifted" 2 7 R_Arms_shifted [] :=
  okM T.mt_Arms_shifted sc_Arms_shifted (fun _ _ _ _ _ _ us hl => match us, hl with | [_, _], _ => rfl) fun f cdv A outer s H E hr =>
    (sds_cons (sd_if (td_not (td_truth (ed_callP (ok_is_ratio T) (hr.mono (by decide)) (takes_of rfl rfl rfl rfl) (ad_cons (nv 1) ad_nil)))) (sds_one (sd_raiseE0 (c := 2) T.x_BadSize rfl (takes_of rfl rfl rfl rfl) (hr.mono (by decide)))) sds_nil)
    (sds_one (sd_ret (ed_makeP (ok_Arms___init__ T) (hr.mono (by decide)) (takes_of rfl rfl rfl rfl) (ad_cons (ed_frz (ed_lc (own := [("host", 2), ("mark", 3), ("letter", 4)]) rfl sc_Arms_shifted.nd (id_seq (ed_fld T.fld_bars (nv 0))) (blkOk_by (own := [("host", 2), ("mark", 3), ("letter", 4)]) (N := N_Arms_shifted) (sc := (defScope s_Arms_shifted)) (by decide +kernel)) (by decide) (fun _ _ _ _ _ => (gd_seq rfl (gds_cons (gn 2 sc_Arms_shifted.nd) (gds_cons (gn 3 sc_Arms_shifted.nd) (gds_cons (gn 4 sc_Arms_shifted.nd) gds_nilG))))) (fun _ _ _ _ _ => ifs_nil) (fun _ _ _ _ _ => (ed_tup (ad_cons (nv 2) (ad_cons (ed_if (td_eq (hu64 hr) (nv 2) (ed_glob T.c_MAST)) (ed_callP (ok_plus T) (hr.mono (by decide)) takes0 (ad_cons (nv 3) (ad_cons (nv 1) ad_nil))) (nv 3)) (ad_cons (nv 4) ad_nil))))))) ad_nil)))))
abbrev N_law_shifted : List Str := ["_law_arms", "_law_step"]
theorem sc_law_shifted : FnScope N_law_shifted ["_law_arms", "_law_step"] (defScope s_law_shifted) := ⟨rfl, rfl, rfl, by decide +kernel, rfl, by decide +kernel, by decide +kernel⟩
noncomputable def m_law_shifted : M Fl := (tryO (retF (methM 4 "shifted" 2 R_Arms_shifted [] (getV 0) (consA (getV 1) (pur [])))) (exsOf 4 2) (retF (pur (RS ("size" : Str)))))
noncomputable def R_law_shifted : List D → Res := runP 2 m_law_shifted
theorem ok_law_shifted (T : Txt P w K mg base ct) : OkP P w K mg base ct "_law_shifted" 2 8 R_law_shifted [] :=
  okP T.f_law_shifted sc_law_shifted (fun _ _ _ _ _ _ us hl => match us, hl with | [_, _], _ => rfl) fun f cdv A outer s H E hr =>
    (sds_one (sd_tryO (c := 2) T.h_BadSize rfl rfl (takes_of rfl rfl rfl rfl) (fun W pn xe tk hpo => (sds_one (sd_ret (ed_methP (T.allc.cl 4 (by decide) (by decide)) (ok_Arms_shifted T) (hr.mono (by decide)) tk (nv 0) (ad_cons (nv 1) ad_nil))))) (fun _ _ _ => (sds_one (sd_ret ed_str)))))
abbrev N_Arms_renamed : List Str := ["self", "order", "names", "host", "mark", "letter"]
theorem sc_Arms_renamed : FnScope N_Arms_renamed ["self", "order"] (defScope s_Arms_renamed) := ⟨rfl, rfl, rfl, by decide +kernel, rfl, by decide +kernel, by decide +kernel⟩
noncomputable def m_Arms_renamed : M Fl := (seqF (asgF (bnd (m2 (bnd (consA (pur (RI 0)) (pur [])) tupM) (bnd (consA (bnd (getV 0) (fldM [4] "letters")) (consA (getV 1) (pur []))) (callM 2 R_check_order [])) addM) frz) (setV 2))
    (retF (bnd (consA (bnd (lcM (bnd (bnd (getV 0) (fldM [4] "bars")) seqSrc) [3, 4, 5] (seqG (consG (setV 3) (consG (setV 4) (consG (setV 5) nilG))) 3) (pur true) (bnd (consA (getV 3) (consA (getV 4) (consA (m2 (getV 2) (getV 5) ixM) (pur [])))) tupM)) frz) (pur [])) (callM 1 (datRes R_Arms___init__) []))))
noncomputable def R_Arms_renamed : List D → Res := runP 6 m_Arms_renamed
theorem ok_Arms_renamed (T : Txt P w K mg base ct) : OkM P w K mg base ct 4 "renamed" 2 7 R_Arms_renamed [] :=
  okM T.mt_Arms_renamed sc_Arms_renamed (fun _ _ _ _ _ _ us hl => match us, hl with | [_, _], _ => rfl) fun f cdv A outer s H E hr =>
    (sds_cons (sd_asg (ed_frz (ed_add (ed_tup (ad_cons ed_int ad_nil)) (ed_callP (ok_check_order T) (hr.mono (by decide)) (takes_of rfl rfl rfl rfl) (ad_cons (ed_fld T.fld_letters (nv 0)) (ad_cons (nv 1) ad_nil))))) (gn 2 sc_Arms_renamed.nd))
    (sds_one (sd_ret (ed_makeP (ok_Arms___init__ T) (hr.mono (by decide)) (takes_of rfl rfl rfl rfl) (ad_cons (ed_frz (ed_lc (own := [("host", 3), ("mark", 4), ("letter", 5)]) rfl sc_Arms_renamed.nd (id_seq (ed_fld T.fld_bars (nv 0))) (blkOk_by (own := [("host", 3), ("mark", 4), ("letter", 5)]) (N := N_Arms_renamed) (sc := (defScope s_Arms_renamed)) (by decide +kernel)) (by decide) (fun _ _ _ _ _ => (gd_seq rfl (gds_cons (gn 3 sc_Arms_renamed.nd) (gds_cons (gn 4 sc_Arms_renamed.nd) (gds_cons (gn 5 sc_Arms_renamed.nd) gds_nilG))))) (fun _ _ _ _ _ => ifs_nil) (fun _ _ _ _ _ => (ed_tup (ad_cons (nv 3) (ad_cons (nv 4) (ad_cons (ed_sub1 (nv 2) (nv 5)) ad_nil))))))) ad_nil)))))
abbrev N_law_named : List Str := ["_law_arms", "_law_order_here"]
theorem sc_law_named : FnScope N_law_named ["_law_arms", "_law_order_here"] (defScope s_law_named) := ⟨rfl, rfl, rfl, by decide +kernel, rfl, by decide +kernel, by decide +kernel⟩
noncomputable def m_law_named : M Fl := (tryO (retF (methM 4 "renamed" 2 R_Arms_renamed [] (getV 0) (consA (getV 1) (pur [])))) (exsOf 4 3) (retF (pur (RS ("order" : Str)))))
noncomputable def R_law_named : List D → Res := runP 2 m_law_named
theorem ok_law_named (T : Txt P w K mg base ct) : OkP P w K mg base ct "_law_named" 2 8 R_law_named [] :=
  okP T.f_law_named sc_law_named (fun _ _ _ _ _ _ us hl => match us, hl with | [_, _], _ => rfl) fun f cdv A outer s H E hr =>
    (sds_one (sd_tryO (c := 3) T.h_BadOrder rfl rfl (takes_of rfl rfl rfl rfl) (fun W pn xe tk hpo => (sds_one (sd_ret (ed_methP (T.allc.cl 4 (by decide) (by decide)) (ok_Arms_renamed T) (hr.mono (by decide)) tk (nv 0) (ad_cons (nv 1) ad_nil))))) (fun _ _ _ => (sds_one (sd_ret ed_str)))))
abbrev N_Arms_with_bar : List Str := ["self", "host", "mark", "letter"]
theorem sc_Arms_with_bar : FnScope N_Arms_with_bar ["self", "host", "mark", "letter"] (defScope s_Arms_with_bar) := ⟨rfl, rfl, rfl, by decide +kernel, rfl, by decide +kernel, by decide +kernel⟩
noncomputable def m_Arms_with_bar : M Fl := (retF (bnd (consA (bnd (m2 (bnd (getV 0) (fldM [4] "bars")) (bnd (consA (bnd (consA (getV 1) (consA (getV 2) (consA (getV 3) (pur [])))) tupM) (pur [])) tupM) addM) frz) (pur [])) (callM 1 (datRes R_Arms___init__) [])))
noncomputable def R_Arms_with_bar : List D → Res := runP 4 m_Arms_with_bar
theorem ok_Arms_with_bar (T : Txt P w K mg base ct) : OkM P w K mg base ct 4 "with_bar" 4 7 R_Arms_with_bar [] :=
  okM T.mt_Arms_with_bar sc_Arms_with_bar (fun _ _ _ _ _ _ us hl => match us, hl with | [_, _, _, _], _ => rfl) fun f cdv A outer s H E hr =>
    (sds_one (sd_ret (ed_makeP (ok_Arms___init__ T) (hr.mono (by decide)) (takes_of rfl rfl rfl rfl) (ad_cons (ed_frz (ed_add (ed_fld T.fld_bars (nv 0)) (ed_tup (ad_cons (ed_tup (ad_cons (nv 1) (ad_cons (nv 2) (ad_cons (nv 3) ad_nil)))) ad_nil)))) ad_nil))))
abbrev N_law_longer : List Str := ["_law_arms", "_law_bar", "_law_wrong"]
theorem sc_law_longer : FnScope N_law_longer ["_law_arms", "_law_bar"] (defScope s_law_longer) := ⟨rfl, rfl, rfl, by decide +kernel, rfl, by decide +kernel, by decide +kernel⟩
noncomputable def m_law_longer : M Fl := (tryF (retF (methM 4 "with_bar" 4 R_Arms_with_bar [] (getV 0) (consA (m2 (getV 1) (pur (RI 0)) ixM) (consA (m2 (getV 1) (pur (RI 1)) ixM) (consA (m2 (getV 1) (pur (RI 2)) ixM) (pur [])))))) (exsOf 4 1) 2 (fieldsH2 "index" "what"))
noncomputable def R_law_longer : List D → Res := runP 3 m_law_longer
theorem ok_law_longer (T : Txt P w K mg base ct) : OkP P w K mg base ct "_law_longer" 2 8 R_law_longer [] :=
  okP T.f_law_longer sc_law_longer (fun _ _ _ _ _ _ us hl => match us, hl with | [_, _], _ => rfl) fun f cdv A outer s H E hr =>
    (sds_one (sd_tryE (c := 1) (i := 2) T.h_BadArms rfl rfl sc_law_longer.nd rfl rfl (takes_of rfl rfl rfl rfl) exsOf_one (fun W pn xe tk hpo => (sds_one (sd_ret (ed_methP (T.allc.cl 4 (by decide) (by decide)) (ok_Arms_with_bar T) (hr.mono (by decide)) tk (nv 0) (ad_cons (ed_sub1 (nv 1) ed_int) (ad_cons (ed_sub1 (nv 1) ed_int) (ad_cons (ed_sub1 (nv 1) ed_int) ad_nil))))))) (hd_field2 (i := 2) rfl T.h_BadArms.xf T.no_BadArms_index T.no_BadArms_what (fun _ _ _ => pv 2) (fun _ _ _ => pv 2))))
abbrev N_law_refused : List Str := ["_law_hand_here", "_law_arms", "_law_order_here", "_law_odd_here", "_law_n", "_law_wrong", "_law_row"]
theorem sc_law_refused : FnScope N_law_refused ["_law_hand_here", "_law_arms", "_law_order_here"] (defScope s_law_refused) := ⟨rfl, rfl, rfl, by decide +kernel, rfl, by decide +kernel, by decide +kernel⟩
noncomputable def m_law_refused : M Fl := (seqF (asgF (m2 (bnd (consA (bnd (bnd (consA (getV 0) (pur [])) (callH 1 R_law_odd [])) frz) (consA (bnd (consA (pur (RI 0)) (consA (pur (RI 1)) (pur []))) tupM) (consA (bnd (consA (bnd (pur (RI 1)) negM) (consA (pur (RI 2)) (pur []))) tupM) (consA (bnd (consA (pur (RI 0)) (consA (pur (RI 1)) (pur []))) tupM) (pur []))))) lstM) (bnd (consA (getV 0) (consA (pur (RI 4)) (pur []))) (callH 2 R_law_take [])) ixM) (setV 3))
    (seqF (ifF (orT (altM (bnd (m2 (bnd (consA (getV 1) (consA (getV 3) (pur []))) (callM 2 R_law_grown [])) (pur (RS ("size" : Str))) neM) asB) (bnd (m2 (bnd (consA (getV 1) (consA (getV 3) (pur []))) (callM 2 R_law_grown [])) (pur (RS ("size" : Str))) (eqOwnM 4 5 4 R_Arms___eq__ true)) asB)) (altM (bnd (m2 (bnd (consA (getV 1) (consA (bnd (bnd (consA (getV 0) (pur [])) (callH 1 R_law_odd [])) frz) (pur []))) (callM 2 R_law_shifted [])) (pur (RS ("size" : Str))) neM) asB) (bnd (m2 (bnd (consA (getV 1) (consA (bnd (bnd (consA (getV 0) (pur [])) (callH 1 R_law_odd [])) frz) (pur []))) (callM 2 R_law_shifted [])) (pur (RS ("size" : Str))) (eqOwnM 4 5 4 R_Arms___eq__ true)) asB))) (retF (pur (RB false))) (pur .nx))
    (seqF (asgF (bnd (consB (getV 2) (pur [])) lenM) (setV 4))
    (seqF (asgF (bnd (bnd (consA (bnd (m2 (getV 2) (bnd (consA (m2 (getV 4) (pur (RI 1)) addM) (pur [])) tupM) addM) frz) (consA (bnd (m3 (getV 2) (bnd (pur (RI 1)) asI) (pur none)) frz) (consA (bnd (m2 (bnd (consA (pur (RI 0)) (pur [])) tupM) (m3 (getV 2) (bnd (pur (RI 1)) asI) (pur none)) addM) frz) (consA (bnd (m2 (m3 (getV 2) (pur none) (bnd (bnd (pur (RI 1)) negM) asI)) (bnd (consA (m2 (getV 4) (pur (RI 1)) addM) (pur [])) tupM) addM) frz) (consA (pur RN) (consA (pur (RS ("1" : Str))) (consA (bnd (ifE (bnd (m2 (m2 (getV 2) (bnd (pur (RI 1)) negM) ixM) (pur (RI 1)) eqM) asB) (m2 (m3 (getV 2) (pur none) (bnd (bnd (pur (RI 1)) negM) asI)) (bnd (consA (pur (RB true)) (pur [])) tupM) addM) (m2 (m3 (getV 2) (pur none) (bnd (bnd (pur (RI 1)) negM) asI)) (bnd (consA (pur RN) (pur [])) tupM) addM)) frz) (consA (dct1M (pur (RI 1)) (pur (RI 1))) (pur []))))))))) lstM) frz) (setV 5))
    (seqF (asgF (m2 (getV 5) (bnd (consA (getV 0) (consA (pur (RI 8)) (pur []))) (callH 2 R_law_take [])) ixM) (setV 6))
    (seqF (ifF (altM (bnd (m2 (bnd (consA (getV 1) (consA (getV 6) (pur []))) (callM 2 R_law_named [])) (pur (RS ("order" : Str))) neM) asB) (bnd (m2 (bnd (consA (getV 1) (consA (getV 6) (pur []))) (callM 2 R_law_named [])) (pur (RS ("order" : Str))) (eqOwnM 4 5 4 R_Arms___eq__ true)) asB)) (retF (pur (RB false))) (pur .nx))
    (retF (orV (m2 (getV 4) (pur (RI 2)) ltM) (altM (m2 (bnd (consA (getV 1) (consA (m2 (bnd (consA (m2 (getV 2) (pur (RI 0)) ixM) (pur [])) tupM) (getV 4) repTM) (pur []))) (callM 2 R_law_named [])) (pur (RS ("order" : Str))) eqM) (m2 (bnd (consA (getV 1) (consA (m2 (bnd (consA (m2 (getV 2) (pur (RI 0)) ixM) (pur [])) tupM) (getV 4) repTM) (pur []))) (callM 2 R_law_named [])) (pur (RS ("order" : Str))) (eqOwnM 4 5 4 R_Arms___eq__ false)))))))))))
noncomputable def R_law_refused : List SV → Hand → Res × Hand := runH 7 m_law_refused
theorem ok_law_refused (T : Txt P w K mg base ct) : OkH P w K mg base ct "_law_refused" 3 9 R_law_refused :=
  okH T.f_law_refused sc_law_refused (fun _ _ _ _ _ _ us hl => match us, hl with | [_, _, _], _ => rfl) fun f cdv A outer s H E hr =>
    (sds_cons (sd_asg (ed_sub1 (ed_lst (ad_cons (ed_frz (ed_callHP (ok_law_odd T) (hr.mono (by decide)) (takes_of rfl rfl rfl rfl) (ad_cons (nv 0) ad_nil))) (ad_cons (ed_tup (ad_cons ed_int (ad_cons ed_int ad_nil))) (ad_cons (ed_tup (ad_cons (ed_neg ed_int) (ad_cons ed_int ad_nil))) (ad_cons (ed_tup (ad_cons ed_int (ad_cons ed_int ad_nil))) ad_nil))))) (ed_callHP (ok_law_take T) (hr.mono (by decide)) (takes_of rfl rfl rfl rfl) (ad_cons (nv 0) (ad_cons ed_int ad_nil)))) (gn 3 sc_law_refused.nd))
    (sds_cons (sd_if (WD.td (wd_or (td_alt (td_ne (hu64 hr) (ed_callP (ok_law_grown T) (hr.mono (by decide)) (takes_of rfl rfl rfl rfl) (ad_cons (nv 1) (ad_cons (nv 3) ad_nil))) ed_str) (td_neOwn (c0 := 4) T.allc rfl (ok_Arms___eq__ T) (hr.mono (by decide)) (ed_callP (ok_law_grown T) (hr.mono (by decide)) (takes_of rfl rfl rfl rfl) (ad_cons (nv 1) (ad_cons (nv 3) ad_nil))) ed_str)) (wd_or1 (td_alt (td_ne (hu64 hr) (ed_callP (ok_law_shifted T) (hr.mono (by decide)) (takes_of rfl rfl rfl rfl) (ad_cons (nv 1) (ad_cons (ed_frz (ed_callHP (ok_law_odd T) (hr.mono (by decide)) (takes_of rfl rfl rfl rfl) (ad_cons (nv 0) ad_nil))) ad_nil))) ed_str) (td_neOwn (c0 := 4) T.allc rfl (ok_Arms___eq__ T) (hr.mono (by decide)) (ed_callP (ok_law_shifted T) (hr.mono (by decide)) (takes_of rfl rfl rfl rfl) (ad_cons (nv 1) (ad_cons (ed_frz (ed_callHP (ok_law_odd T) (hr.mono (by decide)) (takes_of rfl rfl rfl rfl) (ad_cons (nv 0) ad_nil))) ad_nil))) ed_str))))) (sds_one (sd_ret ed_bl)) sds_nil)
    (sds_cons (sd_asg (ed_blt (fun _ h => pe_callB call_len (by rfl) T.len PySem.boot_len h) lenM_ok (bd_cons (nv 2) bd_nil)) (gn 4 sc_law_refused.nd))
    (sds_cons (sd_asg (ed_frz (ed_lst (ad_cons (ed_frz (ed_add (nv 2) (ed_tup (ad_cons (ed_add (nv 4) ed_int) ad_nil)))) (ad_cons (ed_frz (ed_slice (nv 2) (od_some ed_int) od_none)) (ad_cons (ed_frz (ed_add (ed_tup (ad_cons ed_int ad_nil)) (ed_slice (nv 2) (od_some ed_int) od_none))) (ad_cons (ed_frz (ed_add (ed_slice (nv 2) od_none (od_some (ed_neg ed_int))) (ed_tup (ad_cons (ed_add (nv 4) ed_int) ad_nil)))) (ad_cons ed_non (ad_cons ed_str (ad_cons (ed_frz (ed_if (td_eq (hu64 hr) (ed_sub1 (nv 2) (ed_neg ed_int)) ed_int) (ed_add (ed_slice (nv 2) od_none (od_some (ed_neg ed_int))) (ed_tup (ad_cons ed_bl ad_nil))) (ed_add (ed_slice (nv 2) od_none (od_some (ed_neg ed_int))) (ed_tup (ad_cons ed_non ad_nil))))) (ad_cons (ed_dct1 ed_int ed_int) ad_nil)))))))))) (gn 5 sc_law_refused.nd))
    (sds_cons (sd_asg (ed_sub1 (nv 5) (ed_callHP (ok_law_take T) (hr.mono (by decide)) (takes_of rfl rfl rfl rfl) (ad_cons (nv 0) (ad_cons ed_int ad_nil)))) (gn 6 sc_law_refused.nd))
    (sds_cons (sd_if (td_alt (td_ne (hu64 hr) (ed_callP (ok_law_named T) (hr.mono (by decide)) (takes_of rfl rfl rfl rfl) (ad_cons (nv 1) (ad_cons (nv 6) ad_nil))) ed_str) (td_neOwn (c0 := 4) T.allc rfl (ok_Arms___eq__ T) (hr.mono (by decide)) (ed_callP (ok_law_named T) (hr.mono (by decide)) (takes_of rfl rfl rfl rfl) (ad_cons (nv 1) (ad_cons (nv 6) ad_nil))) ed_str)) (sds_one (sd_ret ed_bl)) sds_nil)
    (sds_one (sd_ret (ed_or (ed_lt (nv 4) ed_int) (ed_one (ed_alt (ed_eq (hu64 hr) (ed_callP (ok_law_named T) (hr.mono (by decide)) (takes_of rfl rfl rfl rfl) (ad_cons (nv 1) (ad_cons (ed_repT (ed_tup (ad_cons (ed_sub1 (nv 2) ed_int) ad_nil)) (nv 4)) ad_nil))) ed_str) (ed_eqOwn (c0 := 4) T.allc rfl (ok_Arms___eq__ T) (hr.mono (by decide)) (ed_callP (ok_law_named T) (hr.mono (by decide)) (takes_of rfl rfl rfl rfl) (ad_cons (nv 1) (ad_cons (ed_repT (ed_tup (ad_cons (ed_sub1 (nv 2) ed_int) ad_nil)) (nv 4)) ad_nil))) ed_str))))))))))))
abbrev N_law_added : List Str := ["_law_hand_here", "_law_bars_here", "_law_arms", "_law_many", "_law_letter", "_law_bar", "_law_told", "_law_host", "_law_mark_here", "_law_faults", "_law_wrong", "_law_word"]
theorem sc_law_added : FnScope N_law_added ["_law_hand_here", "_law_bars_here", "_law_arms"] (defScope s_law_added) := ⟨rfl, rfl, rfl, by decide +kernel, rfl, by decide +kernel, by decide +kernel⟩
noncomputable def m_law_added : M Fl := (seqF (asgF (bnd (consB (getV 1) (pur [])) lenM) (setV 3))
    (seqF (asgF (bnd (consA (getV 0) (consA (m2 (bnd (consB (pur (RI 4)) (consB (m2 (bnd (consA (getV 1) (pur [])) (callM 1 R_law_most [])) (pur (RI 1)) addM) (pur []))) min2M) (pur (RI 1)) addM) (pur []))) (callH 2 R_law_take [])) (setV 4))
    (seqF (asgF (bnd (consA (m2 (bnd (consA (getV 0) (consA (m2 (getV 3) (pur (RI 1)) addM) (pur []))) (callH 2 R_law_take [])) (pur (RI 1)) subM) (consA (bnd (consA (getV 0) (pur [])) (callH 1 R_law_mark [])) (consA (getV 4) (pur [])))) tupM) (setV 5))
    (seqF (asgF (bnd (bnd (consA (getV 2) (consA (getV 5) (pur []))) (callM 2 R_law_longer [])) frz) (setV 6))
    (seqF (ifF (bnd (m2 (getV 3) (pur (RI 6)) eqM) asB) (retF (altM (m2 (getV 6) (bnd (consA (pur (RI 0)) (consA (pur (RS ("many" : Str))) (pur []))) tupM) eqM) (m2 (getV 6) (bnd (consA (pur (RI 0)) (consA (pur (RS ("many" : Str))) (pur []))) tupM) (eqOwnM 4 5 4 R_Arms___eq__ false)))) (pur .nx))
    (seqF (ifF (orT (notT (bnd (bnd (getV 6) (isiG ktOwn (kcOwn 4 5 4))) truthM)) (bnd (m2 (bnd (getV 6) (fldM [4] "bars")) (m2 (getV 1) (bnd (consA (getV 5) (pur [])) tupM) addM) neM) asB)) (retF (pur (RB false))) (pur .nx))
    (seqF (asgF (getV 5) (seqG (consG (setV 7) (consG (setV 8) (consG (setV 4) nilG))) 3))
    (seqF (asgF (bnd (bnd (consA (bnd (consA (bnd (consA (getV 3) (consA (bnd (bnd (consA (getV 0) (pur [])) (callH 1 R_law_odd [])) frz) (consA (pur (RI 7)) (pur [])))) tupM) (consA (pur (RS ("host" : Str))) (pur []))) tupM) (consA (bnd (consA (bnd (consA (getV 7) (consA (bnd (bnd (consA (getV 0) (pur [])) (callH 1 R_law_odd [])) frz) (consA (pur (RI 7)) (pur [])))) tupM) (consA (pur (RS ("mark" : Str))) (pur []))) tupM) (consA (bnd (consA (bnd (consA (getV 7) (consA (getV 8) (consA (pur (RI 5)) (pur [])))) tupM) (consA (pur (RS ("letter" : Str))) (pur []))) tupM) (consA (bnd (consA (bnd (consA (getV 7) (consA (getV 8) (consA (pur (RB true)) (pur [])))) tupM) (consA (pur (RS ("letter" : Str))) (pur []))) tupM) (consA (bnd (consA (bnd (consA (pur (RB true)) (consA (getV 8) (consA (getV 4) (pur [])))) tupM) (consA (pur (RS ("host" : Str))) (pur []))) tupM) (pur [])))))) lstM) frz) (setV 9))
    (seqF (forF (bnd (getV 9) seqSrc) (seqG (consG (setV 10) (consG (setV 11) nilG)) 2) (ifF (altM (bnd (m2 (bnd (consA (getV 2) (consA (getV 10) (pur []))) (callM 2 R_law_longer [])) (bnd (consA (getV 3) (consA (getV 11) (pur []))) tupM) neM) asB) (bnd (m2 (bnd (consA (getV 2) (consA (getV 10) (pur []))) (callM 2 R_law_longer [])) (bnd (consA (getV 3) (consA (getV 11) (pur []))) tupM) (eqOwnM 4 5 4 R_Arms___eq__ true)) asB)) (retF (pur (RB false))) (pur .nx)))
    (retF (orV (m2 (bnd (consA (getV 1) (pur [])) (callM 1 R_law_most [])) (pur (RI 2)) gtM) (altM (m2 (bnd (consA (getV 2) (consA (bnd (consA (getV 7) (consA (getV 8) (consA (m2 (bnd (consA (getV 1) (pur [])) (callM 1 R_law_most [])) (pur (RI 2)) addM) (pur [])))) tupM) (pur []))) (callM 2 R_law_longer [])) (bnd (consA (pur (RI 0)) (consA (pur (RS ("gap" : Str))) (pur []))) tupM) eqM) (m2 (bnd (consA (getV 2) (consA (bnd (consA (getV 7) (consA (getV 8) (consA (m2 (bnd (consA (getV 1) (pur [])) (callM 1 R_law_most [])) (pur (RI 2)) addM) (pur [])))) tupM) (pur []))) (callM 2 R_law_longer [])) (bnd (consA (pur (RI 0)) (consA (pur (RS ("gap" : Str))) (pur []))) tupM) (eqOwnM 4 5 4 R_Arms___eq__ false))))))))))))))
noncomputable def R_law_added : List SV → Hand → Res × Hand := runH 12 m_law_added
theorem ok_law_added (T : Txt P w K mg base ct) : OkH P w K mg base ct "_law_added" 3 9 R_law_added :=
  okH T.f_law_added sc_law_added (fun _ _ _ _ _ _ us hl => match us, hl with | [_, _, _], _ => rfl) fun f cdv A outer s H E hr =>
    (sds_cons (sd_asg (ed_blt (fun _ h => pe_callB call_len (by rfl) T.len PySem.boot_len h) lenM_ok (bd_cons (nv 1) bd_nil)) (gn 3 sc_law_added.nd))
    (sds_cons (sd_asg (ed_callHP (ok_law_take T) (hr.mono (by decide)) (takes_of rfl rfl rfl rfl) (ad_cons (nv 0) (ad_cons (ed_add (ed_blt (fun _ h => pe_callB (call_min2 rfl) (by rfl) T.min PyProof.Rows.boot_min h) min2M_ok (bd_cons ed_int (bd_cons (ed_add (ed_callP (ok_law_most T) (hr.mono (by decide)) (takes_of rfl rfl rfl rfl) (ad_cons (nv 1) ad_nil)) ed_int) bd_nil))) ed_int) ad_nil))) (gn 4 sc_law_added.nd))
    (sds_cons (sd_asg (ed_tup (ad_cons (ed_sub (ed_callHP (ok_law_take T) (hr.mono (by decide)) (takes_of rfl rfl rfl rfl) (ad_cons (nv 0) (ad_cons (ed_add (nv 3) ed_int) ad_nil))) ed_int) (ad_cons (ed_callHP (ok_law_mark T) (hr.mono (by decide)) (takes_of rfl rfl rfl rfl) (ad_cons (nv 0) ad_nil)) (ad_cons (nv 4) ad_nil)))) (gn 5 sc_law_added.nd))
    (sds_cons (sd_asg (ed_frz (ed_callP (ok_law_longer T) (hr.mono (by decide)) (takes_of rfl rfl rfl rfl) (ad_cons (nv 2) (ad_cons (nv 5) ad_nil)))) (gn 6 sc_law_added.nd))
    (sds_cons (sd_if (td_eq (hu64 hr) (nv 3) ed_int) (sds_one (sd_ret (ed_alt (ed_eq (hu64 hr) (nv 6) (ed_tup (ad_cons ed_int (ad_cons ed_str ad_nil)))) (ed_eqOwn (c0 := 4) T.allc rfl (ok_Arms___eq__ T) (hr.mono (by decide)) (nv 6) (ed_tup (ad_cons ed_int (ad_cons ed_str ad_nil))))))) sds_nil)
    (sds_cons (sd_if (WD.td (wd_or (td_not (td_truth (ed_isiG (.own (ct 4)) (hkOwn T.allc rfl) (hcOwn T.allc rfl) (by rfl) T.isinstance (nv 6) (pe_glob (by rfl) T.k_Arms.mg rfl)))) (wd_or1 (td_ne (hu64 hr) (ed_fld T.fld_bars (nv 6)) (ed_add (nv 1) (ed_tup (ad_cons (nv 5) ad_nil))))))) (sds_one (sd_ret ed_bl)) sds_nil)
    (sds_cons (sd_asg (nv 5) (gd_seq rfl (gds_cons (gn 7 sc_law_added.nd) (gds_cons (gn 8 sc_law_added.nd) (gds_cons (gn 4 sc_law_added.nd) gds_nilG)))))
    (sds_cons (sd_asg (ed_frz (ed_lst (ad_cons (ed_tup (ad_cons (ed_tup (ad_cons (nv 3) (ad_cons (ed_frz (ed_callHP (ok_law_odd T) (hr.mono (by decide)) (takes_of rfl rfl rfl rfl) (ad_cons (nv 0) ad_nil))) (ad_cons ed_int ad_nil)))) (ad_cons ed_str ad_nil))) (ad_cons (ed_tup (ad_cons (ed_tup (ad_cons (nv 7) (ad_cons (ed_frz (ed_callHP (ok_law_odd T) (hr.mono (by decide)) (takes_of rfl rfl rfl rfl) (ad_cons (nv 0) ad_nil))) (ad_cons ed_int ad_nil)))) (ad_cons ed_str ad_nil))) (ad_cons (ed_tup (ad_cons (ed_tup (ad_cons (nv 7) (ad_cons (nv 8) (ad_cons ed_int ad_nil)))) (ad_cons ed_str ad_nil))) (ad_cons (ed_tup (ad_cons (ed_tup (ad_cons (nv 7) (ad_cons (nv 8) (ad_cons ed_bl ad_nil)))) (ad_cons ed_str ad_nil))) (ad_cons (ed_tup (ad_cons (ed_tup (ad_cons ed_bl (ad_cons (nv 8) (ad_cons (nv 4) ad_nil)))) (ad_cons ed_str ad_nil))) ad_nil))))))) (gn 9 sc_law_added.nd))
    (sds_cons (sd_for (passes_of rfl) rfl (id_seq (nv 9)) (gd_seq rfl (gds_cons (gn 10 sc_law_added.nd) (gds_cons (gn 11 sc_law_added.nd) gds_nilG))) (sds_one (sd_if (td_alt (td_ne (hu64 hr) (ed_callP (ok_law_longer T) (hr.mono (by decide)) (takes_of rfl rfl rfl rfl) (ad_cons (nv 2) (ad_cons (nv 10) ad_nil))) (ed_tup (ad_cons (nv 3) (ad_cons (nv 11) ad_nil)))) (td_neOwn (c0 := 4) T.allc rfl (ok_Arms___eq__ T) (hr.mono (by decide)) (ed_callP (ok_law_longer T) (hr.mono (by decide)) (takes_of rfl rfl rfl rfl) (ad_cons (nv 2) (ad_cons (nv 10) ad_nil))) (ed_tup (ad_cons (nv 3) (ad_cons (nv 11) ad_nil))))) (sds_one (sd_ret ed_bl)) sds_nil)))
    (sds_one (sd_ret (ed_or (ed_gt (ed_callP (ok_law_most T) (hr.mono (by decide)) (takes_of rfl rfl rfl rfl) (ad_cons (nv 1) ad_nil)) ed_int) (ed_one (ed_alt (ed_eq (hu64 hr) (ed_callP (ok_law_longer T) (hr.mono (by decide)) (takes_of rfl rfl rfl rfl) (ad_cons (nv 2) (ad_cons (ed_tup (ad_cons (nv 7) (ad_cons (nv 8) (ad_cons (ed_add (ed_callP (ok_law_most T) (hr.mono (by decide)) (takes_of rfl rfl rfl rfl) (ad_cons (nv 1) ad_nil)) ed_int) ad_nil)))) ad_nil))) (ed_tup (ad_cons ed_int (ad_cons ed_str ad_nil)))) (ed_eqOwn (c0 := 4) T.allc rfl (ok_Arms___eq__ T) (hr.mono (by decide)) (ed_callP (ok_law_longer T) (hr.mono (by decide)) (takes_of rfl rfl rfl rfl) (ad_cons (nv 2) (ad_cons (ed_tup (ad_cons (nv 7) (ad_cons (nv 8) (ad_cons (ed_add (ed_callP (ok_law_most T) (hr.mono (by decide)) (takes_of rfl rfl rfl rfl) (ad_cons (nv 1) ad_nil)) ed_int) ad_nil)))) ad_nil))) (ed_tup (ad_cons ed_int (ad_cons ed_str ad_nil))))))))))))))))))
abbrev N_Arms_line_row : List Str := ["self", "number", "mark", "found", "host", "place_mark", "letter"]
theorem sc_Arms_line_row : FnScope N_Arms_line_row ["self", "number", "mark"] (defScope s_Arms_line_row) := ⟨rfl, rfl, rfl, by decide +kernel, rfl, by decide +kernel, by decide +kernel⟩
noncomputable def m_Arms_line_row : M Fl := (seqF (asgF (bnd (m2 (bnd (consA (pur (RD (.tup [.int 0, .int 1]))) (pur [])) lstM) (m2 (bnd (getV 0) (fldM [4] "letters")) (pur (RI 1)) addM) repLM) own) (setV 3))
    (seqF (whileL (bnd (m2 (getV 1) (pur (RI 0)) geM) asB) (seqF (asgF (m2 (bnd (getV 0) (fldM [4] "bars")) (getV 1) ixM) (seqG (consG (setV 4) (consG (setV 5) (consG (setV 6) nilG))) 3))
    (seqF (asgF (bnd (consA (m2 (getV 3) (getV 6) ixM) (consA (getV 2) (pur []))) (callM 2 R_plus [])) (subG (getV 3) (getV 6)))
    (parF 1 2 (consA (getV 4) (consA (getV 5) (pur [])))))) 100000)
    (seqF (asgF (bnd (consA (m2 (getV 3) (pur (RI 0)) ixM) (consA (getV 2) (pur []))) (callM 2 R_plus [])) (subG (getV 3) (pur (RI 0))))
    (retF (bnd (consB (getV 3) (pur [])) tupleM)))))
noncomputable def R_Arms_line_row : List D → Res := runP 7 m_Arms_line_row
theorem ok_Arms_line_row (T : Txt P w K mg base ct) : OkM P w K mg base ct 4 "line_row" 3 3 R_Arms_line_row [] :=
  okM T.mt_Arms_line_row sc_Arms_line_row (fun _ _ _ _ _ _ us hl => match us, hl with | [_, _, _], _ => rfl) fun f cdv A outer s H E hr =>
    (sds_cons (sd_asg (ed_own (ed_repL (ed_lst (ad_cons (ed_glob T.c_ZERO) ad_nil)) (ed_add (ed_fld T.fld_letters (nv 0)) ed_int))) (gn 3 sc_Arms_line_row.nd))
    (sds_cons (sd_while 100000 (passes_of rfl) (td_ge (nv 1) ed_int) (sds_cons (sd_asg (ed_sub1 (ed_fld T.fld_bars (nv 0)) (nv 1)) (gd_seq rfl (gds_cons (gn 4 sc_Arms_line_row.nd) (gds_cons (gn 5 sc_Arms_line_row.nd) (gds_cons (gn 6 sc_Arms_line_row.nd) gds_nilG)))))
    (sds_cons (sd_asg (ed_callP (ok_plus T) (hr.mono (by decide)) (takes_of rfl rfl rfl rfl) (ad_cons (ed_sub1 (nv 3) (nv 6)) (ad_cons (nv 2) ad_nil))) (gd_sub (nv 3) (nv 6)))
    (sds_one (sd_par (i := 1) (j := 2) rfl sc_Arms_line_row.nd rfl rfl (by decide) rfl rfl (ad_cons (nv 4) (ad_cons (nv 5) ad_nil)) (by rfl))))))
    (sds_cons (sd_asg (ed_callP (ok_plus T) (hr.mono (by decide)) (takes_of rfl rfl rfl rfl) (ad_cons (ed_sub1 (nv 3) ed_int) (ad_cons (nv 2) ad_nil))) (gd_sub (nv 3) ed_int))
    (sds_one (sd_ret (ed_blt (fun _ h => pe_callTy call_tuple_of (by rfl) T.tuple PyProof.Rows.boot_tuple h) tupleM_ok (bd_cons (nv 3) bd_nil)))))))
abbrev N_Arms_row_of : List Str := ["self", "place", "number", "mark"]
theorem sc_Arms_row_of : FnScope N_Arms_row_of ["self", "place"] (defScope s_Arms_row_of) := ⟨rfl, rfl, rfl, by decide +kernel, rfl, by decide +kernel, by decide +kernel⟩
noncomputable def m_Arms_row_of : M Fl := (seqF (asgF (bnd (consA (getV 0) (consA (getV 1) (pur []))) (callM 2 R_check_place [])) (seqG (consG (setV 2) (consG (setV 3) nilG)) 2))
    (retF (methM 4 "line_row" 3 R_Arms_line_row [] (getV 0) (consA (getV 2) (consA (getV 3) (pur []))))))
noncomputable def R_Arms_row_of : List D → Res := runP 4 m_Arms_row_of
theorem ok_Arms_row_of (T : Txt P w K mg base ct) : OkM P w K mg base ct 4 "row_of" 2 5 R_Arms_row_of [] :=
  okM T.mt_Arms_row_of sc_Arms_row_of (fun _ _ _ _ _ _ us hl => match us, hl with | [_, _], _ => rfl) fun f cdv A outer s H E hr =>
    (sds_cons (sd_asg (ed_callP (ok_check_place T) (hr.mono (by decide)) (takes_of rfl rfl rfl rfl) (ad_cons (nv 0) (ad_cons (nv 1) ad_nil))) (gd_seq rfl (gds_cons (gn 2 sc_Arms_row_of.nd) (gds_cons (gn 3 sc_Arms_row_of.nd) gds_nilG))))
    (sds_one (sd_ret (ed_methP (T.allc.cl 4 (by decide) (by decide)) (ok_Arms_line_row T) (hr.mono (by decide)) (takes_of rfl rfl rfl rfl) (nv 0) (ad_cons (nv 2) (ad_cons (nv 3) ad_nil))))))
abbrev N_law : List Str := ["_law_script", "_law_hand_here", "_law_bars_here", "_law_arms", "_law_n", "_law_size", "_law_step", "_law_order_here", "_law_grown_here", "_law_shifted_here", "_law_named_here", "_law_host", "_law_mark_here", "_law_letter", "_law_number", "_law_place", "_law_row", "_law_entry", "_law_led", "_law_k"]
theorem sc_law : FnScope N_law ["_law_script"] (defScope s_law) := ⟨rfl, rfl, rfl, by decide +kernel, rfl, by decide +kernel, by decide +kernel⟩
noncomputable def m_law : M Fl := (seqF (asgF (bnd (consA (getV 1) (consA (pur (RI 4)) (pur []))) (callH 2 R_law_bars [])) (setV 2))
    (seqF (asgF (bnd (consA (getV 2) (pur [])) (callM 1 (datRes R_Arms___init__) [])) (setV 3))
    (seqF (asgF (bnd (consA (getV 2) (pur [])) (callM 1 R_law_most [])) (setV 4))
    (seqF (asgF (bnd (consA (m2 (pur (RI 1)) (bnd (consB (bnd (consA (getV 1) (pur [])) (callH 1 R_law_wide [])) (pur [])) absM) addM) (consA (m2 (pur (RI 1)) (bnd (consB (bnd (consA (getV 1) (pur [])) (callH 1 R_law_wide [])) (pur [])) absM) addM) (pur []))) (callM 2 R_law_ratio [])) (setV 5))
    (seqF (asgF (bnd (consA (getV 1) (pur [])) (callH 1 R_law_wide_ratio [])) (setV 6))
    (seqF (asgF (bnd (consA (getV 1) (consA (getV 4) (pur []))) (callH 2 R_law_order [])) (setV 7))
    (seqF (asgF (bnd (methM 4 "grown" 2 R_Arms_grown [] (getV 3) (consA (getV 5) (pur []))) frz) (setV 8))
    (seqF (asgF (bnd (methM 4 "shifted" 2 R_Arms_shifted [] (getV 3) (consA (getV 6) (pur []))) frz) (setV 9))
    (seqF (asgF (bnd (methM 4 "renamed" 2 R_Arms_renamed [] (getV 3) (consA (bnd (ifE (bnd (bnd (consA (getV 1) (consA (pur (RI 2)) (pur []))) (callH 2 R_law_take [])) truthM) (bnd (consB (getV 7) (pur [])) listM) (getV 7)) frz) (pur []))) frz) (setV 10))
    (seqF (ifF (bnd (m2 (bnd (getV 8) (fldM [4] "bars")) (bnd (consB (lcM (bnd (getV 2) seqSrc) [11, 12, 13] (seqG (consG (setV 11) (consG (setV 12) (consG (setV 13) nilG))) 3) (pur true) (bnd (consA (getV 11) (consA (bnd (consA (getV 12) (consA (getV 5) (pur []))) (callM 2 R_law_times [])) (consA (getV 13) (pur [])))) tupM)) (pur [])) tupleM) neM) asB) (retF (pur (RB false))) (pur .nx))
    (seqF (ifF (bnd (m2 (bnd (getV 9) (fldM [4] "bars")) (bnd (consB (lcM (bnd (getV 2) seqSrc) [11, 12, 13] (seqG (consG (setV 11) (consG (setV 12) (consG (setV 13) nilG))) 3) (pur true) (bnd (consA (getV 11) (consA (ifE (bnd (m2 (getV 11) (bnd (pur (RI 1)) negM) eqM) asB) (bnd (consA (getV 12) (consA (getV 6) (pur []))) (callM 2 R_law_plus [])) (getV 12)) (consA (getV 13) (pur [])))) tupM)) (pur [])) tupleM) neM) asB) (retF (pur (RB false))) (pur .nx))
    (seqF (ifF (orT (bnd (m2 (bnd (getV 10) (fldM [4] "bars")) (bnd (consA (getV 2) (consA (getV 7) (pur []))) (callM 2 R_law_renamed [])) neM) asB) (orT (bnd (m2 (bnd (getV 10) (fldM [4] "letters")) (getV 4) neM) asB) (notT (bnd (bnd (consA (bnd (m2 (m2 (bnd (getV 10) (fldM [4] "bars")) (bnd (getV 8) (fldM [4] "bars")) addM) (bnd (getV 9) (fldM [4] "bars")) addM) frz) (pur [])) (callM 1 (R_law_tuples 8) [])) truthM)))) (retF (pur (RB false))) (pur .nx))
    (seqF (forF (bnd (consB (bnd (pur (RI 1)) negM) (consB (bnd (consB (getV 2) (pur [])) lenM) (pur []))) rng2) (setV 14) (seqF (asgF (bnd (consA (getV 14) (consA (bnd (consA (getV 1) (pur [])) (callH 1 R_law_mark [])) (pur []))) tupM) (setV 15))
    (seqF (asgF (bnd (methM 4 "row_of" 2 R_Arms_row_of [] (getV 3) (consA (getV 15) (pur []))) frz) (setV 16))
    (seqF (ifF (bnd (m2 (methM 4 "row_of" 2 R_Arms_row_of [] (getV 8) (consA (bnd (consA (getV 15) (consA (getV 5) (pur []))) (callM 2 R_law_grown_place [])) (pur []))) (bnd (consB (lcM (bnd (getV 16) seqSrc) [17] (setV 17) (pur true) (bnd (consA (getV 17) (consA (getV 5) (pur []))) (callM 2 R_law_times []))) (pur [])) tupleM) neM) asB) (retF (pur (RB false))) (pur .nx))
    (seqF (ifF (bnd (m2 (methM 4 "row_of" 2 R_Arms_row_of [] (getV 9) (consA (bnd (consA (getV 15) (consA (getV 6) (pur []))) (callM 2 R_law_moved_place [])) (pur []))) (m2 (bnd (consA (bnd (consA (m2 (getV 16) (pur (RI 0)) ixM) (consA (getV 6) (pur []))) (callM 2 R_law_plus [])) (pur [])) tupM) (m3 (getV 16) (bnd (pur (RI 1)) asI) (pur none)) addM) neM) asB) (retF (pur (RB false))) (pur .nx))
    (seqF (asgF (bnd (methM 4 "row_of" 2 R_Arms_row_of [] (getV 10) (consA (getV 15) (pur []))) frz) (setV 18))
    (ifF (orT (bnd (m2 (m2 (getV 18) (pur (RI 0)) ixM) (m2 (getV 16) (pur (RI 0)) ixM) neM) asB) (bnd (m2 (lcM (bnd (consB (getV 4) (pur [])) rng1) [19] (setV 19) (pur true) (m2 (getV 18) (m2 (getV 7) (getV 19) ixM) ixM)) (bnd (consB (m3 (getV 16) (bnd (pur (RI 1)) asI) (pur none)) (pur [])) listM) neM) asB)) (retF (pur (RB false))) (pur .nx))))))))
    (seqF (ifF (orT (notT (altM (bnd (m2 (methM 4 "grown" 2 R_Arms_grown [] (getV 8) (consA (bnd (consA (bnd (consA (pur (RI 1)) (consA (pur (RI 1)) (pur []))) tupM) (consA (getV 5) (pur []))) (callM 2 R_law_over [])) (pur []))) (getV 3) eqM) asB) (bnd (m2 (methM 4 "grown" 2 R_Arms_grown [] (getV 8) (consA (bnd (consA (bnd (consA (pur (RI 1)) (consA (pur (RI 1)) (pur []))) tupM) (consA (getV 5) (pur []))) (callM 2 R_law_over [])) (pur []))) (getV 3) (eqOwnM 4 5 4 R_Arms___eq__ false)) asB))) (orT (notT (altM (bnd (m2 (methM 4 "shifted" 2 R_Arms_shifted [] (getV 9) (consA (bnd (consA (bnd (m2 (getV 6) (pur (RI 0)) ixM) negM) (consA (m2 (getV 6) (pur (RI 1)) ixM) (pur []))) tupM) (pur []))) (getV 3) eqM) asB) (bnd (m2 (methM 4 "shifted" 2 R_Arms_shifted [] (getV 9) (consA (bnd (consA (bnd (m2 (getV 6) (pur (RI 0)) ixM) negM) (consA (m2 (getV 6) (pur (RI 1)) ixM) (pur []))) tupM) (pur []))) (getV 3) (eqOwnM 4 5 4 R_Arms___eq__ false)) asB))) (bnd (m2 (bnd (getV 3) (fldM [4] "bars")) (getV 2) neM) asB))) (retF (pur (RB false))) (pur .nx))
    (retF (andV (bnd (consA (getV 1) (consA (getV 3) (consA (getV 7) (pur [])))) (callH 3 R_law_refused [])) (bnd (consA (getV 1) (consA (getV 2) (consA (getV 3) (pur [])))) (callH 3 R_law_added []))))))))))))))))))
theorem ok_law (T : Txt P w K mg base ct) {f : Addr} {fd : FuncData} (F : FunD K "law" "law" (defArgs s_law) (defBody s_law) (defScope s_law) [] [] f fd) (hm : ∀ h, ∃ s', m_law (startL 20 h) = .ok (.rt (RB true)) s') : FnOk P w K mg base (L2.CX P w) 10 f fd ["_law_script"] (spLaw K) :=
  okL F sc_law (by decide) rfl hm fun cdv A outer s H E hr => ⟨hand_st (ok_law_hand T) (hr.mono (by decide)) (pv 0) (pg_name sc_law.nd rfl (.inl rfl)),
    (sds_cons (sd_asg (ed_callHd (ok_law_bars_2 T) (hr.mono (by decide)) (takes_of rfl rfl rfl rfl) (ad_cons (nv 1) (ad_cons ed_int ad_nil))) (gn 2 sc_law.nd))
    (sds_cons (sd_asg (ed_makeP (ok_Arms___init__ T) (hr.mono (by decide)) (takes_of rfl rfl rfl rfl) (ad_cons (nv 2) ad_nil)) (gn 3 sc_law.nd))
    (sds_cons (sd_asg (ed_callP (ok_law_most T) (hr.mono (by decide)) (takes_of rfl rfl rfl rfl) (ad_cons (nv 2) ad_nil)) (gn 4 sc_law.nd))
    (sds_cons (sd_asg (ed_callP (ok_law_ratio T) (hr.mono (by decide)) (takes_of rfl rfl rfl rfl) (ad_cons (ed_add ed_int (ed_blt (fun _ h => pe_callB call_abs (by rfl) T.abs PyProof.Rows.boot_abs h) absM_ok (bd_cons (ed_callHP (ok_law_wide T) (hr.mono (by decide)) (takes_of rfl rfl rfl rfl) (ad_cons (nv 1) ad_nil)) bd_nil))) (ad_cons (ed_add ed_int (ed_blt (fun _ h => pe_callB call_abs (by rfl) T.abs PyProof.Rows.boot_abs h) absM_ok (bd_cons (ed_callHP (ok_law_wide T) (hr.mono (by decide)) (takes_of rfl rfl rfl rfl) (ad_cons (nv 1) ad_nil)) bd_nil))) ad_nil))) (gn 5 sc_law.nd))
    (sds_cons (sd_asg (ed_callHP (ok_law_wide_ratio T) (hr.mono (by decide)) (takes_of rfl rfl rfl rfl) (ad_cons (nv 1) ad_nil)) (gn 6 sc_law.nd))
    (sds_cons (sd_asg (ed_callHP (ok_law_order T) (hr.mono (by decide)) (takes_of rfl rfl rfl rfl) (ad_cons (nv 1) (ad_cons (nv 4) ad_nil))) (gn 7 sc_law.nd))
    (sds_cons (sd_asg (ed_frz (ed_methP (T.allc.cl 4 (by decide) (by decide)) (ok_Arms_grown T) (hr.mono (by decide)) (takes_of rfl rfl rfl rfl) (nv 3) (ad_cons (nv 5) ad_nil))) (gn 8 sc_law.nd))
    (sds_cons (sd_asg (ed_frz (ed_methP (T.allc.cl 4 (by decide) (by decide)) (ok_Arms_shifted T) (hr.mono (by decide)) (takes_of rfl rfl rfl rfl) (nv 3) (ad_cons (nv 6) ad_nil))) (gn 9 sc_law.nd))
    (sds_cons (sd_asg (ed_frz (ed_methP (T.allc.cl 4 (by decide) (by decide)) (ok_Arms_renamed T) (hr.mono (by decide)) (takes_of rfl rfl rfl rfl) (nv 3) (ad_cons (ed_frz (ed_if (td_truth (ed_callHP (ok_law_take T) (hr.mono (by decide)) (takes_of rfl rfl rfl rfl) (ad_cons (nv 1) (ad_cons ed_int ad_nil)))) (ed_blt (fun _ h => pe_callTy call_list_of (by rfl) T.list PyProof.Rows.boot_list h) listM_ok (bd_cons (nv 7) bd_nil)) (nv 7))) ad_nil))) (gn 10 sc_law.nd))
    (sds_cons (sd_if (td_ne (hu64 hr) (ed_fld T.fld_bars (nv 8)) (ed_blt (fun _ h => pe_callTy call_tuple_of (by rfl) T.tuple PyProof.Rows.boot_tuple h) tupleM_ok (bd_cons (ed_lc (own := [("_law_host", 11), ("_law_mark_here", 12), ("_law_letter", 13)]) rfl sc_law.nd (id_seq (nv 2)) (blkOk_by (own := [("_law_host", 11), ("_law_mark_here", 12), ("_law_letter", 13)]) (N := N_law) (sc := (defScope s_law)) (by decide +kernel)) (by decide) (fun _ _ _ _ _ => (gd_seq rfl (gds_cons (gn 11 sc_law.nd) (gds_cons (gn 12 sc_law.nd) (gds_cons (gn 13 sc_law.nd) gds_nilG))))) (fun _ _ _ _ _ => ifs_nil) (fun _ _ _ _ _ => (ed_tup (ad_cons (nv 11) (ad_cons (ed_callP (ok_law_times T) (hr.mono (by decide)) takes0 (ad_cons (nv 12) (ad_cons (nv 5) ad_nil))) (ad_cons (nv 13) ad_nil)))))) bd_nil))) (sds_one (sd_ret ed_bl)) sds_nil)
    (sds_cons (sd_if (td_ne (hu64 hr) (ed_fld T.fld_bars (nv 9)) (ed_blt (fun _ h => pe_callTy call_tuple_of (by rfl) T.tuple PyProof.Rows.boot_tuple h) tupleM_ok (bd_cons (ed_lc (own := [("_law_host", 11), ("_law_mark_here", 12), ("_law_letter", 13)]) rfl sc_law.nd (id_seq (nv 2)) (blkOk_by (own := [("_law_host", 11), ("_law_mark_here", 12), ("_law_letter", 13)]) (N := N_law) (sc := (defScope s_law)) (by decide +kernel)) (by decide) (fun _ _ _ _ _ => (gd_seq rfl (gds_cons (gn 11 sc_law.nd) (gds_cons (gn 12 sc_law.nd) (gds_cons (gn 13 sc_law.nd) gds_nilG))))) (fun _ _ _ _ _ => ifs_nil) (fun _ _ _ _ _ => (ed_tup (ad_cons (nv 11) (ad_cons (ed_if (td_eq (hu64 hr) (nv 11) (ed_neg ed_int)) (ed_callP (ok_law_plus T) (hr.mono (by decide)) takes0 (ad_cons (nv 12) (ad_cons (nv 6) ad_nil))) (nv 12)) (ad_cons (nv 13) ad_nil)))))) bd_nil))) (sds_one (sd_ret ed_bl)) sds_nil)
    (sds_cons (sd_if (WD.td (wd_or (td_ne (hu64 hr) (ed_fld T.fld_bars (nv 10)) (ed_callP (ok_law_renamed T) (hr.mono (by decide)) (takes_of rfl rfl rfl rfl) (ad_cons (nv 2) (ad_cons (nv 7) ad_nil)))) (wd_or (td_ne (hu64 hr) (ed_fld T.fld_letters (nv 10)) (nv 4)) (wd_or1 (td_not (td_truth (ed_callP (ok_law_tuples T) (hr.mono (by decide)) (takes_of rfl rfl rfl rfl) (ad_cons (ed_frz (ed_add (ed_add (ed_fld T.fld_bars (nv 10)) (ed_fld T.fld_bars (nv 8))) (ed_fld T.fld_bars (nv 9)))) ad_nil)))))))) (sds_one (sd_ret ed_bl)) sds_nil)
    (sds_cons (sd_for (passes_of rfl) rfl (id_range2 (by rfl) T.range (bd_cons (ed_neg ed_int) (bd_cons (ed_blt (fun _ h => pe_callB call_len (by rfl) T.len PySem.boot_len h) lenM_ok (bd_cons (nv 2) bd_nil)) bd_nil))) (gn 14 sc_law.nd) (sds_cons (sd_asg (ed_tup (ad_cons (nv 14) (ad_cons (ed_callHP (ok_law_mark T) (hr.mono (by decide)) (takes_of rfl rfl rfl rfl) (ad_cons (nv 1) ad_nil)) ad_nil))) (gn 15 sc_law.nd))
    (sds_cons (sd_asg (ed_frz (ed_methP (T.allc.cl 4 (by decide) (by decide)) (ok_Arms_row_of T) (hr.mono (by decide)) (takes_of rfl rfl rfl rfl) (nv 3) (ad_cons (nv 15) ad_nil))) (gn 16 sc_law.nd))
    (sds_cons (sd_if (td_ne (hu64 hr) (ed_methP (T.allc.cl 4 (by decide) (by decide)) (ok_Arms_row_of T) (hr.mono (by decide)) (takes_of rfl rfl rfl rfl) (nv 8) (ad_cons (ed_callP (ok_law_grown_place T) (hr.mono (by decide)) (takes_of rfl rfl rfl rfl) (ad_cons (nv 15) (ad_cons (nv 5) ad_nil))) ad_nil)) (ed_blt (fun _ h => pe_callTy call_tuple_of (by rfl) T.tuple PyProof.Rows.boot_tuple h) tupleM_ok (bd_cons (ed_lc (own := [("_law_entry", 17)]) rfl sc_law.nd (id_seq (nv 16)) (blkOk_by (own := [("_law_entry", 17)]) (N := N_law) (sc := (defScope s_law)) (by decide +kernel)) (by decide) (fun _ _ _ _ _ => (gn 17 sc_law.nd)) (fun _ _ _ _ _ => ifs_nil) (fun _ _ _ _ _ => (ed_callP (ok_law_times T) (hr.mono (by decide)) takes0 (ad_cons (nv 17) (ad_cons (nv 5) ad_nil))))) bd_nil))) (sds_one (sd_ret ed_bl)) sds_nil)
    (sds_cons (sd_if (td_ne (hu64 hr) (ed_methP (T.allc.cl 4 (by decide) (by decide)) (ok_Arms_row_of T) (hr.mono (by decide)) (takes_of rfl rfl rfl rfl) (nv 9) (ad_cons (ed_callP (ok_law_moved_place T) (hr.mono (by decide)) (takes_of rfl rfl rfl rfl) (ad_cons (nv 15) (ad_cons (nv 6) ad_nil))) ad_nil)) (ed_add (ed_tup (ad_cons (ed_callP (ok_law_plus T) (hr.mono (by decide)) (takes_of rfl rfl rfl rfl) (ad_cons (ed_sub1 (nv 16) ed_int) (ad_cons (nv 6) ad_nil))) ad_nil)) (ed_slice (nv 16) (od_some ed_int) od_none))) (sds_one (sd_ret ed_bl)) sds_nil)
    (sds_cons (sd_asg (ed_frz (ed_methP (T.allc.cl 4 (by decide) (by decide)) (ok_Arms_row_of T) (hr.mono (by decide)) (takes_of rfl rfl rfl rfl) (nv 10) (ad_cons (nv 15) ad_nil))) (gn 18 sc_law.nd))
    (sds_one (sd_if (WD.td (wd_or (td_ne (hu64 hr) (ed_sub1 (nv 18) ed_int) (ed_sub1 (nv 16) ed_int)) (wd_or1 (td_ne (hu64 hr) (ed_lc (own := [("_law_k", 19)]) rfl sc_law.nd (id_range1 (by rfl) T.range (bd_cons (nv 4) bd_nil)) (blkOk_by (own := [("_law_k", 19)]) (N := N_law) (sc := (defScope s_law)) (by decide +kernel)) (by decide) (fun _ _ _ _ _ => (gn 19 sc_law.nd)) (fun _ _ _ _ _ => ifs_nil) (fun _ _ _ _ _ => (ed_sub1 (nv 18) (ed_sub1 (nv 7) (nv 19))))) (ed_blt (fun _ h => pe_callTy call_list_of (by rfl) T.list PyProof.Rows.boot_list h) listM_ok (bd_cons (ed_slice (nv 16) (od_some ed_int) od_none) bd_nil)))))) (sds_one (sd_ret ed_bl)) sds_nil))))))))
    (sds_cons (sd_if (WD.td (wd_or (td_not (td_alt (td_eq (hu64 hr) (ed_methP (T.allc.cl 4 (by decide) (by decide)) (ok_Arms_grown T) (hr.mono (by decide)) (takes_of rfl rfl rfl rfl) (nv 8) (ad_cons (ed_callP (ok_law_over T) (hr.mono (by decide)) (takes_of rfl rfl rfl rfl) (ad_cons (ed_tup (ad_cons ed_int (ad_cons ed_int ad_nil))) (ad_cons (nv 5) ad_nil))) ad_nil)) (nv 3)) (td_eqOwn (c0 := 4) T.allc rfl (ok_Arms___eq__ T) (hr.mono (by decide)) (ed_methP (T.allc.cl 4 (by decide) (by decide)) (ok_Arms_grown T) (hr.mono (by decide)) (takes_of rfl rfl rfl rfl) (nv 8) (ad_cons (ed_callP (ok_law_over T) (hr.mono (by decide)) (takes_of rfl rfl rfl rfl) (ad_cons (ed_tup (ad_cons ed_int (ad_cons ed_int ad_nil))) (ad_cons (nv 5) ad_nil))) ad_nil)) (nv 3)))) (wd_or (td_not (td_alt (td_eq (hu64 hr) (ed_methP (T.allc.cl 4 (by decide) (by decide)) (ok_Arms_shifted T) (hr.mono (by decide)) (takes_of rfl rfl rfl rfl) (nv 9) (ad_cons (ed_tup (ad_cons (ed_neg (ed_sub1 (nv 6) ed_int)) (ad_cons (ed_sub1 (nv 6) ed_int) ad_nil))) ad_nil)) (nv 3)) (td_eqOwn (c0 := 4) T.allc rfl (ok_Arms___eq__ T) (hr.mono (by decide)) (ed_methP (T.allc.cl 4 (by decide) (by decide)) (ok_Arms_shifted T) (hr.mono (by decide)) (takes_of rfl rfl rfl rfl) (nv 9) (ad_cons (ed_tup (ad_cons (ed_neg (ed_sub1 (nv 6) ed_int)) (ad_cons (ed_sub1 (nv 6) ed_int) ad_nil))) ad_nil)) (nv 3)))) (wd_or1 (td_ne (hu64 hr) (ed_fld T.fld_bars (nv 3)) (nv 2)))))) (sds_one (sd_ret ed_bl)) sds_nil)
    (sds_one (sd_ret (ed_and (ed_callHP (ok_law_refused T) (hr.mono (by decide)) (takes_of rfl rfl rfl rfl) (ad_cons (nv 1) (ad_cons (nv 3) (ad_cons (nv 7) ad_nil)))) (ed_one (ed_callHP (ok_law_added T) (hr.mono (by decide)) (takes_of rfl rfl rfl rfl) (ad_cons (nv 1) (ad_cons (nv 2) (ad_cons (nv 3) ad_nil))))))))))))))))))))))⟩

end
end Law
set_option Elab.async false
set_option linter.all false
set_option maxRecDepth 100000
set_option maxHeartbeats 8000000
namespace Law
open PySem PySem.Spec PyProof.Rows L2 Fd
/-! ## comprehensions whose parts are plain -/
theorem at2 {α : Type} (x y : α) : atI [x, y] 0 = some x ∧ atI [x, y] 1 = some y := by unfold atI ixN; simp
theorem at20 {α : Type} (x y : α) : atI [x, y] 0 = some x := (at2 x y).1
theorem at21 {α : Type} (x y : α) : atI [x, y] 1 = some y := (at2 x y).2
abbrev QD (a b : Int) : D := .tup [.int a, .int b]
theorem absI (a : Int) : (if a < 0 then -a else a) = (a.natAbs : Int) := by split <;> omega
@[simp] theorem w_int (x : Int) : R_is_whole [.int x, .non, .non] = .ret (.dat (.bl true)) := by
  simp [R_is_whole, m_is_whole, subTy]
@[simp] theorem w_low (x l : Int) : R_is_whole [.int x, .int l, .non] = .ret (.dat (.bl (decide (l ≤ x)))) := by
  by_cases h : x < l
  · have : ¬ l ≤ x := by omega
    simp [R_is_whole, m_is_whole, subTy, h, this]
  · have : l ≤ x := by omega
    simp [R_is_whole, m_is_whole, subTy, h, this]
@[simp] theorem w_bl (b : Bool) (x y : D) : R_is_whole [.bl b, x, y] = .ret (.dat (.bl false)) := by simp [R_is_whole, m_is_whole, subTy]
@[simp] theorem w_str (b : Str) (x y : D) : R_is_whole [.str b, x, y] = .ret (.dat (.bl false)) := by simp [R_is_whole, m_is_whole, subTy]
@[simp] theorem w_tup (b : List D) (x y : D) : R_is_whole [.tup b, x, y] = .ret (.dat (.bl false)) := by simp [R_is_whole, m_is_whole, subTy]
@[simp] theorem w_lst (b : List D) (x y : D) : R_is_whole [.lst b, x, y] = .ret (.dat (.bl false)) := by simp [R_is_whole, m_is_whole, subTy]
@[simp] theorem w_non (x y : D) : R_is_whole [.non, x, y] = .ret (.dat (.bl false)) := by simp [R_is_whole, m_is_whole, subTy]
theorem r_pair (a b : Int) : R_is_ratio [QD a b] = .ret (.dat (.bl (decide (1 ≤ b ∧ gI a b = 1)))) := by
  unfold gI
  by_cases h : 1 ≤ b
  · simp [R_is_ratio, m_is_ratio, subTy, h]
  · simp [R_is_ratio, m_is_ratio, subTy, h]
@[simp] theorem r_lst (x : List D) : R_is_ratio [.lst x] = .ret (.dat (.bl false)) := by simp [R_is_ratio, m_is_ratio, subTy]
@[simp] theorem r_int (x : Int) : R_is_ratio [.int x] = .ret (.dat (.bl false)) := by simp [R_is_ratio, m_is_ratio, subTy]
@[simp] theorem r_str (x : Str) : R_is_ratio [.str x] = .ret (.dat (.bl false)) := by simp [R_is_ratio, m_is_ratio, subTy]
@[simp] theorem r_non : R_is_ratio [.non] = .ret (.dat (.bl false)) := by simp [R_is_ratio, m_is_ratio, subTy]
theorem at3 {α : Type} (x y z : α) : atI [x, y, z] 0 = some x ∧ atI [x, y, z] 1 = some y ∧ atI [x, y, z] 2 = some z := by unfold atI ixN; simp
theorem at30 {α : Type} (x y z : α) : atI [x, y, z] 0 = some x := (at3 x y z).1
theorem at31 {α : Type} (x y z : α) : atI [x, y, z] 1 = some y := (at3 x y z).2.1
theorem at32 {α : Type} (x y z : α) : atI [x, y, z] 2 = some z := (at3 x y z).2.2
@[simp] theorem w_dct (b) (x y : D) : R_is_whole [.dct b, x, y] = .ret (.dat (.bl false)) := by simp [R_is_whole, m_is_whole, subTy]
@[simp] theorem w_both (x l h : Int) : R_is_whole [.int x, .int l, .int h] = .ret (.dat (.bl (decide (l ≤ x ∧ x ≤ h)))) := by
  by_cases c : x < l
  · have : ¬ l ≤ x := by omega
    simp [R_is_whole, m_is_whole, subTy, c, this]
  · have c' : l ≤ x := by omega
    by_cases e : h < x
    · have : ¬ x ≤ h := by omega
      simp [R_is_whole, m_is_whole, subTy, c, c', e, this]
    · have : x ≤ h := by omega
      simp [R_is_whole, m_is_whole, subTy, c, c', e, this]
theorem r_qr (r : Rat) : R_is_ratio [qr r] = .ret (.dat (.bl true)) := by
  have := r_pair r.num r.den
  rw [decide_eq_true ⟨by have := den_pos r; omega, qr_gcd r⟩] at this
  exact this
/-- things that are no ratios -/
theorem r_len {xs : List D} (h : xs.length ≠ 2) : R_is_ratio [.tup xs] = .ret (.dat (.bl false)) := by
  have : ¬ (xs.length : Int) = 2 := by omega
  simp [R_is_ratio, m_is_ratio, subTy, this]
theorem r_tb (a : Int) (b : Bool) : R_is_ratio [.tup [.int a, .bl b]] = .ret (.dat (.bl false)) := by simp [R_is_ratio, m_is_ratio, subTy]
theorem r_bt (a : Int) (b : Bool) : R_is_ratio [.tup [.bl b, .int a]] = .ret (.dat (.bl false)) := by simp [R_is_ratio, m_is_ratio, subTy]
/-! ## rows -/
def seqD : D → Option (List D)
  | .tup xs => some xs
  | .lst xs => some xs
  | _ => none
theorem row_seq {d : D} {xs : List D} (h : seqD d = some xs) (lo hi : Int) : R_is_row [d, .int lo, .int hi] = .ret (.dat (.bl (decide (lo ≤ xs.length ∧ (xs.length : Int) ≤ hi)))) := by
  cases d with
  | tup ys =>
    cases h
    by_cases c : lo ≤ xs.length
    · simp [R_is_row, m_is_row, subTy, c]
    · simp [R_is_row, m_is_row, subTy, c]
  | lst ys =>
    cases h
    by_cases c : lo ≤ xs.length
    · simp [R_is_row, m_is_row, subTy, c]
    · simp [R_is_row, m_is_row, subTy, c]
  | _ => cases h
def noRow : D → Bool
  | .non => true
  | .bl _ => true
  | .int _ => true
  | .str _ => true
  | .dct _ => true
  | _ => false
theorem row_no {d : D} (h : noRow d = true) (lo hi : Int) : R_is_row [d, .int lo, .int hi] = .ret (.dat (.bl false)) := by
  cases d <;> first | (cases h; done) | simp [R_is_row, m_is_row, subTy]
end Law
set_option Elab.async false
set_option linter.all false
set_option maxRecDepth 100000
set_option maxHeartbeats 8000000
namespace Law
open PySem PySem.Spec PyProof.Rows L2 Fd
structure Bar where
  h : Int
  m : Rat
  l : Int
def barL (b : Bar) : List D := [.int b.h, qr b.m, .int b.l]
/-- a row of three things -/
theorem bb_bar {i : Int} {d : D} (h : R_is_row [d, .int 3, .int 3] = .ret (.dat (.bl false))) : R_bad_bar [.int i, d] = .ret (.dat (.str "bar")) := by
  simp [R_bad_bar, m_bad_bar, h]
theorem row3 {d x y z : D} (e : seqD d = some [x, y, z]) : R_is_row [d, .int 3, .int 3] = .ret (.dat (.bl true)) := by
  rw [row_seq e]; simp
theorem seq_cases {d : D} {xs : List D} (e : seqD d = some xs) : d = .tup xs ∨ d = .lst xs := by
  cases d <;> first | (cases e; done) | (cases e; simp)
section
variable {i : Int} {d x y z : D} (e : seqD d = some [x, y, z])
include e
theorem bb_host (h : R_is_whole [x, .int (-1), .int (i - 1)] = .ret (.dat (.bl false))) : R_bad_bar [.int i, d] = .ret (.dat (.str "host")) := by
  have r := row3 e
  rcases seq_cases e with rfl | rfl <;> simp [R_bad_bar, m_bad_bar, r, at30, h]
theorem bb_mark (h : R_is_whole [x, .int (-1), .int (i - 1)] = .ret (.dat (.bl true))) (k : R_is_ratio [y] = .ret (.dat (.bl false))) : R_bad_bar [.int i, d] = .ret (.dat (.str "mark")) := by
  have r := row3 e
  rcases seq_cases e with rfl | rfl <;> simp [R_bad_bar, m_bad_bar, r, at30, at31, h, k]
theorem bb_letter (h : R_is_whole [x, .int (-1), .int (i - 1)] = .ret (.dat (.bl true))) (k : R_is_ratio [y] = .ret (.dat (.bl true))) (l : R_is_whole [z, .int 0, .int 4] = .ret (.dat (.bl false))) : R_bad_bar [.int i, d] = .ret (.dat (.str "letter")) := by
  have r := row3 e
  rcases seq_cases e with rfl | rfl <;> simp [R_bad_bar, m_bad_bar, r, at30, at31, at32, h, k, l]
theorem bb_none (h : R_is_whole [x, .int (-1), .int (i - 1)] = .ret (.dat (.bl true))) (k : R_is_ratio [y] = .ret (.dat (.bl true))) (l : R_is_whole [z, .int 0, .int 4] = .ret (.dat (.bl true))) : R_bad_bar [.int i, d] = .ret (.dat .non) := by
  have r := row3 e
  rcases seq_cases e with rfl | rfl <;> simp [R_bad_bar, m_bad_bar, r, at30, at31, at32, h, k, l]
end
/-- a bar that may stand as number i -/
structure Fits (i : Int) (b : Bar) : Prop where
  h1 : -1 ≤ b.h
  h2 : b.h ≤ i - 1
  l0 : 0 ≤ b.l
  l4 : b.l ≤ 4
theorem Fits.host {i : Int} {b : Bar} (f : Fits i b) : R_is_whole [.int b.h, .int (-1), .int (i - 1)] = .ret (.dat (.bl true)) := by rw [w_both, decide_eq_true ⟨f.h1, f.h2⟩]
theorem Fits.letter {i : Int} {b : Bar} (f : Fits i b) : R_is_whole [.int b.l, .int 0, .int 4] = .ret (.dat (.bl true)) := by rw [w_both, decide_eq_true ⟨f.l0, f.l4⟩]
theorem bb_good {i : Int} {d : D} {b : Bar} (e : seqD d = some (barL b)) (f : Fits i b) : R_bad_bar [.int i, d] = .ret (.dat .non) := bb_none e f.host (r_qr _) f.letter
/-! ## the loop over the bars -/
noncomputable abbrev chkB : M Fl := (seqF (asgF (bnd (consA (getV 1) (consA (getV 2) (pur []))) (callM 2 R_bad_bar [])) (setV 3))
    (ifF (bnd (m2 (getV 3) (pur RN) notNM) asB) (raiseF 1 ["index", "what"] (consA (getV 1) (consA (getV 3) (pur [])))) (pur .nx)))
abbrev chkG : SV → M Unit := seqG (consG (setV 1) (consG (setV 2) nilG)) 2
theorem chk_good {l : List SV} (d : D) : ∀ (rows : List D) (k : Nat) (a b c : Option SV), (∀ j x, rows[j]? = some x → R_bad_bar [.int ((k + j : Nat) : Int), x] = .ret (.dat .non)) →
    ∃ a' b' c', forL (Src.mk l none).Ok chkG chkB (enumF k rows) ⟨[some (.dat d), a, b, c, none], [], none⟩ = .ok .nx ⟨[some (.dat d), a', b', c', none], [], none⟩ := by
  intro rows
  induction rows with
  | nil => intro k a b c _; exact ⟨a, b, c, forL0 _⟩
  | cons x rows ih =>
    intro k a b c h
    have h0 := h 0 x (by simp)
    rw [Nat.add_zero] at h0
    obtain ⟨a', b', c', e⟩ := ih (k + 1) (some (.dat (.int (k : Nat)))) (some (.dat x)) (some (.dat .non)) fun j y hj => by
      have := h (j + 1) y (by simpa using hj)
      rwa [show k + (j + 1) = k + 1 + j by omega] at this
    refine ⟨a', b', c', ?_⟩
    rw [enumF, forL1]
    simp [h0, e]
theorem chk_bad {l : List SV} (d : D) (x : D) (post : List D) (w : Str) : ∀ (pre : List D) (k : Nat) (a b c : Option SV), (∀ j y, pre[j]? = some y → R_bad_bar [.int ((k + j : Nat) : Int), y] = .ret (.dat .non)) → R_bad_bar [.int ((k + pre.length : Nat) : Int), x] = .ret (.dat (.str w)) →
    ∃ s', forL (Src.mk l none).Ok chkG chkB (enumF k (pre ++ x :: post)) ⟨[some (.dat d), a, b, c, none], [], none⟩ = .exc ⟨1, [("what", .str w), ("index", .int ((k + pre.length : Nat) : Int))]⟩ s' := by
  intro pre
  induction pre with
  | nil =>
    intro k a b c _ h
    rw [List.length_nil, Nat.add_zero] at h
    refine ⟨⟨[some (.dat d), some (.dat (.int (k : Nat))), some (.dat x), some (.dat (.str w)), none], [], none⟩, ?_⟩
    rw [List.nil_append, enumF, forL1]
    simp [h]
  | cons y pre ih =>
    intro k a b c h hx
    have h0 := h 0 y (by simp)
    rw [Nat.add_zero] at h0
    obtain ⟨s', e⟩ := ih (k + 1) (some (.dat (.int (k : Nat)))) (some (.dat y)) (some (.dat .non)) (fun j z hj => by
      have := h (j + 1) z (by simpa using hj)
      rwa [show k + (j + 1) = k + 1 + j by omega] at this) (by
      rw [List.length_cons, show k + (pre.length + 1) = k + 1 + pre.length by omega] at hx; exact hx)
    refine ⟨s', ?_⟩
    rw [List.cons_append, enumF, forL1]
    rw [List.length_cons, show k + (pre.length + 1) = k + 1 + pre.length by omega]
    simp [h0, e]
/-! ## check_bars -/
abbrev XB (i : Int) (w : Str) : Res := .exc ⟨1, [("what", .str w), ("index", .int i)]⟩
theorem cb_many {d : D} (h : R_is_row [d, .int 1, .int 6] = .ret (.dat (.bl false))) : R_check_bars [d] = XB 0 "many" := by
  simp [R_check_bars, m_check_bars, h]
theorem cb_bad {d x : D} {pre post : List D} {w : Str} (e : seqD d = some (pre ++ x :: post)) (hl : (pre ++ x :: post).length ≤ 6) (h : ∀ j y, pre[j]? = some y → R_bad_bar [.int (j : Nat), y] = .ret (.dat .non)) (hx : R_bad_bar [.int (pre.length : Nat), x] = .ret (.dat (.str w))) :
    R_check_bars [d] = XB pre.length w := by
  have r : R_is_row [d, .int 1, .int 6] = .ret (.dat (.bl true)) := by
    rw [row_seq e, decide_eq_true]
    simp at hl ⊢
    omega
  obtain ⟨s', q⟩ := chk_bad (l := enumF 0 (pre ++ x :: post)) d x post w pre 0 none none none (by simpa using h) (by simpa using hx)
  rw [Nat.zero_add] at q
  unfold chkG chkB at q
  generalize hz : pre ++ x :: post = rows at *
  rcases seq_cases e with rfl | rfl
  · simp [R_check_bars, m_check_bars, r, q]
  · simp [R_check_bars, m_check_bars, r, q]
end Law
set_option Elab.async false
set_option linter.all false
set_option maxRecDepth 100000
set_option maxHeartbeats 8000000
namespace Law
open PySem PySem.Spec PyProof.Rows L2 Fd
inductive BarsOf : List D → List Bar → Prop
  | nil : BarsOf [] []
  | cons {d : D} {b : Bar} {ds : List D} {bs : List Bar} : seqD d = some (barL b) → BarsOf ds bs → BarsOf (d :: ds) (b :: bs)
theorem BarsOf.len {ds : List D} {bs : List Bar} (h : BarsOf ds bs) : ds.length = bs.length := by
  induction h with
  | nil => rfl
  | cons _ _ ih => simp [ih]
theorem BarsOf.get {ds : List D} {bs : List Bar} (h : BarsOf ds bs) : ∀ {i : Nat} {d : D}, ds[i]? = some d → ∃ b, bs[i]? = some b ∧ seqD d = some (barL b) := by
  induction h with
  | nil => intro i d e; simp at e
  | cons e0 _ ih =>
    intro i d e
    cases i with
    | zero => simp at e; subst e; exact ⟨_, rfl, e0⟩
    | succ i => simp at e; obtain ⟨b, e1, e2⟩ := ih e; exact ⟨b, by simpa using e1, e2⟩
theorem BarsOf.mem {ds : List D} {bs : List Bar} (h : BarsOf ds bs) {d : D} (hd : d ∈ ds) : ∃ b, b ∈ bs ∧ seqD d = some (barL b) := by
  obtain ⟨i, hi, e⟩ := List.getElem_of_mem hd
  obtain ⟨b, e1, e2⟩ := h.get (show ds[i]? = some d by rw [List.getElem?_eq_getElem hi, e])
  exact ⟨b, List.mem_of_getElem? e1, e2⟩
def letterOf : SV → Int
  | .dat d => match seqD d with
    | some [_, _, .int l] => l
    | _ => 0
  | _ => 0
theorem letter_bar {d : D} {b : Bar} (e : seqD d = some (barL b)) : letterOf (.dat d) = b.l := by
  show (match seqD d with
    | some [_, _, .int l] => l
    | _ => 0) = b.l
  rw [e]
  rfl
def tupOf : SV → SV
  | .dat d => match seqD d with
    | some xs => .dat (.tup xs)
    | _ => .dat d
  | x => x
theorem tup_bar {d : D} {b : Bar} (e : seqD d = some (barL b)) : tupOf (.dat d) = .dat (.tup (barL b)) := by
  show (match seqD d with
    | some xs => SV.dat (.tup xs)
    | _ => .dat d) = _
  rw [e]
def barsT (bs : List Bar) : List D := bs.map fun b => D.tup (barL b)
def lets (bs : List Bar) : List Int := (bs.filter fun b => decide (0 < b.l)).map Bar.l
theorem lets_of {ds : List D} {bs : List Bar} (h : BarsOf ds bs) : ((ds.map SV.dat).filter fun x => decide (0 < letterOf x)).map letterOf = lets bs := by
  induction h with
  | nil => rfl
  | @cons d b ds bs e _ ih =>
    unfold lets at ih ⊢
    rw [List.map_cons, List.filter_cons, List.filter_cons, letter_bar e]
    by_cases c : 0 < b.l
    · rw [decide_eq_true c, if_pos rfl, if_pos rfl, List.map_cons, List.map_cons, letter_bar e, ih]
    · rw [decide_eq_false c, if_neg (by decide), if_neg (by decide), ih]
theorem tups_of {ds : List D} {bs : List Bar} (h : BarsOf ds bs) : (ds.map SV.dat).map tupOf = (barsT bs).map SV.dat := by
  induction h with
  | nil => rfl
  | cons e _ ih => rw [List.map_cons, List.map_cons, tup_bar e, ih]; rfl
/-! ## lists of ints -/
def upto (n : Nat) : List Int := (List.range n).map fun i => 1 + (i : Nat)
def intsD (l : List Int) : List D := l.map D.int
theorem eq_ints : ∀ a b : List Int, eqDs (intsD a) (intsD b) = decide (a = b)
  | [], [] => rfl
  | [], _ :: _ => rfl
  | _ :: _, [] => rfl
  | x :: xs, y :: ys => by
    show (eqD (.int x) (.int y) && eqDs (intsD xs) (intsD ys)) = _
    rw [eqD_int, eq_ints xs ys]
    by_cases h : x = y <;> simp [h]
theorem fine_ints (l : List Int) : D.fines (intsD l) = true := fines_all fun d hd => by
  obtain ⟨i, _, rfl⟩ := List.mem_map.mp hd
  rfl
theorem deps_ints (l : List Int) : D.deps (intsD l) ≤ 0 := deps_all fun d hd => by
  obtain ⟨i, _, rfl⟩ := List.mem_map.mp hd
  exact Nat.le_refl _
@[simp] theorem okD_ints (l : List Int) : okD (.lst (intsD l)) = true := okD_of (by simp [D.fine, fine_ints]) (by have := deps_ints l; simp [D.dep]; omega)
theorem rangeL_ints (n : Nat) : rangeL 1 n = (intsD (upto n)).map SV.dat := by simp [rangeL, intsD, upto]
theorem ints_map (l : List Int) : l.map (fun k => SV.dat (.int k)) = (intsD l).map SV.dat := by simp [intsD]
/-! ## bars that are let, and the gap -/
theorem len_insS (x : Int) : ∀ l : List Int, (insS x l).length ≤ l.length + 1
  | [] => Nat.le_refl _
  | y :: l => by
    have := len_insS x l
    unfold insS
    split
    · exact Nat.le_refl _
    · split
      · simp
      · simp; omega
theorem len_sortS : ∀ l : List Int, (sortS l).length ≤ l.length
  | [] => Nat.le_refl _
  | x :: l => Nat.le_trans (len_insS x _) (Nat.succ_le_succ (len_sortS l))
theorem lr_upto {n : Nat} (h : n ≤ 100000) (s : S) : lrM (RI 1) (RI ((n : Int) + 1)) s = .ok (.new ((intsD (upto n)).map SV.dat)) s := by
  rw [e_lrM, show ((n : Int) + 1 - 1).toNat = n by omega, rangeL_ints]
  exact ifC_pos ⟨by omega, by omega, by omega, by omega, h⟩
theorem eqM_ints (a b : List Int) (s : S) : eqM (RD (.lst (intsD a))) (.new ((intsD b).map SV.dat)) s = .ok (RB (decide (a = b))) s := by
  have e : deep s (.new ((intsD b).map SV.dat)) = some (.lst (intsD b)) := by
    show (match datL ((intsD b).map SV.dat) with
      | some ds => some (D.lst ds)
      | none => none) = _
    rw [datL_map]
  have e2 : eqD (.lst (intsD a)) (.lst (intsD b)) = decide (a = b) := by rw [eqD_lst]; exact eq_ints a b
  unfold eqM
  rw [e, e_deepD]
  simp only []
  rw [if_pos (okD_ints a), if_pos (okD_ints b), e2]
theorem neM_ints (a b : List Int) (s : S) : neM (RD (.lst (intsD a))) (.new ((intsD b).map SV.dat)) s = .ok (RB (!decide (a = b))) s := by
  have e : deep s (.new ((intsD b).map SV.dat)) = some (.lst (intsD b)) := by
    show (match datL ((intsD b).map SV.dat) with
      | some ds => some (D.lst ds)
      | none => none) = _
    rw [datL_map]
  have e2 : eqD (.lst (intsD a)) (.lst (intsD b)) = decide (a = b) := by rw [eqD_lst]; exact eq_ints a b
  unfold neM
  rw [e, e_deepD]
  simp only []
  rw [if_pos (okD_ints a), if_pos (okD_ints b), e2]
theorem eqM_nil (a : List Int) (s : S) : eqM (RD (.lst (intsD a))) (.new []) s = .ok (RB (decide (a = []))) s := eqM_ints a [] s
structure GoodRows (d : D) (ds : List D) (bs : List Bar) : Prop where
  seq : seqD d = some ds
  bars : BarsOf ds bs
  many : 1 ≤ bs.length ∧ bs.length ≤ 6
  fits : ∀ i b, bs[i]? = some b → Fits (i : Nat) b
theorem GoodRows.row {d : D} {ds : List D} {bs : List Bar} (g : GoodRows d ds bs) : R_is_row [d, .int 1, .int 6] = .ret (.dat (.bl true)) := by
  rw [row_seq g.seq, decide_eq_true]
  rw [g.bars.len]
  have := g.many
  omega
theorem GoodRows.chk {d : D} {ds : List D} {bs : List Bar} (g : GoodRows d ds bs) : ∀ j x, ds[j]? = some x → R_bad_bar [.int ((0 + j : Nat) : Int), x] = .ret (.dat .non) := fun j x e => by
  rw [Nat.zero_add]
  obtain ⟨b, e1, e2⟩ := g.bars.get e
  exact bb_good e2 (g.fits j b e1)
section
variable {d : D} {ds : List D} {bs : List Bar} (g : GoodRows d ds bs)
include g
theorem cb_found (l : List SV) (a b c : Option SV) : siL (Src.mk l none).Ok [2] (setV 2) (bnd (m2 (m2 (getV 2) (pur (RI 2)) ixM) (pur (RI 0)) gtM) asB) (m2 (getV 2) (pur (RI 2)) ixM) (ds.map SV.dat) [] ⟨[some (.dat d), a, none, c, none], [], none⟩ = .ok (lets bs) ⟨[some (.dat d), a, none, c, none], [], none⟩ := by
  have h := siL_filter (l := l) (vs := [2]) (f := setV 2) (tt := bnd (m2 (m2 (getV 2) (pur (RI 2)) ixM) (pur (RI 0)) gtM) asB) (me := m2 (getV 2) (pur (RI 2)) ixM) (st := ⟨[some (.dat d), a, none, c, none], [], none⟩)
    (fun x => decide (0 < letterOf x)) letterOf (ds.map SV.dat) [] (by have := g.many; have := g.bars.len; simp; omega) (fun x hx => by
      obtain ⟨row, hr, rfl⟩ := List.mem_map.mp hx
      obtain ⟨bb, _, e⟩ := g.bars.mem hr
      refine ⟨⟨[some (.dat d), a, some (.dat row), c, none], [], none⟩, ⟨[some (.dat d), a, some (.dat row), c, none], [], none⟩, rfl, ?_, fun _ => ⟨⟨[some (.dat d), a, some (.dat row), c, none], [], none⟩, ?_, rfl⟩, fun _ => rfl⟩
      · rw [letter_bar e]
        rcases seq_cases e with rfl | rfl <;> simp [barL, at32]
      · rw [letter_bar e]
        rcases seq_cases e with rfl | rfl <;> simp [barL, at32])
  rw [h, List.nil_append, lets_of g.bars]
theorem cb_tups (l : List SV) (a b c e : Option SV) : lcL (Src.mk l none).Ok [2] (setV 2) (pur true) (bnd (consB (getV 2) (pur [])) tupleM) (ds.map SV.dat) [] ⟨[some (.dat d), a, none, c, e], [], none⟩ = .ok (.new ((barsT bs).map SV.dat)) ⟨[some (.dat d), a, none, c, e], [], none⟩ := by
  have h := lcL_map (l := l) (vs := [2]) (f := setV 2) (tt := pur true) (me := bnd (consB (getV 2) (pur [])) tupleM) (st := ⟨[some (.dat d), a, none, c, e], [], none⟩) tupOf (ds.map SV.dat) [] (by have := g.many; have := g.bars.len; simp; omega) (fun x hx => by
      obtain ⟨row, hr, rfl⟩ := List.mem_map.mp hx
      obtain ⟨bb, _, e0⟩ := g.bars.mem hr
      refine ⟨⟨[some (.dat d), a, some (.dat row), c, e], [], none⟩, ⟨[some (.dat d), a, some (.dat row), c, e], [], none⟩, ⟨[some (.dat d), a, some (.dat row), c, e], [], none⟩, rfl, rfl, ?_, rfl⟩
      rw [tup_bar e0]
      rcases seq_cases e0 with rfl | rfl <;> simp)
  rw [h, List.nil_append, tups_of g.bars]
theorem cb_val : R_check_bars [d] = if sortS (lets bs) = [] ∨ sortS (lets bs) ≠ upto (sortS (lets bs)).length then XB 0 "gap" else .ret (.dat (.tup (barsT bs))) := by
  have r := g.row
  obtain ⟨a', b', c', q⟩ := chk_good (l := enumF 0 ds) d ds 0 none none none g.chk
  unfold chkG chkB at q
  have f1 := fun l => cb_found g l a' none c'
  have f2 := fun l e => cb_tups g l a' none c' e
  have lenS : (sortS (lets bs)).length ≤ 100000 := by
    have l1 := len_sortS (lets bs)
    have l2 : (lets bs).length ≤ bs.length := by
      unfold lets
      rw [List.length_map]
      exact List.length_filter_le _ _
    have := g.many
    omega
  generalize hS : sortS (lets bs) = L at *
  have e1 := ints_map L
  have e0 := eqM_nil L
  have e2 := neM_ints L (upto L.length)
  have e3 := lr_upto lenS
  have l1 : (intsD L).length = L.length := by simp [intsD]
  by_cases z : L = []
  · rw [if_pos (.inl z)]
    rw [decide_eq_true z] at e0
    rcases seq_cases g.seq with rfl | rfl
    · simp [R_check_bars, m_check_bars, r, q, f1, hS, e1, e0, -e_eqM, -e_neM]
    · simp [R_check_bars, m_check_bars, r, q, f1, hS, e1, e0, -e_eqM, -e_neM]
  · rw [decide_eq_false z] at e0
    by_cases y : L = upto L.length
    · rw [if_neg (by rintro (h | h); exact z h; exact h y)]
      rw [decide_eq_true y] at e2
      rcases seq_cases g.seq with rfl | rfl
      · simp [R_check_bars, m_check_bars, r, q, f1, f2, hS, e1, e0, e2, e3, l1, -e_lrM, -e_eqM, -e_neM]
      · simp [R_check_bars, m_check_bars, r, q, f1, f2, hS, e1, e0, e2, e3, l1, -e_lrM, -e_eqM, -e_neM]
    · rw [if_pos (.inr y)]
      rw [decide_eq_false y] at e2
      rcases seq_cases g.seq with rfl | rfl
      · simp [R_check_bars, m_check_bars, r, q, f1, f2, hS, e1, e0, e2, e3, l1, -e_lrM, -e_eqM, -e_neM]
      · simp [R_check_bars, m_check_bars, r, q, f1, f2, hS, e1, e0, e2, e3, l1, -e_lrM, -e_eqM, -e_neM]
end
end Law
set_option Elab.async false
set_option linter.all false
set_option maxRecDepth 100000
set_option maxHeartbeats 8000000
namespace Law
open PySem PySem.Spec PyProof.Rows L2 Fd
def intsS (l : List Int) : List SV := l.map fun i => SV.dat (.int i)
@[simp] theorem intsL_map : ∀ l : List Int, intsL (intsS l) = some l
  | [] => rfl
  | i :: l => by
    show intsL (SV.dat (.int i) :: intsS l) = _
    rw [e_intsL1, intsL_map l]
@[simp] theorem lk_bl : (Str.ofString "bars" = Str.ofString "letters") = False := by decide
@[simp] theorem lk_lb : (Str.ofString "letters" == Str.ofString "bars") = false := by decide
@[simp] theorem lk_wi : (Str.ofString "index" == Str.ofString "what") = false := by decide
def mostL (bs : List Bar) : Int := maxL (bs.map Bar.l)
def armD (bs : List Bar) : D := .obj 4 [("bars", .tup (barsT bs)), ("letters", .int (mostL bs))]
abbrev letSV : SV → SV := fun x => .dat (.int (letterOf x))
theorem lets_sv {ds : List D} {bs : List Bar} (h : BarsOf ds bs) : (ds.map SV.dat).map letSV = intsS (bs.map Bar.l) := by
  induction h with
  | nil => rfl
  | @cons d b ds bs e _ ih =>
    unfold intsS at ih ⊢
    rw [List.map_cons, List.map_cons, List.map_cons, List.map_cons, ih]
    unfold letSV
    rw [letter_bar e]
theorem barsOf_T : ∀ bs : List Bar, BarsOf (barsT bs) bs
  | [] => .nil
  | b :: bs => .cons rfl (barsOf_T bs)
/-- the letters of a row of bars, read one by one -/
theorem read_lets {l : List SV} {ds : List D} {bs : List Bar} {env : List (Option SV)} {hd : Option Hd} {k : Nat} (h : BarsOf ds bs) (hk : k < env.length) (he : env[k]? = some none) (hb : ds.length ≤ 100000) :
    lcL (Src.mk l none).Ok [k] (setV k) (pur true) (m2 (getV k) (pur (RI 2)) ixM) (ds.map SV.dat) [] ⟨env, [], hd⟩ = .ok (.new (intsS (bs.map Bar.l))) ⟨env, [], hd⟩ := by
  have q := lcL_map (l := l) (vs := [k]) (f := setV k) (tt := pur true) (me := m2 (getV k) (pur (RI 2)) ixM) (st := ⟨env, [], hd⟩) letSV (ds.map SV.dat) [] (by simpa using hb) (fun x hx => by
    obtain ⟨row, hr, rfl⟩ := List.mem_map.mp hx
    obtain ⟨bb, _, e0⟩ := h.mem hr
    refine ⟨⟨env.set k (some (.dat row)), [], hd⟩, ⟨env.set k (some (.dat row)), [], hd⟩, ⟨env.set k (some (.dat row)), [], hd⟩, rfl, rfl, ?_, ?_⟩
    · unfold letSV
      rw [letter_bar e0]
      rcases seq_cases e0 with rfl | rfl <;> simp [barL, at32, hk]
    · have : (env.set k (some (.dat row))).set k none = env := by
        rw [List.set_set]
        apply List.ext_getElem?
        intro i
        by_cases c : k = i
        · subst c
          rw [List.getElem?_set_self hk, he]
        · rw [List.getElem?_set_ne c]
      simp [wipeS, this])
  rw [q, List.nil_append, lets_sv h]
theorem barsT_len (bs : List Bar) : (barsT bs).length = bs.length := by simp [barsT]
structure NoGap (bs : List Bar) : Prop where
  ne : sortS (lets bs) ≠ []
  up : sortS (lets bs) = upto (sortS (lets bs)).length
theorem cb_good {d : D} {ds : List D} {bs : List Bar} (g : GoodRows d ds bs) (n : NoGap bs) : R_check_bars [d] = .ret (.dat (.tup (barsT bs))) := by
  rw [cb_val g, if_neg (by rintro (h | h); exact n.ne h; exact h n.up)]
theorem cb_gap {d : D} {ds : List D} {bs : List Bar} (g : GoodRows d ds bs) (n : ¬ NoGap bs) : R_check_bars [d] = XB 0 "gap" := by
  rw [cb_val g, if_pos]
  by_cases z : sortS (lets bs) = []
  · exact .inl z
  · exact .inr fun h => n ⟨z, h⟩
theorem init_good {d : D} {ds : List D} {bs : List Bar} (g : GoodRows d ds bs) (n : NoGap bs) : R_Arms___init__ [d] = .ret (.dat (armD bs)) := by
  have c := cb_good g n
  have m := g.many
  have r := fun l hd => read_lets (l := l) (env := [some .hand, some (.dat d), none]) (hd := hd) (k := 2) (barsOf_T bs) (show 2 < 3 by decide) rfl (by rw [barsT_len]; omega)
  have nb : bs ≠ [] := fun h => by rw [h] at m; simp at m
  simp [R_Arms___init__, m_Arms___init__, c, r, intsL_map, nb, armD, mostL]
theorem init_exc {d : D} {i : Int} {w : Str} (h : R_check_bars [d] = XB i w) : R_Arms___init__ [d] = XB i w := by
  simp [R_Arms___init__, m_Arms___init__, h]
theorem most_val {d : D} {ds : List D} {bs : List Bar} (g : GoodRows d ds bs) : R_law_most [d] = .ret (.dat (.int (mostL bs))) := by
  have m := g.many
  have r := fun l => read_lets (l := l) (env := [some (.dat d), none]) (hd := none) (k := 1) g.bars (show 1 < 2 by decide) rfl (by rw [g.bars.len]; omega)
  have nb : bs ≠ [] := fun h => by rw [h] at m; simp at m
  rcases seq_cases g.seq with rfl | rfl <;> simp [R_law_most, m_law_most, r, intsL_map, nb, mostL]
end Law
set_option Elab.async false
set_option linter.all false
set_option maxRecDepth 100000
set_option maxHeartbeats 8000000
set_option exponentiation.threshold 2000
namespace Law
open PySem PySem.Spec PyProof.Rows L2 Fd
theorem v_law_gcd (a b : Int) {n : Nat} (h : Bd n b) (hn : n < 40000) : R_law_gcd [.int a, .int b] = .ret (.dat (.int (gI a b))) := by
  have w := whileL_gcd (tc := bnd (getV 1) truthM) (b := parF 0 1 (consA (getV 1) (consA (m2 (bnd (consB (getV 0) (pur [])) intM) (getV 1) modM) (pur [])))) (fun x y => ⟨[some (.dat (.int x)), some (.dat (.int y))], [], none⟩)
    (fun x y => by simp) (fun x y hy => by simp [modC_of hy]) n a.natAbs b.natAbs 100000 h (by omega)
  simp [R_law_gcd, m_law_gcd, absI, w, gI]
theorem v_law_ratio {a b : Int} (hb : b ≠ 0) {n : Nat} (h : Bd n b) (hn : n < 9000) : R_law_ratio [.int a, .int b] = .ret (.dat (QD (nT a b) (nB a b))) := by
  have hp := gI_pos (a := a) hb
  have h1 : ∀ x : Int, divC x (gI a b) = true := fun x => Bd.divC (n := n) (bd_le h (gI_le hb)) (by omega)
  have h1' : ∀ x : Int, divC x (-gI a b) = true := fun x => Bd.divC (n := n) (bd_le h (by have := gI_le (a := a) hb; rwa [Int.natAbs_neg])) (by omega)
  have h2 := law_T a b
  have h3 := law_B a b
  by_cases c : b < 0
  · simp [c] at h2 h3
    simp [R_law_ratio, m_law_ratio, c, v_law_gcd a b h (by omega), h1', h2, h3]
  · simp [c] at h2 h3
    simp [R_law_ratio, m_law_ratio, c, v_law_gcd a b h (by omega), h1, h2, h3]
theorem p10 {j : Nat} (h : j ≤ 45) : (10 : Int) ^ j ≤ 10 ^ 45 := by
  have := Nat.pow_le_pow_right (n := 10) (by decide) h
  exact_mod_cast this
theorem p9 : (10 : Int) ^ (9 : Int).toNat = 1000000000 := by decide
theorem wide_loop {l : List SV} (way : Int) : ∀ (xs : List SV) (total : Int) (h : Hand) (turn : Option SV) (k : Nat), 0 ≤ total → total < 10 ^ (9 * k) → k + xs.length ≤ 5 →
    ∃ (total' : Int) (h' : Hand) (turn' : Option SV), forL (Src.mk l none).Ok (setV 3) (asgF (m2 (m2 (getV 2) (m2 (pur (RI 10)) (pur (RI 9)) powM) mulI) (bnd (consA (getV 0) (consA (m2 (pur (RI 10)) (pur (RI 9)) powM) (pur []))) (callH 2 R_law_take [])) addM) (setV 2)) xs
      ⟨[some .hand, some (.dat (.int way)), some (.dat (.int total)), turn], [], some h⟩ = .ok .nx ⟨[some .hand, some (.dat (.int way)), some (.dat (.int total')), turn'], [], some h'⟩ ∧ 0 ≤ total' ∧ total' < 10 ^ 45 := by
  intro xs
  induction xs with
  | nil =>
    intro total h turn k h0 h1 hk
    refine ⟨total, h, turn, forL0 _, h0, Int.lt_of_lt_of_le h1 ?_⟩
    exact p10 (by simp at hk; omega)
  | cons x xs ih =>
    intro total h turn k h0 h1 hk
    obtain ⟨t, h', e, t0, t1⟩ := take_ex (n := 1000000000) h (lg9 (by decide))
    have hb : mulC total 1000000000 = true := by
      have : Bd 160 total := by
        refine bd_of (by omega) (Int.lt_of_lt_of_le h1 ?_)
        refine Int.le_trans (p10 (by simp at hk; omega)) (by decide)
      exact this.mulC (m := 30) (bd_of (by decide) (by decide)) (by omega)
    have hp : powC 10 9 = true := by decide
    have e1 : (10 : Int) ^ (9 * (k + 1)) = 10 ^ (9 * k) * 1000000000 := by
      rw [show 9 * (k + 1) = 9 * k + 9 by omega, Int.pow_add]; rfl
    obtain ⟨total', h2, turn', e2, e3⟩ := ih (total * 1000000000 + t) h' (some x) (k + 1) (by omega) (by rw [e1]; omega) (by simp at hk ⊢; omega)
    refine ⟨total', h2, turn', ?_, e3⟩
    rw [forL1]
    simp [hp, p9, e, hb, e2]
theorem v_wide (h : Hand) : ∃ x h', R_law_wide [.hand] h = (.ret (.dat (.int x)), h') ∧ Bd 150 x := by
  obtain ⟨w, h1, e1, w0, w1⟩ := take_ex (n := 9) h (lg9 (by decide))
  by_cases c : w < 6
  · obtain ⟨t, h2, e2, t0, t1⟩ := take_ex (n := 25) h1 (lg9 (by decide))
    refine ⟨t - 12, h2, by simp [R_law_wide, m_law_wide, e1, c, e2], bd_of (by omega) (by omega)⟩
  · have hl : ∀ n : Nat, n ≤ 5 → ∃ (total' : Int) (h' : Hand) (turn' : Option SV), forL (Src.mk (rangeL 0 n) none).Ok (setV 3) (asgF (m2 (m2 (getV 2) (m2 (pur (RI 10)) (pur (RI 9)) powM) mulI) (bnd (consA (getV 0) (consA (m2 (pur (RI 10)) (pur (RI 9)) powM) (pur []))) (callH 2 R_law_take [])) addM) (setV 2)) (rangeL 0 n)
      ⟨[some .hand, some (.dat (.int w)), some (.dat (.int 0)), none], [], some h1⟩ = .ok .nx ⟨[some .hand, some (.dat (.int w)), some (.dat (.int total')), turn'], [], some h'⟩ ∧ 0 ≤ total' ∧ total' < 10 ^ 45 := fun n hn =>
      wide_loop w (rangeL 0 n) 0 h1 none 0 (by decide) (by decide) (by rw [rangeL_len]; omega)
    have fin : ∀ (tot : Int) (h2 : Hand), 0 ≤ tot → tot < 10 ^ 45 → ∃ t h3, R_law_take [.hand, .dat (.int 2)] h2 = (.ret (.dat (.int t)), h3) ∧ mulC 2 t = true ∧ mulC tot (1 - 2 * t) = true ∧ Bd 150 (tot * (1 - 2 * t)) := fun tot h2 a b => by
      obtain ⟨t, h3, e3, t0, t1⟩ := take_ex (n := 2) h2 (lg9 (by decide))
      have b1 : Bd 150 tot := bd_of (by omega) (Int.lt_trans b (by decide))
      refine ⟨t, h3, e3, Bd.mulC (n := 2) (m := 2) (bd_of (by decide) (by decide)) (bd_of (by omega) (by omega)) (by decide), b1.mulC (m := 2) (bd_of (by omega) (by omega)) (by decide), ?_⟩
      have : t = 0 ∨ t = 1 := by omega
      rcases this with rfl | rfl
      · simpa using b1
      · simpa using b1.neg
    by_cases c2 : w < 8
    · obtain ⟨tot, h2, turn, e2, a, b⟩ := hl 1 (by decide)
      obtain ⟨t, h3, e3, m1, m2, bb⟩ := fin tot h2 a b
      exact ⟨_, h3, by simp [R_law_wide, m_law_wide, e1, c, c2, e2, e3, m1, m2], bb⟩
    · obtain ⟨tot, h2, turn, e2, a, b⟩ := hl 5 (by decide)
      obtain ⟨t, h3, e3, m1, m2, bb⟩ := fin tot h2 a b
      exact ⟨_, h3, by simp [R_law_wide, m_law_wide, e1, c, c2, e2, e3, m1, m2], bb⟩
theorem q_law_ratio {a b : Int} (hb : b ≠ 0) {n : Nat} (h : Bd n b) (hn : n < 9000 := by omega) : R_law_ratio [.int a, .int b] = .ret (.dat (qr ((a : Rat) / (b : Rat)))) := (v_law_ratio hb h hn).trans (by rw [← qr_of hb])
theorem r_law_plus {r s : Rat} {n m : Nat} (h : Rb n r) (k : Rb m s) (l : n + m < 9000 := by omega) : R_law_plus [qr r, qr s] = .ret (.dat (qr (r + s))) := by
  have e := q_law_ratio (a := r.num * s.den + s.num * r.den) (Int.mul_ne_zero (den_nz r) (den_nz s)) (h.den.mul k.den) l
  rw [q_add] at e
  simp [R_law_plus, m_law_plus, qr, at20, at21, h.num.mulC k.den (by omega), k.num.mulC h.den (by omega), h.den.mulC k.den (by omega)]
  simp [qr] at e
  simp [e, qr]
theorem v_wide_ratio (h : Hand) : ∃ r h', R_law_wide_ratio [.hand] h = (.ret (.dat (qr r)), h') ∧ Rb 160 r := by
  obtain ⟨x, h1, e1, bx⟩ := v_wide h
  obtain ⟨y, h2, e2, y0⟩ := v_wide h1
  have by' : Bd 151 (1 + (y.natAbs : Int)) := (bd_of (n := 1) (x := 1) (by decide) (by decide)).add (m := 150) (by unfold Bd at *; simpa using y0)
  have z : 1 + (y.natAbs : Int) ≠ 0 := by omega
  refine ⟨_, h2, by simp [R_law_wide_ratio, m_law_wide_ratio, e1, e2, absI, q_law_ratio (a := x) z by' (by decide)], rb_frac z (bx.mono (by decide)) (by'.mono (by decide))⟩
theorem v_mark (h : Hand) : ∃ r h', R_law_mark [.hand] h = (.ret (.dat (qr r)), h') ∧ Rb 160 r := by
  obtain ⟨t, h1, e1, t0, t1⟩ := take_ex (n := 13) h (lg9 (by decide))
  have b2 : Bd 2 (2 : Int) := bd_of (by decide) (by decide)
  obtain ⟨r, er, rb⟩ : ∃ r, R_law_ratio [.int (t - 4), .int 2] = .ret (.dat (qr r)) ∧ Rb 160 r := ⟨_, q_law_ratio (a := t - 4) (b := 2) (by decide) b2, rb_frac (by decide) (bd_of (n := 160) (by omega) (by omega)) (b2.mono (by decide))⟩
  exact ⟨r, h1, by simp [R_law_mark, m_law_mark, e1, er], rb⟩
end Law
set_option Elab.async false
set_option linter.all false
set_option maxRecDepth 100000
set_option maxHeartbeats 8000000
namespace Law
open PySem PySem.Spec PyProof.Rows L2 Fd
theorem min4 {many : Int} (h : 1 ≤ many) : 1 ≤ (if (4 : Int) < many then 4 else many) ∧ (if (4 : Int) < many then 4 else many) ≤ 4 ∧ (if (4 : Int) < many then 4 else many) ≤ many := by split <;> omega
theorem intsS_app (a : List Int) (x : Int) : intsS a ++ [.dat (.int x)] = intsS (a ++ [x]) := by simp [intsS]
theorem intsS_len (a : List Int) : (intsS a).length = a.length := by simp [intsS]
/-- the letters as they are first laid -/
theorem lt_init {l : List SV} (many n : Int) (hn : 1 ≤ n) (n4 : n ≤ 4) : ∀ (cnt : Nat) (k : Nat) (acc : List Int) (h : Hand), acc.length = k → (acc.length + cnt ≤ 6) → ∃ (r : List Int) (h' : Hand),
    lcL (Src.mk l none).Ok [5] (setV 5) (pur true) (ifE (bnd (m2 (getV 5) (getV 3) ltM) asB) (m2 (getV 5) (pur (RI 1)) addM) (bnd (consA (getV 0) (consA (m2 (getV 3) (pur (RI 1)) addM) (pur []))) (callH 2 R_law_take [])))
      (rangeL k cnt) (intsS acc) ⟨[some .hand, some (.dat (.int many)), some (.dat (.int 4)), some (.dat (.int n)), none, none, none], [], some h⟩ = .ok (.new (intsS (acc ++ r))) ⟨[some .hand, some (.dat (.int many)), some (.dat (.int 4)), some (.dat (.int n)), none, none, none], [], some h'⟩
    ∧ r.length = cnt ∧ (∀ x ∈ r, 0 ≤ x ∧ x ≤ n) ∧ ∀ j : Nat, k ≤ j → j < k + cnt → (j : Int) < n → (j : Int) + 1 ∈ r := by
  intro cnt
  induction cnt with
  | zero =>
    intro k acc h _ _
    refine ⟨[], h, ?_, rfl, by simp, fun j a b _ => by omega⟩
    rw [List.append_nil, show rangeL k 0 = [] from rfl]
    exact if_pos trivial
  | succ cnt ih =>
    intro k acc h ek hl
    obtain ⟨v, h1, e1, v0, v1, v2⟩ : ∃ (v : Int) (h1 : Hand), (ifE (bnd (m2 (getV 5) (getV 3) ltM) asB) (m2 (getV 5) (pur (RI 1)) addM) (bnd (consA (getV 0) (consA (m2 (getV 3) (pur (RI 1)) addM) (pur []))) (callH 2 R_law_take [])))
        ⟨[some .hand, some (.dat (.int many)), some (.dat (.int 4)), some (.dat (.int n)), none, some (.dat (.int (k : Nat))), none], [], some h⟩ = .ok (RI v) ⟨[some .hand, some (.dat (.int many)), some (.dat (.int 4)), some (.dat (.int n)), none, some (.dat (.int (k : Nat))), none], [], some h1⟩
        ∧ 0 ≤ v ∧ v ≤ n ∧ ((k : Int) < n → v = k + 1) := by
      by_cases c : (k : Int) < n
      · exact ⟨k + 1, h, by simp [c], by omega, by omega, fun _ => rfl⟩
      · obtain ⟨t, h1, e1, t0, t1⟩ := take_ex (n := n + 1) h (lg9 ⟨by omega, by omega⟩)
        exact ⟨t, h1, by simp [c, e1], t0, by omega, fun z => absurd z c⟩
    obtain ⟨r, h2, e2, r1, r2, r3⟩ := ih (k + 1) (acc ++ [v]) h1 (by simp [ek]) (by simp; omega)
    refine ⟨v :: r, h2, ?_, by simp [r1], ?_, ?_⟩
    · rw [rangeL_cons]
      refine (lcL_step (tt := pur true) (f := setV 5) (y := .dat (.int v)) rfl rfl e1 (by rw [intsS_len]; omega)).trans ?_
      rw [intsS_app]
      rw [show acc ++ v :: r = acc ++ [v] ++ r by simp]
      exact e2
    · intro x hx
      rcases List.mem_cons.mp hx with rfl | hx
      · exact ⟨v0, v1⟩
      · exact r2 x hx
    · intro j a b c
      by_cases z : j = k
      · subst z
        rw [← v2 c]
        exact List.mem_cons_self
      · exact List.mem_cons_of_mem _ (r3 j (by omega) (by omega) c)
end Law
set_option Elab.async false
set_option linter.all false
set_option maxRecDepth 100000
set_option maxHeartbeats 8000000
namespace Law
open PySem PySem.Spec PyProof.Rows L2 Fd
section
variable {s : S}
end
theorem intsS_get {l : List Int} {k : Nat} (h : k < l.length) : (intsS l)[k]'(by rw [intsS_len]; exact h) = .dat (.int l[k]) := by simp [intsS]
theorem intsS_set (l : List Int) (k : Nat) (x : Int) : (intsS l).set k (.dat (.int x)) = intsS (l.set k x) := by simp [intsS, List.map_set]
abbrev shufB : M Fl := seqF (asgF (bnd (consA (getV 0) (consA (m2 (getV 5) (pur (RI 1)) addM) (pur []))) (callH 2 R_law_take [])) (setV 6))
    (asgF (bnd (consA (m2 (getV 4) (getV 6) ixM) (consA (m2 (getV 4) (getV 5) ixM) (pur []))) tupM) (seqG (consG (subG (getV 4) (getV 5)) (consG (subG (getV 4) (getV 6)) nilG)) 2))
theorem lt_shuf {l : List SV} (many n : Int) (m : Nat) (m6 : m ≤ 6) : ∀ (i : Nat) (row : List Int) (a b : Option SV) (h : Hand), row.length = m → i < m → ∃ (row' : List Int) (a' b' : Option SV) (h' : Hand),
    forL (Src.mk l none).Ok (setV 5) shufB (downL i i) ⟨[some .hand, some (.dat (.int many)), some (.dat (.int 4)), some (.dat (.int n)), some (.ref 0), a, b], [some (intsS row)], some h⟩
      = .ok .nx ⟨[some .hand, some (.dat (.int many)), some (.dat (.int 4)), some (.dat (.int n)), some (.ref 0), a', b'], [some (intsS row')], some h'⟩ ∧ row'.Perm row := by
  intro i
  induction i with
  | zero => intro row a b h _ _; exact ⟨row, a, b, h, forL0 _, .refl _⟩
  | succ i ih =>
    intro row a b h hl hi
    obtain ⟨t, h1, e1, t0, t1⟩ := take_ex (n := ((i + 1 : Nat) : Int) + 1) h (lg9 ⟨by omega, by omega⟩)
    obtain ⟨k, rfl⟩ := Int.eq_ofNat_of_zero_le t0
    have hk : k < row.length := by omega
    have hi' : i + 1 < row.length := by omega
    obtain ⟨row', a', b', h2, e2, p2⟩ := ih ((row.set (i + 1) row[k]).set k row[i + 1]) (some (.dat (.int ((i + 1 : Nat) : Int)))) (some (.dat (.int (k : Int)))) h1 (by simp [hl]) (by omega)
    refine ⟨row', a', b', h2, ?_, p2.trans (List.set_set_perm hi' hk)⟩
    rw [downL_cons, forL1]
    have g1 : atI (intsS row) (k : Int) = some (.dat (.int row[k])) := by rw [atI_nat (by rw [intsS_len]; exact hk), intsS_get hk]
    have g2 : atI (intsS row) ((i + 1 : Nat) : Int) = some (.dat (.int row[i + 1])) := by rw [atI_nat (by rw [intsS_len]; exact hi'), intsS_get hi']
    have g3 : ixN (intsS row).length ((i + 1 : Nat) : Int) = some (i + 1) := ixN_nat (by rw [intsS_len]; exact hi')
    have g4 : ∀ x, ixN (intsS (row.set (i + 1) x)).length (k : Int) = some k := fun x => ixN_nat (by rw [intsS_len]; simpa using hk)
    have g5 : (((i + 1 : Nat) : Int) - 1) = (i : Int) := by omega
    rw [g5]
    generalize ((i + 1 : Nat) : Int) = c at *
    simp [e1, g1, g2, g3, g4, intsS_set, e2]
/-! ## the letters of a row -/
structure Lets (n : Int) (m : Nat) (row : List Int) : Prop where
  len : row.length = m
  n1 : 1 ≤ n
  n4 : n ≤ 4
  nm : n ≤ m
  bnd : ∀ x ∈ row, 0 ≤ x ∧ x ≤ n
  all : ∀ x : Int, 1 ≤ x → x ≤ n → x ∈ row
theorem v_letters {m : Nat} (m1 : 1 ≤ m) (m6 : m ≤ 6) (h : Hand) : ∃ (n : Int) (row : List Int) (h' : Hand), R_law_letters [.hand, .dat (.int (m : Nat)), .dat (.int 4)] h = (.ret (.new (intsD row)), h') ∧ Lets n m row := by
  obtain ⟨b1, b2, b3⟩ := min4 (many := (m : Int)) (by omega)
  obtain ⟨t, h1, e1, t0, t1⟩ := take_ex h (n := if (4 : Int) < m then 4 else m) (lg9 ⟨by omega, by omega⟩)
  obtain ⟨r, h2, e2, r1, r2, r3⟩ := lt_init (l := rangeL 0 m) (m : Nat) (1 + t) (by omega) (by omega) m 0 [] h1 rfl (by simpa using m6)
  obtain ⟨row, a', b', h3, e3, p⟩ := lt_shuf (l := downL ((m - 1 : Nat) : Int) (m - 1)) (m : Nat) (1 + t) m m6 (m - 1) r none none h2 r1 (by omega)
  refine ⟨1 + t, row, h3, ?_, p.length_eq.trans r1, by omega, by omega, by omega, fun x hx => r2 x (p.mem_iff.mp hx), fun x h0 h1 => ?_⟩
  · have d : datL (intsS row) = some (intsD row) := by
      rw [show intsS row = (intsD row).map SV.dat by simp [intsS, intsD], datL_map]
    have c1 : (-4611686018427387904 : Int) ≤ m := by omega
    have c2 : (m : Int) < 4611686018427387904 := by omega
    have c3 : ((m : Int) - 1) = ((m - 1 : Nat) : Int) := by omega
    have c4 : (-4611686018427387904 : Int) ≤ ((m - 1 : Nat) : Int) := by omega
    have c5 : ((m - 1 : Nat) : Int) < 4611686018427387904 := by omega
    rw [show intsS [] = [] from rfl, List.nil_append, show ((0 : Nat) : Int) = 0 from rfl] at e2
    unfold shufB at e3
    simp [R_law_letters, m_law_letters, e1, c1, c2, e2, c3, c4, c5, e3, d]
  · obtain ⟨k, hk⟩ := Int.eq_ofNat_of_zero_le (show 0 ≤ x - 1 by omega)
    have := r3 k (by omega) (by omega) (by omega)
    rw [show ((k : Nat) : Int) + 1 = x by omega] at this
    exact p.mem_iff.mpr this
end Law
set_option Elab.async false
set_option linter.all false
set_option maxRecDepth 100000
set_option maxHeartbeats 8000000
namespace Law
open PySem PySem.Spec PyProof.Rows L2 Fd
/-! ## the row of bars -/
theorem upto_up (n : Nat) : (upto n).Pairwise (· < ·) := by
  unfold upto
  rw [List.pairwise_map]
  exact List.Pairwise.imp (fun h => by omega) List.pairwise_lt_range
theorem mem_upto {n : Nat} {x : Int} : x ∈ upto n ↔ 1 ≤ x ∧ x ≤ n := by
  unfold upto
  rw [List.mem_map]
  constructor
  · rintro ⟨i, hi, rfl⟩
    have := List.mem_range.mp hi
    omega
  · intro h
    exact ⟨(x - 1).toNat, List.mem_range.mpr (by omega), by omega⟩
theorem upto_len (n : Nat) : (upto n).length = n := by simp [upto]
theorem mem_lets {bs : List Bar} {x : Int} : x ∈ lets bs ↔ 0 < x ∧ ∃ b ∈ bs, b.l = x := by
  unfold lets
  rw [List.mem_map]
  constructor
  · rintro ⟨b, hb, rfl⟩
    have := List.mem_filter.mp hb
    exact ⟨of_decide_eq_true this.2, b, this.1, rfl⟩
  · rintro ⟨h, b, hb, rfl⟩
    exact ⟨b, List.mem_filter.mpr ⟨hb, decide_eq_true h⟩, rfl⟩
theorem noGap_of {bs : List Bar} {n : Nat} (n1 : 1 ≤ n) (h : ∀ x : Int, (0 < x ∧ ∃ b ∈ bs, b.l = x) ↔ (1 ≤ x ∧ x ≤ n)) : NoGap bs := by
  have e : sortS (lets bs) = upto n := up_eq (up_sortS _) (upto_up n) fun k => by rw [mem_sortS, mem_lets, mem_upto, h]
  refine ⟨fun z => ?_, by rw [e, upto_len]⟩
  rw [e] at z
  have := upto_len n
  rw [z] at this
  simp at this
  omega
theorem NoGap.one {bs : List Bar} (h : NoGap bs) : ∃ b ∈ bs, b.l = 1 := by
  have : (1 : Int) ∈ sortS (lets bs) := by
    rw [h.up]
    refine mem_upto.mpr ⟨Int.le_refl _, ?_⟩
    have := h.ne
    cases e : sortS (lets bs) with
    | nil => exact absurd e this
    | cons => simp; omega
  exact (mem_lets.mp (mem_sortS.mp this)).2
theorem NoGap.iff {bs : List Bar} (h : NoGap bs) : ∀ x : Int, (0 < x ∧ ∃ b ∈ bs, b.l = x) ↔ (1 ≤ x ∧ x ≤ (sortS (lets bs)).length) := fun x => by
  rw [← mem_lets, ← mem_sortS, ← mem_upto, ← h.up]
structure BarsOk (bs : List Bar) : Prop where
  many : 1 ≤ bs.length ∧ bs.length ≤ 6
  fits : ∀ i b, bs[i]? = some b → Fits (i : Nat) b
  gap : NoGap bs
  mark : ∀ b ∈ bs, Rb 160 b.m
def barSV (bs : List Bar) : List SV := bs.map fun b => SV.dat (.tup (barL b))
theorem barSV_app (bs : List Bar) (b : Bar) : barSV bs ++ [SV.dat (.tup (barL b))] = barSV (bs ++ [b]) := by simp [barSV]
theorem barSV_dat (bs : List Bar) : barSV bs = (barsT bs).map SV.dat := by simp [barSV, barsT]
theorem barSV_len (bs : List Bar) : (barSV bs).length = bs.length := by simp [barSV]
noncomputable abbrev barB : M Fl := dropF (appM (getV 4) (bnd (consA (m2 (bnd (consA (getV 0) (consA (m2 (getV 5) (pur (RI 1)) addM) (pur []))) (callH 2 R_law_take [])) (pur (RI 1)) subM) (consA (bnd (consA (getV 0) (pur [])) (callH 1 R_law_mark [])) (consA (m2 (getV 3) (getV 5) ixM) (pur [])))) tupM))
theorem bars_loop {l : List SV} {n : Int} {m : Nat} {row : List Int} (L : Lets n m row) (m6 : m ≤ 6) : ∀ (cnt : Nat) (bs : List Bar) (h : Hand) (a : Option SV), bs.length + cnt = m →
    (∀ (i : Nat) (b : Bar), bs[i]? = some b → -1 ≤ b.h ∧ b.h ≤ (i : Int) - 1 ∧ row[i]? = some b.l ∧ Rb 160 b.m) → ∃ (bs' : List Bar) (h' : Hand) (a' : Option SV),
    forL (Src.mk l none).Ok (setV 5) barB (rangeL (bs.length : Nat) cnt) ⟨[some .hand, some (.dat (.int 4)), some (.dat (.int (m : Nat))), some (.dat (.lst (intsD row))), some (.ref 0), a], [some (barSV bs)], some h⟩
      = .ok .nx ⟨[some .hand, some (.dat (.int 4)), some (.dat (.int (m : Nat))), some (.dat (.lst (intsD row))), some (.ref 0), a'], [some (barSV bs')], some h'⟩
    ∧ bs'.length = m ∧ (∀ (i : Nat) (b : Bar), bs'[i]? = some b → -1 ≤ b.h ∧ b.h ≤ (i : Int) - 1 ∧ row[i]? = some b.l ∧ Rb 160 b.m) := by
  intro cnt
  induction cnt with
  | zero => intro bs h a hl hb; exact ⟨bs, h, a, forL0 _, by omega, hb⟩
  | succ cnt ih =>
    intro bs h a hl hb
    obtain ⟨t, h1, e1, t0, t1⟩ := take_ex (n := ((bs.length : Nat) : Int) + 1) h (lg9 ⟨by omega, by omega⟩)
    obtain ⟨r, h2, e2, rb⟩ := v_mark h1
    have hk : bs.length < row.length := by rw [L.len]; omega
    have hk' : bs.length < (intsD row).length := by simpa [intsD] using hk
    have g1 : atI (intsD row) ((bs.length : Nat) : Int) = some (.int row[bs.length]) := by rw [atI_nat hk']; simp [intsD]
    obtain ⟨bs', h3, a', e3, q1, q2⟩ := ih (bs ++ [⟨t - 1, r, row[bs.length]⟩]) h2 (some (.dat (.int ((bs.length : Nat) : Int)))) (by simp; omega) (fun i b e => by
      by_cases c : i < bs.length
      · rw [List.getElem?_append_left c] at e; exact hb i b e
      · rw [List.getElem?_append_right (by omega)] at e
        by_cases z : i = bs.length
        · subst z
          simp at e
          subst e
          exact ⟨by show -1 ≤ t - 1; omega, by show t - 1 ≤ _; omega, List.getElem?_eq_getElem hk, rb⟩
        · rw [List.getElem?_eq_none (by simp; omega)] at e
          cases e)
    refine ⟨bs', h3, a', ?_, q1, q2⟩
    rw [rangeL_cons, forL1]
    have g2 : (barSV bs).length < 100000 := by rw [barSV_len]; omega
    have g3 := barSV_app bs ⟨t - 1, r, row[bs.length]⟩
    unfold barL at g3
    rw [List.length_append, List.length_singleton, show ((bs.length + 1 : Nat) : Int) = (bs.length : Nat) + 1 by omega] at e3
    unfold barB at e3
    generalize ((bs.length : Nat) : Int) = c at *
    simp [e1, e2, g1, g2, g3, e3]
theorem v_bars (h : Hand) : ∃ (bs : List Bar) (h' : Hand), R_law_bars [.hand, .dat (.int 4)] h = (.ret (.dat (.tup (barsT bs))), h') ∧ BarsOk bs := by
  obtain ⟨t, h1, e1, t0, t1⟩ := take_ex (n := 8) h (lg9 (by decide))
  obtain ⟨m, m1, m6, em⟩ : ∃ m : Nat, 1 ≤ m ∧ m ≤ 6 ∧ atI [SV.dat (.int 2), .dat (.int 1), .dat (.int 3), .dat (.int 2), .dat (.int 3), .dat (.int 2), .dat (.int 3), .dat (.int 6)] t = some (.dat (.int m)) := by
    have : t = 0 ∨ t = 1 ∨ t = 2 ∨ t = 3 ∨ t = 4 ∨ t = 5 ∨ t = 6 ∨ t = 7 := by omega
    rcases this with rfl | rfl | rfl | rfl | rfl | rfl | rfl | rfl
    · exact ⟨2, by decide, by decide, rfl⟩
    · exact ⟨1, by decide, by decide, rfl⟩
    · exact ⟨3, by decide, by decide, rfl⟩
    · exact ⟨2, by decide, by decide, rfl⟩
    · exact ⟨3, by decide, by decide, rfl⟩
    · exact ⟨2, by decide, by decide, rfl⟩
    · exact ⟨3, by decide, by decide, rfl⟩
    · exact ⟨6, by decide, by decide, rfl⟩
  obtain ⟨n, row, h2, e2, L⟩ := v_letters m1 m6 h1
  obtain ⟨bs, h3, a', e3, q1, q2⟩ := bars_loop (l := rangeL 0 m) L m6 m [] h2 none (by simp) (fun i b e => by simp at e)
  have hrow : ∀ x, x ∈ row ↔ ∃ b ∈ bs, b.l = x := fun x => by
    constructor
    · intro hx
      obtain ⟨i, hi, rfl⟩ := List.getElem_of_mem hx
      have hi' : i < bs.length := by rw [q1, ← L.len]; exact hi
      have := (q2 i bs[i] (List.getElem?_eq_getElem hi')).2.2.1
      rw [List.getElem?_eq_getElem hi] at this
      exact ⟨bs[i], List.getElem_mem _, (Option.some.inj this).symm⟩
    · rintro ⟨b, hb, rfl⟩
      obtain ⟨i, hi, rfl⟩ := List.getElem_of_mem hb
      exact List.mem_of_getElem? (q2 i bs[i] (List.getElem?_eq_getElem hi)).2.2.1
  have hl : ∀ b ∈ bs, 0 ≤ b.l ∧ b.l ≤ n := fun b hb => L.bnd _ ((hrow _).mpr ⟨b, hb, rfl⟩)
  have n1 := L.n1
  have n4 := L.n4
  refine ⟨bs, h3, ?_, ⟨by omega, fun i b e => ?_, ?_, fun b hb => ?_⟩⟩
  · have c1 : (-4611686018427387904 : Int) ≤ m := by omega
    have c2 : (m : Int) < 4611686018427387904 := by omega
    unfold barB at e3
    rw [show ((([] : List Bar).length : Nat) : Int) = 0 from rfl, show barSV [] = [] from rfl] at e3
    have d := datL_map (barsT bs)
    rw [← barSV_dat] at d
    simp [R_law_bars, m_law_bars, e1, em, e2, c1, c2, e3, d]
  · obtain ⟨b1, b2, _⟩ := q2 i b e
    have := hl b (List.mem_of_getElem? e)
    exact ⟨b1, b2, this.1, by omega⟩
  · refine noGap_of (n := n.toNat) (by omega) fun x => ?_
    rw [← hrow]
    constructor
    · rintro ⟨a, b⟩
      have := L.bnd x b
      omega
    · rintro ⟨a, b⟩
      exact ⟨by omega, L.all x a (by omega)⟩
  · obtain ⟨i, hi, rfl⟩ := List.getElem_of_mem hb
    exact (q2 i bs[i] (List.getElem?_eq_getElem hi)).2.2.2
end Law
set_option Elab.async false
set_option linter.all false
set_option maxRecDepth 100000
set_option maxHeartbeats 8000000
namespace Law
open PySem PySem.Spec PyProof.Rows L2 Fd
theorem v_lowest {a b : Int} (hb : b ≠ 0) {n : Nat} (h : Bd n b) (hn : n < 9000) : R_lowest_terms [.int a, .int b] = .ret (.dat (QD (nT a b) (nB a b))) := by
  have h1 : ∀ x : Int, divC x (gI a b) = true := fun x => Bd.divC (n := n) (bd_le h (gI_le hb)) (by have := gI_pos (a := a) hb; omega)
  have h2 := low_T a b
  have h3 := low_B a b
  unfold gI at h1 h2 h3
  by_cases c : b < 0
  · simp [c] at h2 h3
    simp [R_lowest_terms, m_lowest_terms, c, h1, h2, h3]
  · simp [c] at h2 h3
    simp [R_lowest_terms, m_lowest_terms, c, h1, h2, h3]
theorem q_lowest_terms {a b : Int} (hb : b ≠ 0) {n : Nat} (h : Bd n b) (hn : n < 9000 := by omega) : R_lowest_terms [.int a, .int b] = .ret (.dat (qr ((a : Rat) / (b : Rat)))) := (v_lowest hb h hn).trans (by rw [← qr_of hb])
theorem r_plus {r s : Rat} {n m : Nat} (h : Rb n r) (k : Rb m s) (l : n + m < 9000 := by omega) : R_plus [qr r, qr s] = .ret (.dat (qr (r + s))) := by
  have e := q_lowest_terms (a := r.num * s.den + s.num * r.den) (Int.mul_ne_zero (den_nz r) (den_nz s)) (h.den.mul k.den) l
  rw [q_add] at e
  simp [R_plus, m_plus, qr, at20, at21, h.num.mulC k.den (by omega), k.num.mulC h.den (by omega), h.den.mulC k.den (by omega)]
  simp [qr] at e
  simp [e, qr]
theorem r_times {r s : Rat} {n m : Nat} (h : Rb n r) (k : Rb m s) (l : n + m < 9000 := by omega) : R_times [qr r, qr s] = .ret (.dat (qr (r * s))) := by
  have e := q_lowest_terms (a := r.num * s.num) (Int.mul_ne_zero (den_nz r) (den_nz s)) (h.den.mul k.den) l
  rw [q_mul] at e
  simp [R_times, m_times, qr, at20, at21, h.num.mulC k.num (by omega), h.den.mulC k.den (by omega)]
  simp [qr] at e
  simp [e, qr]
theorem r_law_times {r s : Rat} {n m : Nat} (h : Rb n r) (k : Rb m s) (l : n + m < 9000 := by omega) : R_law_times [qr r, qr s] = .ret (.dat (qr (r * s))) := by
  have e := q_law_ratio (a := r.num * s.num) (Int.mul_ne_zero (den_nz r) (den_nz s)) (h.den.mul k.den) l
  rw [q_mul] at e
  simp [R_law_times, m_law_times, qr, at20, at21, h.num.mulC k.num (by omega), h.den.mulC k.den (by omega)]
  simp [qr] at e
  simp [e, qr]
theorem r_law_over {r s : Rat} {n m : Nat} (z : s ≠ 0) (h : Rb n r) (k : Rb m s) (l : n + m < 9000 := by omega) : R_law_over [qr r, qr s] = .ret (.dat (qr (r / s))) := by
  have z' : s.num ≠ 0 := fun y => z (Rat.num_eq_zero.mp y)
  have e := q_law_ratio (a := r.num * s.den) (b := r.den * s.num) (Int.mul_ne_zero (den_nz r) z') (h.den.mul k.num) l
  rw [q_div r s z] at e
  simp [R_law_over, m_law_over, qr, at20, at21, h.num.mulC k.den (by omega), h.den.mulC k.num (by omega)]
  simp [qr] at e
  simp [e, qr]
theorem r_above {r : Rat} : R_is_above_zero [qr r] = .ret (.dat (.bl (decide (0 < r.num)))) := by
  have e := r_qr r
  unfold qr at *
  simp [R_is_above_zero, m_is_above_zero, e, at20]
theorem r_above_no {d : D} (h : R_is_ratio [d] = .ret (.dat (.bl false))) : R_is_above_zero [d] = .ret (.dat (.bl false)) := by
  simp [R_is_above_zero, m_is_above_zero, h]
end Law
set_option Elab.async false
set_option linter.all false
set_option maxRecDepth 100000
set_option maxHeartbeats 8000000
namespace Law
open PySem PySem.Spec PyProof.Rows L2 Fd
theorem tu_s (i : Nat) : R_law_tuples (i + 1) = runP 2 (m_law_tuples (R_law_tuples i)) := rfl
theorem tu_int (i : Nat) (a : Int) : R_law_tuples (i + 1) [.int a] = .ret (.dat (.bl true)) := by
  rw [tu_s]
  generalize R_law_tuples i = F
  simp [m_law_tuples, subTy]
theorem tu_tup (i : Nat) (ds : List D) (h : ∀ d ∈ ds, R_law_tuples i [d] = .ret (.dat (.bl true))) : R_law_tuples (i + 1) [.tup ds] = .ret (.dat (.bl true)) := by
  rw [tu_s]
  generalize R_law_tuples i = F at *
  have q := fun l => lcL_none (l := l) (vs := [1]) (f := setV 1) (tt := notT (bnd (bnd (consA (getV 1) (pur [])) (callM 1 F [])) truthM)) (me := pur (RI 1)) (st := ⟨[some (.dat (.tup ds)), none], [], none⟩) (ds.map SV.dat) [] fun x hx => by
    obtain ⟨d, hd, rfl⟩ := List.mem_map.mp hx
    refine ⟨⟨[some (.dat (.tup ds)), some (.dat d)], [], none⟩, ⟨[some (.dat (.tup ds)), some (.dat d)], [], none⟩, rfl, ?_, rfl⟩
    have := h d hd
    simp [this]
  simp [m_law_tuples, subTy, q]
theorem v_tuples (bs : List Bar) : R_law_tuples 8 [.tup (barsT bs)] = .ret (.dat (.bl true)) := by
  refine tu_tup 7 _ fun d hd => ?_
  obtain ⟨b, _, rfl⟩ := List.mem_map.mp hd
  refine tu_tup 6 _ fun x hx => ?_
  unfold barL at hx
  simp only [List.mem_cons, List.not_mem_nil, or_false] at hx
  rcases hx with rfl | rfl | rfl
  · exact tu_int _ _
  · refine tu_tup 5 _ fun y hy => ?_
    simp only [List.mem_cons, List.not_mem_nil, or_false] at hy
    rcases hy with rfl | rfl <;> exact tu_int _ _
  · exact tu_int _ _
/-! ## things that are no ratios -/
theorem no_2 (t : Int) : R_is_ratio [.tup [.int (2 * t), .int 2]] = .ret (.dat (.bl false)) := by
  rw [show D.tup [.int (2 * t), .int 2] = QD (2 * t) 2 from rfl, r_pair]
  have : gI (2 * t) 2 ≠ 1 := by
    unfold gI
    have e : (2 * t).natAbs = 2 * t.natAbs := by omega
    rw [e, show (2 : Int).natAbs = 2 from rfl, Nat.gcd_comm, Nat.gcd_mul_right_right]
    decide
  rw [decide_eq_false (fun z => this z.2)]
theorem v_odd (h : Hand) : ∃ (o : D) (h' : Hand), R_law_odd [.hand] h = (.ret (.dat o), h') ∧ R_is_ratio [o] = .ret (.dat (.bl false)) := by
  obtain ⟨a, h1, e1, a0, a1⟩ := take_ex (n := 9) h (lg9 (by decide))
  obtain ⟨t, h2, e2, t0, t1⟩ := take_ex (n := 12) h1 (lg9 (by decide))
  generalize hT : a - 4 = T at *
  obtain ⟨o, ho, e3⟩ := at_cases (xs := [D.int T, .lst [.int T, .int 1], .tup [.int T, .int 0], .tup [.int (2 * T), .int 2], .tup [.int T, .int 1, .int 1], .tup [.bl true, .int 1], .tup [.int T, .bl true], .non, .str "1", .tup [.int T, .int (-1)], .tup [.int T], .tup []]) t0 (by simp; omega)
  have mc : mulC 2 T = true := Bd.mulC (n := 2) (m := 4) (bd_of (by decide) (by decide)) (bd_of (by omega) (by omega)) (by decide)
  refine ⟨o, h2, ?_, ?_⟩
  · simp [R_law_odd, m_law_odd, e1, hT, mc, e2, e3]
  · simp only [List.mem_cons, List.not_mem_nil, or_false] at ho
    rcases ho with rfl | rfl | rfl | rfl | rfl | rfl | rfl | rfl | rfl | rfl | rfl | rfl
    · exact r_int _
    · exact r_lst _
    · exact (r_pair _ _).trans (by rw [decide_eq_false (fun z => absurd z.1 (by decide))])
    · exact no_2 T
    · exact r_len (by simp)
    · exact r_bt _ _
    · exact r_tb _ _
    · exact r_non
    · exact r_str _
    · exact (r_pair _ _).trans (by rw [decide_eq_false (fun z => absurd z.1 (by decide))])
    · exact r_len (by simp)
    · exact r_len (by simp)
end Law
set_option Elab.async false
set_option linter.all false
set_option maxRecDepth 100000
set_option maxHeartbeats 8000000
namespace Law
open PySem PySem.Spec PyProof.Rows L2 Fd
theorem BarsOk.rows {bs : List Bar} (h : BarsOk bs) {d : D} {ds : List D} (e : seqD d = some ds) (k : BarsOf ds bs) : GoodRows d ds bs := ⟨e, k, h.many, h.fits⟩
theorem atB {bs : List Bar} {k : Nat} {b : Bar} (e : bs[k]? = some b) : atI (barsT bs) (k : Int) = some (.tup (barL b)) := by
  have hk : k < bs.length := by
    by_cases c : k < bs.length
    · exact c
    · rw [List.getElem?_eq_none (by omega)] at e; cases e
  rw [List.getElem?_eq_getElem hk] at e
  have e' := Option.some.inj e
  rw [atI_nat (by rw [barsT_len]; exact hk)]
  simp [barsT, e']
/-! ## rows of ratios -/
def ratS (f : List Rat) : List SV := f.map fun r => .dat (qr r)
def rowT (f : List Rat) : D := .tup (f.map qr)
theorem ratS_len (f : List Rat) : (ratS f).length = f.length := by simp [ratS]
theorem ratS_at {f : List Rat} {k : Nat} (h : k < f.length) : atI (ratS f) (k : Int) = some (.dat (qr (f.getD k 0))) := by
  rw [atI_nat (by rw [ratS_len]; exact h)]
  simp [ratS, h]
theorem ratS_set (f : List Rat) (k : Nat) (r : Rat) : (ratS f).set k (.dat (qr r)) = ratS (f.set k r) := by simp [ratS, List.map_set]
theorem ratS_dat (f : List Rat) : datL (ratS f) = some (f.map qr) := by
  rw [show ratS f = (f.map qr).map SV.dat by simp [ratS], datL_map]
def addAt (f : List Rat) (k : Nat) (m : Rat) : List Rat := f.set k (f.getD k 0 + m)
theorem addAt_len (f : List Rat) (k : Nat) (m : Rat) : (addAt f k m).length = f.length := by simp [addAt]
/-- what the walk along the hosts leaves -/
def lineF (bs : List Bar) : Nat → Int → Rat → List Rat → List Rat
  | 0, _, _, f => f
  | k + 1, n, m, f => if n < 0 then addAt f 0 m else match bs[n.toNat]? with
    | some b => lineF bs k b.h b.m (addAt f b.l.toNat m)
    | none => f
theorem lineF_neg {bs : List Bar} {k : Nat} {n : Int} {m : Rat} {f : List Rat} (h : n < 0) : lineF bs (k + 1) n m f = addAt f 0 m := if_pos h
theorem lineF_pos {bs : List Bar} {k i : Nat} {m : Rat} {f : List Rat} {b : Bar} (h : bs[i]? = some b) : lineF bs (k + 1) (i : Nat) m f = lineF bs k b.h b.m (addAt f b.l.toNat m) := by
  show (if ((i : Nat) : Int) < 0 then _ else _) = _
  rw [if_neg (by omega), Int.toNat_natCast, h]
/-- sizes of a row behind j sums -/
def Small (j : Nat) (f : List Rat) : Prop := ∀ r ∈ f, Rb (401 * j + 2) r
theorem Small.at {j : Nat} {f : List Rat} (h : Small j f) (k : Nat) : Rb (401 * j + 2) (f.getD k 0) := by
  rw [List.getD_eq_getElem?_getD]
  cases e : f[k]? with
  | none => exact rb0.mono (by omega)
  | some r => exact h r (List.mem_of_getElem? e)
theorem Small.add {j : Nat} {f : List Rat} (h : Small j f) (k : Nat) {m : Rat} (hm : Rb 400 m) : Small (j + 1) (addAt f k m) := fun r hr => by
  rcases List.mem_or_eq_of_mem_set hr with z | z
  · exact (h r z).mono (by omega)
  · subst z
    exact ((h.at k).add hm).mono (by omega)
theorem zeros_small (n : Nat) : Small 0 (List.replicate n 0) := fun r hr => by
  rw [List.eq_of_mem_replicate hr]
  exact rb0
/-- bars whose letters all lie within the row -/
structure Fit (bs : List Bar) (L : Nat) : Prop where
  six : bs.length ≤ 6
  host : ∀ (i : Nat) b, bs[i]? = some b → -1 ≤ b.h ∧ b.h ≤ (i : Int) - 1
  lets : ∀ b ∈ bs, 0 ≤ b.l ∧ b.l.toNat < L
  mark : ∀ b ∈ bs, Rb 400 b.m
section
variable {bs : List Bar} {L : Nat} (F : Fit bs L)
include F
theorem line_len : ∀ (k : Nat) (n : Int) (m : Rat) (f : List Rat), (lineF bs k n m f).length = f.length := by
  intro k
  induction k with
  | zero => intro n m f; rfl
  | succ k ih =>
    intro n m f
    unfold lineF
    split
    · exact addAt_len _ _ _
    · cases bs[n.toNat]? with
      | none => rfl
      | some b => exact (ih _ _ _).trans (addAt_len _ _ _)
theorem line_small : ∀ (k : Nat) (n : Int) (m : Rat) (f : List Rat) (j : Nat), Rb 400 m → Small j f → Small (j + k) (lineF bs k n m f) := by
  intro k
  induction k with
  | zero => intro n m f j _ h; exact h
  | succ k ih =>
    intro n m f j hm h
    unfold lineF
    split
    · exact fun r hr => (h.add 0 hm r hr).mono (by omega)
    · cases e : bs[n.toNat]? with
      | none => exact fun r hr => (h r hr).mono (by omega)
      | some b =>
        have := ih b.h b.m _ (j + 1) (F.mark b (List.mem_of_getElem? e)) (h.add b.l.toNat hm)
        rw [show j + (k + 1) = j + 1 + k by omega]
        exact this
end
/-! ## the program's walk -/
def aS (A : D) (n : Int) (m : Rat) (f : List Rat) (x4 x5 x6 : Option SV) : S := ⟨[some (.dat A), some (.dat (.int n)), some (.dat (qr m)), some (.ref 0), x4, x5, x6], [some (ratS f)], none⟩
noncomputable abbrev arT : M Bool := bnd (m2 (getV 1) (pur (RI 0)) geM) asB
noncomputable abbrev arB : M Fl := seqF (asgF (m2 (bnd (getV 0) (fldM [4] "bars")) (getV 1) ixM) (seqG (consG (setV 4) (consG (setV 5) (consG (setV 6) nilG))) 3))
    (seqF (asgF (bnd (consA (m2 (getV 3) (getV 6) ixM) (consA (getV 2) (pur []))) (callM 2 R_plus [])) (subG (getV 3) (getV 6)))
    (parF 1 2 (consA (getV 4) (consA (getV 5) (pur [])))))
theorem ar_step {bs : List Bar} {L : Nat} (F : Fit bs L) {i : Nat} {b : Bar} (eb : bs[i]? = some b) {m : Rat} {f : List Rat} {j : Nat} (hf : f.length = L) (hj : j ≤ 8) (hm : Rb 400 m) (hs : Small j f) (x4 x5 x6 : Option SV) :
    arB (aS (armD bs) (i : Nat) m f x4 x5 x6) = .ok .nx (aS (armD bs) b.h b.m (addAt f b.l.toNat m) (some (.dat (.int b.h))) (some (.dat (qr b.m))) (some (.dat (.int b.l)))) := by
  have e1 := atB eb
  obtain ⟨l0, lL⟩ := F.lets b (List.mem_of_getElem? eb)
  obtain ⟨l, hl⟩ := Int.eq_ofNat_of_zero_le l0
  have hl2 : b.l.toNat = l := by omega
  have hlf : l < f.length := by omega
  have e2 := ratS_at hlf
  have e3 := r_plus (hs.at l) hm (by omega)
  have e4 : ixN (ratS f).length (l : Int) = some l := ixN_nat (by rw [ratS_len]; exact hlf)
  have e5 := ratS_set f l (f.getD l 0 + m)
  unfold barL at e1
  unfold armD aS addAt
  rw [hl2]
  rw [show ((l : Nat) : Int) = b.l from hl.symm] at e2 e4
  generalize f.getD l 0 + m = v at *
  generalize f.getD l 0 = u at *
  generalize ((i : Nat) : Int) = n at *
  generalize mostL bs = ml at *
  generalize barsT bs = T at *
  simp [List.lookup, e1, e2, e3, e4, e5]
theorem whileL_go {tc : M Bool} {b : M Fl} {n : Nat} {s s1 s2 : S} (h1 : tc s = .ok true s1) (h2 : b s1 = .ok .nx s2) : whileL tc b (n + 1) s = whileL tc b n s2 := by
  conv => lhs; unfold whileL
  simp only [h1, h2]
theorem whileL_end {tc : M Bool} {b : M Fl} {n : Nat} {s s1 : S} (h1 : tc s = .ok false s1) : whileL tc b (n + 1) s = .ok .nx s1 := by
  unfold whileL
  simp only [h1]
theorem ar_test {A : D} {n : Int} {m : Rat} {f : List Rat} {x4 x5 x6 : Option SV} : arT (aS A n m f x4 x5 x6) = .ok (decide (0 ≤ n)) (aS A n m f x4 x5 x6) := by
  unfold aS
  simp
theorem ar_loop {bs : List Bar} {L : Nat} (F : Fit bs L) : ∀ (k : Nat) (n : Int) (m : Rat) (f : List Rat) (j : Nat) (x4 x5 x6 : Option SV) (fu : Nat), f.length = L → j + k ≤ 8 → Rb 400 m → Small j f → n < k → n < bs.length → k < fu →
    ∃ (n' : Int) (m' : Rat) (f' : List Rat) (x4' x5' x6' : Option SV), whileL arT arB fu (aS (armD bs) n m f x4 x5 x6) = .ok .nx (aS (armD bs) n' m' f' x4' x5' x6') ∧ addAt f' 0 m' = lineF bs (k + 1) n m f ∧ f'.length = L ∧ Rb 400 m' ∧ Small 8 f' := by
  intro k
  induction k with
  | zero =>
    intro n m f j x4 x5 x6 fu hf hj hm hs hn _ hfu
    obtain ⟨fu, rfl⟩ : ∃ q, fu = q + 1 := ⟨fu - 1, by omega⟩
    exact ⟨n, m, f, x4, x5, x6, whileL_end (ar_test.trans (by rw [decide_eq_false (by omega)])), (lineF_neg (by omega)).symm, hf, hm, fun r hr => (hs r hr).mono (by omega)⟩
  | succ k ih =>
    intro n m f j x4 x5 x6 fu hf hj hm hs hn hb hfu
    obtain ⟨fu, rfl⟩ : ∃ q, fu = q + 1 := ⟨fu - 1, by omega⟩
    by_cases c : n < 0
    · exact ⟨n, m, f, x4, x5, x6, whileL_end (ar_test.trans (by rw [decide_eq_false (by omega)])), (lineF_neg c).symm, hf, hm, fun r hr => (hs r hr).mono (by omega)⟩
    · obtain ⟨i, rfl⟩ := Int.eq_ofNat_of_zero_le (Int.not_lt.mp c)
      have hi : i < bs.length := by omega
      have eb := List.getElem?_eq_getElem hi
      have hh := F.host i _ eb
      have st := ar_step F eb hf (by omega) hm hs x4 x5 x6
      obtain ⟨n', m', f', y4, y5, y6, e1, e2, e3, e4, e5⟩ := ih bs[i].h bs[i].m (addAt f bs[i].l.toNat m) (j + 1) _ _ _ fu ((addAt_len _ _ _).trans hf) (by omega) (F.mark _ (List.getElem_mem hi)) (hs.add _ hm) (by omega) (by omega) (by omega)
      refine ⟨n', m', f', y4, y5, y6, (whileL_go (ar_test.trans (by rw [decide_eq_true (by omega)])) st).trans e1, ?_, e3, e4, e5⟩
      rw [e2]
      exact (lineF_pos eb).symm
def rowF (bs : List Bar) (n : Int) (m : Rat) : List Rat := lineF bs (bs.length + 1) n m (List.replicate (mostL bs + 1).toNat 0)
structure Most (bs : List Bar) : Prop where
  fit : Fit bs (mostL bs + 1).toNat
  one : 1 ≤ mostL bs
  four : mostL bs ≤ 4
theorem v_line {bs : List Bar} (M : Most bs) {n : Int} {m : Rat} (hn : n < bs.length) (hm : Rb 400 m) : R_Arms_line_row [armD bs, .int n, qr m] = .ret (.dat (rowT (rowF bs n m))) := by
  have F := M.fit
  have o1 := M.one
  have o4 := M.four
  obtain ⟨q, hq⟩ : ∃ q : Nat, mostL bs + 1 = (q : Int) := ⟨(mostL bs + 1).toNat, by omega⟩
  have hq2 : (mostL bs + 1).toNat = q := by omega
  obtain ⟨n', m', f', y4, y5, y6, e1, e2, e3, e4, e5⟩ := ar_loop F bs.length n m (List.replicate q 0) 0 none none none 100000 (by simp [hq2]) (by have := F.six; omega) hm (zeros_small q) hn hn (by have := F.six; omega)
  have r1 : (List.replicate q [SV.dat (.tup [.int 0, .int 1])]).flatten = ratS (List.replicate q 0) := by
    have : ∀ k, (List.replicate k [SV.dat (.tup [.int 0, .int 1])]).flatten = ratS (List.replicate k 0) := fun k => by
      induction k with
      | zero => rfl
      | succ k ih => rw [List.replicate_succ, List.flatten_cons, ih, List.replicate_succ]; rfl
    exact this q
  have rp : ∀ st, repLM (.new [SV.dat (.tup [.int 0, .int 1])]) (RI (q : Int)) st = .ok (.new (ratS (List.replicate q 0))) st := fun st => by
    rw [e_repLM, if_pos ⟨by omega, by omega, by simp⟩, Int.toNat_natCast, r1]
  have h0 : 0 < f'.length := by rw [e3, hq2]; omega
  have a1 := ratS_at h0
  rw [show ((0 : Nat) : Int) = 0 from rfl] at a1
  have a2 := r_plus (e5.at 0) e4 (by omega)
  have a3 : ixN (ratS f').length 0 = some 0 := ixN_nat (k := 0) (by rw [ratS_len]; exact h0)
  have a4 := ratS_set f' 0 (f'.getD 0 0 + m')
  have a5 := ratS_dat (rowF bs n m)
  have e2' : f'.set 0 (f'.getD 0 0 + m') = rowF bs n m := by
    unfold rowF
    rw [hq2]
    exact e2
  rw [e2'] at a4
  unfold rowT
  generalize rowF bs n m = R at *
  generalize f'.getD 0 0 + m' = v at *
  generalize f'.getD 0 0 = u at *
  unfold armD at *
  unfold arT arB aS at e1
  rw [hq2] at *
  generalize mostL bs = ml at *
  generalize barsT bs = T at *
  generalize ratS (List.replicate q 0) = Z at *
  simp [R_Arms_line_row, m_Arms_line_row, List.lookup, hq, rp, e1, a1, a2, a3, a4, a5, -e_repLM]
end Law
set_option Elab.async false
set_option linter.all false
set_option maxRecDepth 100000
set_option maxHeartbeats 8000000
namespace Law
open PySem PySem.Spec PyProof.Rows L2 Fd
@[simp] theorem ne_00 : (Str.ofString "line_row" == Str.ofString "bars") = false := by decide
@[simp] theorem ne_01 : (Str.ofString "line_row" == Str.ofString "letters") = false := by decide
@[simp] theorem ne_10 : (Str.ofString "row_of" == Str.ofString "bars") = false := by decide
@[simp] theorem ne_11 : (Str.ofString "row_of" == Str.ofString "letters") = false := by decide
@[simp] theorem ne_40 : (Str.ofString "grown" == Str.ofString "bars") = false := by decide
@[simp] theorem ne_41 : (Str.ofString "grown" == Str.ofString "letters") = false := by decide
@[simp] theorem ne_50 : (Str.ofString "shifted" == Str.ofString "bars") = false := by decide
@[simp] theorem ne_51 : (Str.ofString "shifted" == Str.ofString "letters") = false := by decide
@[simp] theorem ne_60 : (Str.ofString "renamed" == Str.ofString "bars") = false := by decide
@[simp] theorem ne_61 : (Str.ofString "renamed" == Str.ofString "letters") = false := by decide
@[simp] theorem ne_70 : (Str.ofString "with_bar" == Str.ofString "bars") = false := by decide
@[simp] theorem ne_71 : (Str.ofString "with_bar" == Str.ofString "letters") = false := by decide
theorem lenM_obj (c : Nat) (fs : List (Str × D)) (s : S) : lenM [RD (.obj c fs)] s = .bad := rfl
theorem arm_len (a : List Bar) : R_Arms___len__ [armD a] = .ret (.dat (.int (a.length : Nat))) := by
  unfold armD
  simp [R_Arms___len__, m_Arms___len__, List.lookup, barsT_len]
/-! ## places -/
theorem pf_no {d : D} {k : Int} (h : R_is_row [d, .int 2, .int 2] = .ret (.dat (.bl false))) : R_is_place_form [d, .int k] = .ret (.dat (.bl false)) := by
  simp [R_is_place_form, m_is_place_form, h]
theorem seq2 {d : D} {xs : List D} (e : seqD d = some xs) : d = .tup xs ∨ d = .lst xs := seq_cases e
section
variable {d x y : D} {k : Int} (e : seqD d = some [x, y])
include e
theorem row2 : R_is_row [d, .int 2, .int 2] = .ret (.dat (.bl true)) := by rw [row_seq e]; simp
theorem pf_bar (h : R_is_whole [x, .int (-1), .int (k - 1)] = .ret (.dat (.bl false))) : R_is_place_form [d, .int k] = .ret (.dat (.bl false)) := by
  have r := row2 e
  rcases seq2 e with rfl | rfl <;> simp [R_is_place_form, m_is_place_form, r, at20, h]
theorem pf_mark (h : R_is_whole [x, .int (-1), .int (k - 1)] = .ret (.dat (.bl true))) {b : Bool} (q : R_is_ratio [y] = .ret (.dat (.bl b))) : R_is_place_form [d, .int k] = .ret (.dat (.bl b)) := by
  have r := row2 e
  rcases seq2 e with rfl | rfl <;> simp [R_is_place_form, m_is_place_form, r, at20, at21, h, q]
end
structure Spot (bs : List Bar) (n : Int) (m : Rat) : Prop where
  lo : -1 ≤ n
  hi : n < bs.length
  mark : Rb 400 m
theorem Spot.form {bs : List Bar} {n : Int} {m : Rat} (s : Spot bs n m) {d : D} (e : seqD d = some [.int n, qr m]) : R_is_place_form [d, .int (bs.length : Nat)] = .ret (.dat (.bl true)) :=
  pf_mark e (by rw [w_both, decide_eq_true ⟨s.lo, by have := s.hi; omega⟩]) (r_qr m)
theorem cp_good {bs : List Bar} (b6 : bs.length ≤ 6) {d : D} {xs : List D} (e : seqD d = some xs) (h : R_is_place_form [d, .int (bs.length : Nat)] = .ret (.dat (.bl true))) : R_check_place [armD bs, d] = .ret (.dat (.tup xs)) := by
  have al := arm_len bs
  have c1 : (bs.length : Int) < 4611686018427387904 := by omega
  unfold armD at *
  generalize mostL bs = ml at *
  generalize barsT bs = T at *
  rcases seq2 e with rfl | rfl <;> simp [R_check_place, m_check_place, lenM_obj, al, c1, h]
/-! ## rows of places -/
section
variable {bs : List Bar} (M : Most bs)
include M
theorem ro_good {n : Int} {m : Rat} (s : Spot bs n m) {d : D} (e : seqD d = some [.int n, qr m]) : R_Arms_row_of [armD bs, d] = .ret (.dat (rowT (rowF bs n m))) := by
  have c := cp_good M.fit.six e (s.form e)
  have l := v_line M s.hi s.mark
  unfold armD at *
  generalize rowF bs n m = R at *
  simp [R_Arms_row_of, m_Arms_row_of, c, l, List.lookup]
end
end Law
set_option Elab.async false
set_option linter.all false
set_option maxRecDepth 100000
set_option maxHeartbeats 8000000
namespace Law
open PySem PySem.Spec PyProof.Rows L2 Fd
/-! ## bars that the arms take -/
structure BarsG (bs : List Bar) : Prop where
  many : 1 ≤ bs.length ∧ bs.length ≤ 6
  fits : ∀ (i : Nat) b, bs[i]? = some b → Fits (i : Nat) b
  gap : NoGap bs
theorem BarsOk.g {bs : List Bar} (h : BarsOk bs) : BarsG bs := ⟨h.many, h.fits, h.gap⟩
theorem most_of {bs : List Bar} {n : Nat} (n1 : 1 ≤ n) (h : ∀ x : Int, (0 < x ∧ ∃ b ∈ bs, b.l = x) ↔ (1 ≤ x ∧ x ≤ n)) : mostL bs = n := by
  obtain ⟨_, b, hb, e⟩ := (h n).mpr ⟨by omega, by omega⟩
  have ne : bs.map Bar.l ≠ [] := fun z => by
    have h0 := congrArg List.length z
    rw [List.length_map, List.length_nil] at h0
    rw [List.eq_nil_of_length_eq_zero h0] at hb
    cases hb
  have mm := maxL_is ne
  have g := mm.2 _ (List.mem_map.mpr ⟨b, hb, rfl⟩)
  obtain ⟨c, hc, ec⟩ := List.mem_map.mp mm.1
  have em : maxL (bs.map Bar.l) = mostL bs := rfl
  rw [em] at g ec
  have := ((h (mostL bs)).mp ⟨by omega, c, hc, ec⟩).2
  omega
theorem BarsG.iff {bs : List Bar} (h : BarsG bs) : ∃ n : Nat, 1 ≤ n ∧ n ≤ 4 ∧ mostL bs = n ∧ ∀ x : Int, (0 < x ∧ ∃ b ∈ bs, b.l = x) ↔ (1 ≤ x ∧ x ≤ n) := by
  have i := h.gap.iff
  obtain ⟨b, hb, e⟩ := h.gap.one
  have := (i 1).mp ⟨by decide, b, hb, e⟩
  refine ⟨_, by omega, ?_, most_of (by omega) i, i⟩
  obtain ⟨_, c, hc, ec⟩ := (i (sortS (lets bs)).length).mpr ⟨by omega, by omega⟩
  obtain ⟨k, hk, rfl⟩ := List.getElem_of_mem hc
  have := (h.fits k _ (List.getElem?_eq_getElem hk)).l4
  omega
theorem BarsG.fit_mem {bs : List Bar} (h : BarsG bs) {b : Bar} (hb : b ∈ bs) : 0 ≤ b.l ∧ b.l ≤ 4 ∧ b.l ≤ mostL bs := by
  obtain ⟨i, hi, rfl⟩ := List.getElem_of_mem hb
  have f := h.fits i _ (List.getElem?_eq_getElem hi)
  obtain ⟨n, n1, _, em, hn⟩ := h.iff
  refine ⟨f.l0, f.l4, ?_⟩
  by_cases c : 0 < bs[i].l
  · have := ((hn bs[i].l).mp ⟨c, _, List.getElem_mem hi, rfl⟩).2
    omega
  · omega
theorem BarsG.most {bs : List Bar} (h : BarsG bs) (hm : ∀ b ∈ bs, Rb 400 b.m) : Most bs := by
  obtain ⟨n, n1, n4, em, _⟩ := h.iff
  refine ⟨⟨h.many.2, fun i b e => ?_, fun b hb => ?_, hm⟩, by omega, by omega⟩
  · have f := h.fits i b e
    exact ⟨f.h1, f.h2⟩
  · have f := h.fit_mem hb
    omega
theorem BarsG.init {bs : List Bar} (h : BarsG bs) {d : D} {ds : List D} (e : seqD d = some ds) (k : BarsOf ds bs) : datRes R_Arms___init__ [d] = .ret (.dat (armD bs)) := by
  rw [e_datRes, init_good ⟨e, k, h.many, h.fits⟩ h.gap]
theorem BarsG.initL {bs : List Bar} (h : BarsG bs) : datRes R_Arms___init__ [.lst (barsT bs)] = .ret (.dat (armD bs)) := h.init rfl (barsOf_T bs)
theorem BarsG.initT {bs : List Bar} (h : BarsG bs) : datRes R_Arms___init__ [.tup (barsT bs)] = .ret (.dat (armD bs)) := h.init rfl (barsOf_T bs)
theorem BarsG.rows {bs : List Bar} (h : BarsG bs) {d : D} {ds : List D} (e : seqD d = some ds) (k : BarsOf ds bs) : GoodRows d ds bs := ⟨e, k, h.many, h.fits⟩
theorem BarsG.map {bs : List Bar} (h : BarsG bs) {f : Bar → Bar} (hh : ∀ b ∈ bs, (f b).h = b.h) (hl : ∀ b ∈ bs, 0 ≤ (f b).l ∧ (f b).l ≤ 4) {n : Nat} (n1 : 1 ≤ n) (hi : ∀ x : Int, (0 < x ∧ ∃ b ∈ bs, (f b).l = x) ↔ (1 ≤ x ∧ x ≤ n)) : BarsG (bs.map f) ∧ mostL (bs.map f) = n := by
  have hi' : ∀ x : Int, (0 < x ∧ ∃ b ∈ bs.map f, b.l = x) ↔ (1 ≤ x ∧ x ≤ n) := fun x => by
    rw [← hi x]
    constructor
    · rintro ⟨a, c, hc, ec⟩
      obtain ⟨b, hb, rfl⟩ := List.mem_map.mp hc
      exact ⟨a, b, hb, ec⟩
    · rintro ⟨a, b, hb, ec⟩
      exact ⟨a, f b, List.mem_map.mpr ⟨b, hb, rfl⟩, ec⟩
  refine ⟨⟨by rw [List.length_map]; exact h.many, fun i b e => ?_, noGap_of n1 hi'⟩, most_of n1 hi'⟩
  rw [List.getElem?_map] at e
  cases e2 : bs[i]? with
  | none => rw [e2] at e; cases e
  | some c =>
    rw [e2] at e
    cases e
    have hc := List.mem_of_getElem? e2
    have g := h.fits i c e2
    have g2 := hl c hc
    exact ⟨by rw [hh c hc]; exact g.h1, by rw [hh c hc]; exact g.h2, g2.1, g2.2⟩
theorem BarsG.map_l {bs : List Bar} (h : BarsG bs) {f : Bar → Bar} (hh : ∀ b ∈ bs, (f b).h = b.h) (hl : ∀ b ∈ bs, (f b).l = b.l) : BarsG (bs.map f) ∧ mostL (bs.map f) = mostL bs := by
  obtain ⟨n, n1, n4, em, hn⟩ := h.iff
  have := h.map (f := f) hh (fun b hb => by have := h.fit_mem hb; rw [hl b hb]; omega) n1 (fun x => by
    rw [← hn x]
    constructor
    · rintro ⟨a, b, hb, e⟩; exact ⟨a, b, hb, by rw [← hl b hb]; exact e⟩
    · rintro ⟨a, b, hb, e⟩; exact ⟨a, b, hb, by rw [hl b hb]; exact e⟩)
  rw [em]
  exact this
/-! ## bars grown, shifted -/
def growB (s : Rat) (b : Bar) : Bar := ⟨b.h, b.m * s, b.l⟩
def shiftB (t : Rat) (b : Bar) : Bar := ⟨b.h, if b.h = -1 then b.m + t else b.m, b.l⟩
theorem addAt_at (f : List Rat) (k j : Nat) (m : Rat) : (addAt f k m).getD j 0 = if k = j ∧ k < f.length then f.getD j 0 + m else f.getD j 0 := by
  unfold addAt
  rw [List.getD_eq_getElem?_getD, List.getElem?_set]
  by_cases c : k = j
  · subst c
    rw [if_pos rfl]
    by_cases d : k < f.length
    · rw [if_pos d, if_pos ⟨rfl, d⟩]; rfl
    · rw [if_neg d, if_neg (fun z => d z.2), List.getD_eq_getElem?_getD, List.getElem?_eq_none (by omega)]
  · rw [if_neg c, if_neg (fun z => c z.1), List.getD_eq_getElem?_getD]
theorem row_ext {f g : List Rat} (hl : f.length = g.length) (h : ∀ j, j < f.length → f.getD j 0 = g.getD j 0) : f = g := by
  apply List.ext_getElem hl
  intro i h1 h2
  have := h i h1
  rw [List.getD_eq_getElem?_getD, List.getD_eq_getElem?_getD, List.getElem?_eq_getElem h1, List.getElem?_eq_getElem h2] at this
  exact this
theorem map_at (f : List Rat) (s : Rat) (j : Nat) : (f.map (· * s)).getD j 0 = f.getD j 0 * s := by
  rw [List.getD_eq_getElem?_getD, List.getD_eq_getElem?_getD, List.getElem?_map]
  cases f[j]? with
  | none => exact (Rat.zero_mul s).symm
  | some r => rfl
theorem addAt_map (f : List Rat) (k : Nat) (m s : Rat) : addAt (f.map (· * s)) k (m * s) = (addAt f k m).map (· * s) := by
  refine row_ext (by simp [addAt_len]) fun j _ => ?_
  rw [addAt_at, map_at, map_at, addAt_at, List.length_map]
  split
  · rw [Rat.add_mul]
  · rfl
theorem addAt_two (f : List Rat) (k : Nat) (a b : Rat) : addAt (addAt f k a) k b = addAt f k (a + b) := by
  refine row_ext (by simp [addAt_len]) fun j _ => ?_
  rw [addAt_at, addAt_at, addAt_at, addAt_len]
  split
  · rw [Rat.add_assoc]
  · rfl
theorem line_grown (bs : List Bar) (s : Rat) : ∀ (k : Nat) (n : Int) (m : Rat) (f : List Rat), lineF (bs.map (growB s)) k n (m * s) (f.map (· * s)) = (lineF bs k n m f).map (· * s) := by
  intro k
  induction k with
  | zero => intro n m f; rfl
  | succ k ih =>
    intro n m f
    by_cases c : n < 0
    · rw [lineF_neg c, lineF_neg c, addAt_map]
    · obtain ⟨i, rfl⟩ := Int.eq_ofNat_of_zero_le (Int.not_lt.mp c)
      cases e : bs[i]? with
      | none =>
        show (if ((i : Nat) : Int) < 0 then _ else _) = List.map _ (if ((i : Nat) : Int) < 0 then _ else _)
        rw [if_neg c, if_neg c, Int.toNat_natCast, List.getElem?_map, e]
        rfl
      | some b =>
        have e2 : (bs.map (growB s))[i]? = some (growB s b) := by rw [List.getElem?_map, e]; rfl
        rw [lineF_pos e, lineF_pos e2, ← ih, ← addAt_map]
        rfl
theorem line_shift {bs : List Bar} {L : Nat} (F : Fit bs L) (t : Rat) : ∀ (k : Nat) (n : Int) (m : Rat) (f : List Rat), -1 ≤ n → n < k → n < bs.length → lineF (bs.map (shiftB t)) (k + 1) n (if n = -1 then m + t else m) f = addAt (lineF bs (k + 1) n m f) 0 t := by
  intro k
  induction k with
  | zero =>
    intro n m f h1 h2 h3
    rw [lineF_neg (by omega), lineF_neg (by omega), if_pos (by omega), addAt_two]
  | succ k ih =>
    intro n m f h1 h2 h3
    by_cases c : n < 0
    · rw [lineF_neg c, lineF_neg c, if_pos (by omega), addAt_two]
    · rw [if_neg (by omega)]
      obtain ⟨i, rfl⟩ := Int.eq_ofNat_of_zero_le (Int.not_lt.mp c)
      have hi : i < bs.length := by omega
      have e := List.getElem?_eq_getElem hi
      have e2 : (bs.map (shiftB t))[i]? = some (shiftB t bs[i]) := by rw [List.getElem?_map, e]; rfl
      have hh := F.host i _ e
      rw [lineF_pos e, lineF_pos e2, ← ih _ _ _ hh.1 (by omega) (by omega)]
      rfl
theorem zeros_map (q : Nat) (s : Rat) : (List.replicate q (0 : Rat)).map (· * s) = List.replicate q 0 := by
  rw [List.map_replicate, Rat.zero_mul]
theorem row_grown {bs : List Bar} (B : BarsG bs) (s : Rat) (n : Int) (m : Rat) : rowF (bs.map (growB s)) n (m * s) = (rowF bs n m).map (· * s) := by
  have e := (B.map_l (f := growB s) (fun _ _ => rfl) (fun _ _ => rfl)).2
  unfold rowF
  rw [e, List.length_map]
  conv => lhs; rw [← zeros_map _ s]
  exact line_grown _ _ _ _ _ _
theorem row_shift {bs : List Bar} (B : BarsG bs) (M : Most bs) (t : Rat) {n : Int} (m : Rat) (h1 : -1 ≤ n) (h2 : n < bs.length) : rowF (bs.map (shiftB t)) n (if n = -1 then m + t else m) = addAt (rowF bs n m) 0 t := by
  have e := (B.map_l (f := shiftB t) (fun _ _ => rfl) (fun _ _ => rfl)).2
  unfold rowF
  rw [e, List.length_map]
  exact line_shift M.fit t _ _ _ _ h1 h2 h2
end Law
set_option Elab.async false
set_option linter.all false
set_option maxRecDepth 100000
set_option maxHeartbeats 8000000
namespace Fd
open PySem PySem.Spec PyProof.Rows L2
theorem seqF_go {a b : M Fl} {s s' : S} {r : Out Fl} (h : a s = .ok .nx s') (k : b s' = r) : seqF a b s = r := by
  rw [e_seqF, h]
  exact k
theorem seqF_rt {a b : M Fl} {s s' : S} {r : RV} (h : a s = .ok (.rt r) s') : seqF a b s = .ok (.rt r) s' := by
  rw [e_seqF, h]
theorem seqF_x {a b : M Fl} {s s' : S} {x : Exn} (h : a s = .exc x s') : seqF a b s = .exc x s' := by
  rw [e_seqF, h]
theorem asgF_go {m : M RV} {f : SV → M Unit} {s s1 s2 : S} {x : SV} (h : m s = .ok (.sv x) s1) (k : f x s1 = .ok () s2) : asgF m f s = .ok .nx s2 := by
  simp [h, k]
theorem ifF_t {c : M Bool} {a b : M Fl} {s s' : S} {r : Out Fl} (h : c s = .ok true s') (k : a s' = r) : ifF c a b s = r := by
  simp [h, k]
theorem ifF_f {c : M Bool} {a b : M Fl} {s s' : S} {r : Out Fl} (h : c s = .ok false s') (k : b s' = r) : ifF c a b s = r := by
  simp [h, k]
theorem runH_go {n : Nat} {m : M Fl} {xs : List SV} {h h' : Hand} {d : D} {s : S} (k : m (startH n xs h) = .ok (.rt (RD d)) s) (e : s.hd = some (.hand h')) : runH n m xs h = (.ret (.dat d), h') := by
  unfold runH
  rw [k]
  simp [e]
theorem runP_go {n : Nat} {m : M Fl} {ds : List D} {d : D} {s : S} (k : m (startP n ds) = .ok (.rt (RD d)) s) : runP n m ds = .ret (.dat d) := by
  unfold runP
  rw [k, e_resP2]
theorem runP_x {n : Nat} {m : M Fl} {ds : List D} {x : Exn} {s : S} (k : m (startP n ds) = .exc x s) : runP n m ds = .exc x := by
  unfold runP
  rw [k, e_resP4]
theorem forF_go {mi : M Src} {f : SV → M Unit} {b : M Fl} {s s1 : S} {src : Src} {r : Out Fl} (h : mi s = .ok src s1) (k : forL src.Ok f b src.items s1 = r) : forF mi f b s = r := by
  rw [e_forF, h]
  exact k
theorem orT_s {a b : M Bool} {s : S} (h : a s = .ok false s) (k : b s = .ok false s) : orT a b s = .ok false s := by
  simp [h, k]
theorem notT_s {m : M RV} {s : S} (h : m s = .ok (RB true) s) : notT (bnd m truthM) s = .ok false s := by
  simp [h]
theorem ne_s {m1 m3' : M RV} {d : D} (o : okD d = true) (q : eqD d d = true) {st : S} (e1 : m1 st = .ok (RD d) st) (e2 : m3' st = .ok (RD d) st) : bnd (m2 m1 m3' neM) asB st = .ok false st := by
  simp [e1, e2, o, q]
theorem get_at {i : Nat} {x : SV} {s : S} (e : s.env[i]? = some (some x)) : getV i s = .ok (.sv x) s := by
  simp [e]
theorem forL_inv {ok : S → Prop} {f : SV → M Unit} {b : M Fl} (P : S → Prop) (hok : ∀ s, P s → ok s) : ∀ xs : List SV, (∀ x ∈ xs, ∀ s, P s → ∃ s1 s2, f x s = .ok () s1 ∧ b s1 = .ok .nx s2 ∧ P s2) → ∀ s, P s → ∃ s', forL ok f b xs s = .ok .nx s' ∧ P s' := by
  intro xs
  induction xs with
  | nil => intro _ s hs; exact ⟨s, if_pos (hok s hs), hs⟩
  | cons x xs ih =>
    intro h s hs
    obtain ⟨s1, s2, h1, h2, h3⟩ := h x List.mem_cons_self s hs
    obtain ⟨s', h4, h5⟩ := ih (fun y hy => h y (List.mem_cons_of_mem _ hy)) s2 h3
    refine ⟨s', ?_, h5⟩
    conv => lhs; unfold forL
    rw [if_pos (hok s hs), h1]
    simp only [h2]
    exact h4
theorem lcL_list {β : Type} {l : List SV} {vs : List Nat} {f : SV → M Unit} {tt : M Bool} {me : M RV} {st : S} (enc out : β → SV) : ∀ (bs : List β) (acc : List SV), acc.length + bs.length ≤ 100000 →
    (∀ b ∈ bs, ∃ s1 s2 s3, f (enc b) st = .ok () s1 ∧ tt s1 = .ok true s2 ∧ me s2 = .ok (.sv (out b)) s3 ∧ wipeS vs s3 = st) → lcL (Src.mk l none).Ok vs f tt me (bs.map enc) acc st = .ok (.new (acc ++ bs.map out)) st := by
  intro bs
  induction bs with
  | nil => intro acc _ _; rw [List.map_nil, List.map_nil, List.append_nil]; exact if_pos trivial
  | cons b bs ih =>
    intro acc hl h
    rw [List.length_cons] at hl
    obtain ⟨s1, s2, s3, h1, h2, h3, h4⟩ := h b List.mem_cons_self
    rw [List.map_cons, lcL_step h1 h2 h3 (by omega), h4, ih (acc ++ [out b]) (by simp; omega) fun c hc => h c (List.mem_cons_of_mem _ hc), List.append_assoc]
    rfl
end Fd
namespace Law
open PySem PySem.Spec PyProof.Rows L2 Fd
/-! ## orders of the letters -/
structure Ord (n : Nat) (o : List Int) : Prop where
  perm : o.Perm (upto n)
theorem upto_le (n : Nat) : (upto n).Pairwise (· ≤ ·) := (upto_up n).imp fun h => by omega
theorem sort_upto {n : Nat} {o : List Int} (O : Ord n o) : sortI o = upto n := up_perm (sortI_up o) (upto_le n) ((sortI_perm o).trans O.perm)
theorem Ord.len {n : Nat} {o : List Int} (O : Ord n o) : o.length = n := O.perm.length_eq.trans (upto_len n)
theorem Ord.bnd {n : Nat} {o : List Int} (O : Ord n o) {x : Int} (h : x ∈ o) : 1 ≤ x ∧ x ≤ n := mem_upto.mp (O.perm.mem_iff.mp h)
theorem Ord.nodup {n : Nat} {o : List Int} (O : Ord n o) : ((0 : Int) :: o).Nodup := by
  refine List.nodup_cons.mpr ⟨fun h => by have := O.bnd h; omega, ?_⟩
  refine O.perm.symm.nodup ?_
  exact (upto_up n).imp fun h => by omega
def nI (o : List Int) (j : Nat) : Int := ((0 : Int) :: o).getD j 0
theorem nI_0 (o : List Int) : nI o 0 = 0 := rfl
theorem nI_s {o : List Int} {j : Nat} (h : j < o.length) : nI o (j + 1) = o[j] := by
  unfold nI
  rw [List.getD_eq_getElem?_getD, List.getElem?_cons_succ, List.getElem?_eq_getElem h]
  rfl
section
variable {n : Nat} {o : List Int} (O : Ord n o)
include O
theorem nI_bnd {j : Nat} (h : j ≤ n) : 0 ≤ nI o j ∧ nI o j ≤ n ∧ (1 ≤ j → 1 ≤ nI o j) := by
  cases j with
  | zero => rw [nI_0]; omega
  | succ j =>
    have hj : j < o.length := by rw [O.len]; omega
    rw [nI_s hj]
    have := O.bnd (List.getElem_mem hj)
    omega
theorem nI_inj {i j : Nat} (hi : i ≤ n) (hj : j ≤ n) (e : nI o i = nI o j) : i = j := by
  have l : ((0 : Int) :: o).length = n + 1 := by rw [List.length_cons, O.len]
  have h1 : i < ((0 : Int) :: o).length := by omega
  have h2 : j < ((0 : Int) :: o).length := by omega
  unfold nI at e
  rw [List.getD_eq_getElem?_getD, List.getD_eq_getElem?_getD, List.getElem?_eq_getElem h1, List.getElem?_eq_getElem h2] at e
  exact (List.getElem_inj O.nodup).mp e
theorem nI_sur {x : Int} (h1 : 1 ≤ x) (h2 : x ≤ n) : ∃ j : Nat, 1 ≤ j ∧ j ≤ n ∧ nI o j = x := by
  obtain ⟨j, hj, e⟩ := List.getElem_of_mem (O.perm.mem_iff.mpr (mem_upto.mpr ⟨h1, h2⟩))
  have := O.len
  exact ⟨j + 1, by omega, by omega, (nI_s hj).trans e⟩
end
def nameB (o : List Int) (b : Bar) : Bar := ⟨b.h, b.m, nI o b.l.toNat⟩
theorem BarsG.named {bs : List Bar} (h : BarsG bs) {n : Nat} (em : mostL bs = n) {o : List Int} (O : Ord n o) : BarsG (bs.map (nameB o)) ∧ mostL (bs.map (nameB o)) = n := by
  obtain ⟨n', n1, n4, em', hn⟩ := h.iff
  have e : n' = n := by omega
  subst e
  refine h.map (f := nameB o) (fun _ _ => rfl) (fun b hb => ?_) n1 fun x => ?_
  · have := h.fit_mem hb
    have := nI_bnd O (j := b.l.toNat) (by omega)
    show 0 ≤ nI o b.l.toNat ∧ nI o b.l.toNat ≤ 4
    omega
  · constructor
    · rintro ⟨a, b, hb, rfl⟩
      have := h.fit_mem hb
      have := nI_bnd O (j := b.l.toNat) (by omega)
      have a' : 0 < nI o b.l.toNat := a
      show 1 ≤ nI o b.l.toNat ∧ nI o b.l.toNat ≤ _
      omega
    · rintro ⟨a, c⟩
      obtain ⟨j, j1, j2, rfl⟩ := nI_sur O a c
      obtain ⟨_, b, hb, e⟩ := (hn j).mpr ⟨by omega, by omega⟩
      exact ⟨by omega, b, hb, by show nI o b.l.toNat = _; rw [e, Int.toNat_natCast]⟩
structure Led (n : Nat) (o : List Int) (f g : List Rat) : Prop where
  lf : f.length = n + 1
  lg : g.length = n + 1
  eq : ∀ j, j ≤ n → g.getD (nI o j).toNat 0 = f.getD j 0
theorem Led.add {n : Nat} {o : List Int} (O : Ord n o) {f g : List Rat} (h : Led n o f g) {l : Nat} (hl : l ≤ n) (m : Rat) : Led n o (addAt f l m) (addAt g (nI o l).toNat m) := by
  refine ⟨(addAt_len _ _ _).trans h.lf, (addAt_len _ _ _).trans h.lg, fun j hj => ?_⟩
  have b1 := nI_bnd O hl
  have b2 := nI_bnd O hj
  rw [addAt_at, addAt_at, h.eq j hj, h.lf, h.lg]
  by_cases c : l = j
  · subst c
    rw [if_pos ⟨rfl, by omega⟩, if_pos ⟨rfl, by omega⟩]
  · rw [if_neg (fun z => c (nI_inj O hl hj (by have := z.1; omega))), if_neg (fun z => c z.1)]
theorem line_named {bs : List Bar} {n : Nat} (hb : ∀ b ∈ bs, 0 ≤ b.l ∧ b.l ≤ n) {o : List Int} (O : Ord n o) : ∀ (k : Nat) (p : Int) (m : Rat) (f g : List Rat), Led n o f g → Led n o (lineF bs k p m f) (lineF (bs.map (nameB o)) k p m g) := by
  intro k
  induction k with
  | zero => intro p m f g h; exact h
  | succ k ih =>
    intro p m f g h
    by_cases c : p < 0
    · rw [lineF_neg c, lineF_neg c]
      exact h.add O (Nat.zero_le _) m
    · obtain ⟨i, rfl⟩ := Int.eq_ofNat_of_zero_le (Int.not_lt.mp c)
      cases e : bs[i]? with
      | none =>
        have e2 : (bs.map (nameB o))[i]? = none := by rw [List.getElem?_map, e]; rfl
        show Led n o (if ((i : Nat) : Int) < 0 then _ else _) (if ((i : Nat) : Int) < 0 then _ else _)
        rw [if_neg c, if_neg c, Int.toNat_natCast, e, e2]
        exact h
      | some b =>
        have e2 : (bs.map (nameB o))[i]? = some (nameB o b) := by rw [List.getElem?_map, e]; rfl
        rw [lineF_pos e, lineF_pos e2]
        have := hb b (List.mem_of_getElem? e)
        exact ih _ _ _ _ (h.add O (l := b.l.toNat) (by omega) m)
theorem zero_at (q j : Nat) : (List.replicate q (0 : Rat)).getD j 0 = 0 := by
  rw [List.getD_eq_getElem?_getD, List.getElem?_replicate]
  split <;> rfl
theorem row_named {bs : List Bar} (B : BarsG bs) {n : Nat} (em : mostL bs = n) {o : List Int} (O : Ord n o) (p : Int) (m : Rat) : Led n o (rowF bs p m) (rowF (bs.map (nameB o)) p m) := by
  have e := (B.named em O).2
  unfold rowF
  rw [e, em, List.length_map]
  refine line_named (fun b hb => by have := B.fit_mem hb; omega) O _ _ _ _ _ ⟨by simp, by simp, fun j _ => ?_⟩
  rw [zero_at, zero_at]
end Law
set_option Elab.async false
set_option linter.all false
set_option maxRecDepth 100000
set_option maxHeartbeats 8000000
namespace Fd
open PySem PySem.Spec PyProof.Rows L2
theorem forL_x {l : List SV} {f : SV → M Unit} {b : M Fl} {x : SV} {xs : List SV} {s s1 s2 : S} {e : Exn} (h1 : f x s = .ok () s1) (h2 : b s1 = .exc e s2) : forL (Src.mk l none).Ok f b (x :: xs) s = .exc e s2 := by
  rw [forL1, h1]
  simp only [h2]
end Fd
namespace Law
open PySem PySem.Spec PyProof.Rows L2 Fd
theorem ints_sv (l : List Int) : (intsD l).map SV.dat = intsS l := by simp [intsS, intsD]
theorem ints_len (l : List Int) : (intsD l).length = l.length := by simp [intsD]
theorem ne_new (a b : List Int) (s : S) : neM (.new (intsS a)) (.new (intsS b)) s = .ok (RB (!decide (a = b))) s := by
  have e : ∀ l, deep s (.new (intsS l)) = some (.lst (intsD l)) := fun l => by
    show (match datL (intsS l) with
      | some ds => some (D.lst ds)
      | none => none) = _
    rw [← ints_sv, datL_map]
  have e2 : eqD (.lst (intsD a)) (.lst (intsD b)) = decide (a = b) := by rw [eqD_lst]; exact eq_ints a b
  unfold neM
  rw [e, e]
  simp only []
  rw [if_pos (okD_ints a), if_pos (okD_ints b), e2]
theorem seq_src {d : D} {ds : List D} (e : seqD d = some ds) (s : S) : seqSrc (RD d) s = .ok ⟨ds.map SV.dat, none⟩ s := by
  rcases seq_cases e with rfl | rfl <;> simp
theorem seq_sort {d : D} {l : List Int} (e : seqD d = some (intsD l)) (s : S) : sortedM [RD d] s = .ok (.new (intsS (sortI l))) s := by
  rcases seq_cases e with rfl | rfl <;> simp [ints_sv] <;> rfl
theorem seq_tup {d : D} {ds : List D} (e : seqD d = some ds) (s : S) : tupleM [RD d] s = .ok (RT ds) s := by
  rcases seq_cases e with rfl | rfl <;> simp
/-! ## check_order -/
noncomputable abbrev coB : M Fl := (ifF (notT (bnd (bnd (consA (getV 2) (consA (pur (RI 1)) (consA (getV 0) (pur [])))) (callM 3 R_is_whole [])) truthM)) (raise0F 3) (pur .nx))
theorem co_step {n : Int} {d : SV} {x : D} {b : Bool} (h : R_is_whole [x, .int 1, .int n] = .ret (.dat (.bl b))) : coB ⟨[some (.dat (.int n)), some d, some (.dat x)], [], none⟩ = if b = true then .ok .nx ⟨[some (.dat (.int n)), some d, some (.dat x)], [], none⟩ else .exc ⟨3, []⟩ ⟨[some (.dat (.int n)), some d, some (.dat x)], [], none⟩ := by
  cases b <;> simp [h, raise0F]
theorem co_pass {l : List SV} {n : Int} {d : SV} : ∀ (ds : List D) (x : Option SV), (∀ y ∈ ds, R_is_whole [y, .int 1, .int n] = .ret (.dat (.bl true))) → ∃ x', forL (Src.mk l none).Ok (setV 2) coB (ds.map SV.dat) ⟨[some (.dat (.int n)), some d, x], [], none⟩ = .ok .nx ⟨[some (.dat (.int n)), some d, x'], [], none⟩ := by
  intro ds
  induction ds with
  | nil => intro x _; exact ⟨x, forL0 _⟩
  | cons y ds ih =>
    intro x h
    obtain ⟨x', e⟩ := ih (some (.dat y)) fun z hz => h z (List.mem_cons_of_mem _ hz)
    exact ⟨x', (forL_step (s1 := ⟨[some (.dat (.int n)), some d, some (.dat y)], [], none⟩) rfl (co_step (h y List.mem_cons_self))).trans e⟩
theorem co_fail {l : List SV} {n : Int} {d : SV} : ∀ (ds : List D) (x : Option SV), (∀ y ∈ ds, ∃ b, R_is_whole [y, .int 1, .int n] = .ret (.dat (.bl b))) → (∃ y ∈ ds, R_is_whole [y, .int 1, .int n] = .ret (.dat (.bl false))) → ∃ s', forL (Src.mk l none).Ok (setV 2) coB (ds.map SV.dat) ⟨[some (.dat (.int n)), some d, x], [], none⟩ = .exc ⟨3, []⟩ s' := by
  intro ds
  induction ds with
  | nil => rintro x _ ⟨y, hy, _⟩; cases hy
  | cons y ds ih =>
    rintro x h ⟨z, hz, ez⟩
    obtain ⟨b, eb⟩ := h y List.mem_cons_self
    cases b with
    | false => exact ⟨_, forL_x (s1 := ⟨[some (.dat (.int n)), some d, some (.dat y)], [], none⟩) rfl (co_step eb)⟩
    | true =>
      have hz' : z ∈ ds := by
        rcases List.mem_cons.mp hz with rfl | hz
        · rw [eb] at ez; cases ez
        · exact hz
      obtain ⟨s', e⟩ := ih (some (.dat y)) (fun w hw => h w (List.mem_cons_of_mem _ hw)) ⟨z, hz', ez⟩
      exact ⟨s', (forL_step (s1 := ⟨[some (.dat (.int n)), some d, some (.dat y)], [], none⟩) rfl (co_step eb)).trans e⟩
section
variable {n : Nat} {d : D}
theorem co_row (h : R_is_row [d, .int (n : Nat), .int (n : Nat)] = .ret (.dat (.bl false))) : R_check_order [.int (n : Nat), d] = .exc ⟨3, []⟩ := by
  simp [R_check_order, m_check_order, h, raise0F]
theorem row_n {ds : List D} (e : seqD d = some ds) (hl : ds.length = n) : R_is_row [d, .int (n : Nat), .int (n : Nat)] = .ret (.dat (.bl true)) := by
  rw [row_seq e, decide_eq_true (by omega)]
theorem co_entry {ds : List D} (e : seqD d = some ds) (hl : ds.length = n) (h : ∀ y ∈ ds, ∃ b, R_is_whole [y, .int 1, .int (n : Nat)] = .ret (.dat (.bl b))) (k : ∃ y ∈ ds, R_is_whole [y, .int 1, .int (n : Nat)] = .ret (.dat (.bl false))) : R_check_order [.int (n : Nat), d] = .exc ⟨3, []⟩ := by
  obtain ⟨s', q⟩ := co_fail (l := ds.map SV.dat) (d := .dat d) ds none h k
  have r := row_n e hl
  refine runP_x (s := s') ?_
  unfold m_check_order
  refine seqF_go (s' := ⟨[some (.dat (.int (n : Nat))), some (.dat d), none], [], none⟩) (by simp [r]) ?_
  refine seqF_x (forF_go (src := ⟨ds.map SV.dat, none⟩) (s1 := ⟨[some (.dat (.int (n : Nat))), some (.dat d), none], [], none⟩) ?_ q)
  simp [seq_src e]
section
variable {l : List Int} (e : seqD d = some (intsD l)) (hl : l.length = n) (hb : ∀ x ∈ l, 1 ≤ x ∧ x ≤ n) (n4 : n ≤ 4)
include e hl hb n4
theorem co_to : ∃ x, ∀ r s, (seqF ((ifF (bnd (m2 (bnd (consB (getV 1) (pur [])) sortedM) (m2 (pur (RI 1)) (m2 (getV 0) (pur (RI 1)) addM) lrM) neM) asB) (raise0F 3) (pur .nx))) ((retF (bnd (consB (getV 1) (pur [])) tupleM)))) ⟨[some (.dat (.int (n : Nat))), some (.dat d), x], [], none⟩ = .ok (.rt (RD r)) s → R_check_order [.int (n : Nat), d] = .ret (.dat r) := by
  obtain ⟨x', q⟩ := co_pass (l := (intsD l).map SV.dat) (d := .dat d) (n := (n : Nat)) (intsD l) none fun y hy => by
    obtain ⟨x, hx, rfl⟩ := List.mem_map.mp hy
    rw [w_both, decide_eq_true (hb x hx)]
  have r := row_n (n := n) e (by rw [ints_len]; exact hl)
  refine ⟨x', fun v s h => runP_go (s := s) ?_⟩
  unfold m_check_order
  refine seqF_go (s' := ⟨[some (.dat (.int (n : Nat))), some (.dat d), none], [], none⟩) (by simp [r]) ?_
  refine seqF_go (forF_go (src := ⟨(intsD l).map SV.dat, none⟩) (s1 := ⟨[some (.dat (.int (n : Nat))), some (.dat d), none], [], none⟩) ?_ q) h
  simp [seq_src e]
theorem co_test (x : Option SV) (b : Bool) (hbb : b = !decide (sortI l = upto n)) : ((bnd (m2 (bnd (consB (getV 1) (pur [])) sortedM) (m2 (pur (RI 1)) (m2 (getV 0) (pur (RI 1)) addM) lrM) neM) asB)) ⟨[some (.dat (.int (n : Nat))), some (.dat d), x], [], none⟩ = .ok b ⟨[some (.dat (.int (n : Nat))), some (.dat d), x], [], none⟩ := by
  have q := fun s => seq_sort e s
  have u := fun s => lr_upto (n := n) (by omega) s
  have w := fun s => ne_new (sortI l) (upto n) s
  rw [ints_sv] at u
  subst hbb
  generalize intsS (upto n) = U at *
  generalize intsS (sortI l) = V at *
  simp [q, u, w, -e_neM, -e_lrM, Int.add_comm]
end
theorem co_good {o : List Int} (O : Ord n o) (n4 : n ≤ 4) (e : seqD d = some (intsD o)) : R_check_order [.int (n : Nat), d] = .ret (.dat (.tup (intsD o))) := by
  obtain ⟨x, q⟩ := co_to e O.len (fun x hx => O.bnd hx) n4
  have t := co_test e O.len (fun x hx => O.bnd hx) n4 x false (by rw [decide_eq_true (sort_upto O)]; rfl)
  refine q _ ⟨[some (.dat (.int (n : Nat))), some (.dat d), x], [], none⟩ (seqF_go (ifF_f t rfl) ?_)
  have z := seq_tup e
  simp [z]
theorem co_unsort {o : List Int} (e : seqD d = some (intsD o)) (hl : o.length = n) (hb : ∀ x ∈ o, 1 ≤ x ∧ x ≤ n) (n4 : n ≤ 4) (h : sortI o ≠ upto n) : R_check_order [.int (n : Nat), d] = .exc ⟨3, []⟩ := by
  obtain ⟨x', q⟩ := co_pass (l := (intsD o).map SV.dat) (d := .dat d) (n := (n : Nat)) (intsD o) none fun y hy => by
    obtain ⟨x, hx, rfl⟩ := List.mem_map.mp hy
    rw [w_both, decide_eq_true (hb x hx)]
  have r := row_n (n := n) e (by rw [ints_len]; exact hl)
  have t := co_test e hl hb n4 x' true (by rw [decide_eq_false h]; rfl)
  refine runP_x (s := ⟨[some (.dat (.int (n : Nat))), some (.dat d), x'], [], none⟩) ?_
  unfold m_check_order
  refine seqF_go (s' := ⟨[some (.dat (.int (n : Nat))), some (.dat d), none], [], none⟩) (by simp [r]) ?_
  refine seqF_go (forF_go (src := ⟨(intsD o).map SV.dat, none⟩) (s1 := ⟨[some (.dat (.int (n : Nat))), some (.dat d), none], [], none⟩) (by simp [seq_src e]) q) ?_
  exact seqF_x (ifF_t t rfl)
theorem co_dup {a : Int} (h : 2 ≤ n) (n4 : n ≤ 4) (ha : 1 ≤ a ∧ a ≤ n) (e : seqD d = some (intsD (List.replicate n a))) : R_check_order [.int (n : Nat), d] = .exc ⟨3, []⟩ := by
  refine co_unsort e (by simp) (fun x hx => by rw [List.eq_of_mem_replicate hx]; exact ha) n4 fun z => ?_
  have O : Ord n (List.replicate n a) := ⟨by rw [← z]; exact (sortI_perm _).symm⟩
  have := O.nodup
  obtain ⟨k, rfl⟩ : ∃ k, n = k + 2 := ⟨n - 2, by omega⟩
  rw [List.replicate_succ, List.replicate_succ] at this
  simp at this
end
/-! ## a drawn order -/
theorem upto_range (n : Nat) : (List.range n).map (fun i : Nat => SV.dat (.int (1 + (i : Int)))) = intsS (upto n) := by
  unfold intsS upto
  rw [List.map_map]
  rfl
noncomputable abbrev loB : M Fl := (seqF (asgF (bnd (consA (getV 0) (consA (m2 (getV 3) (pur (RI 1)) addM) (pur []))) (callH 2 R_law_take [])) (setV 4))
    (asgF (bnd (consA (m2 (getV 2) (getV 4) ixM) (consA (m2 (getV 2) (getV 3) ixM) (pur []))) tupM) (seqG (consG (subG (getV 2) (getV 3)) (consG (subG (getV 2) (getV 4)) nilG)) 2)))
theorem lo_shuf {l : List SV} (m : Nat) (m6 : m ≤ 6) : ∀ (i : Nat) (row : List Int) (a b : Option SV) (h : Hand), row.length = m → i < m → ∃ (row' : List Int) (a' b' : Option SV) (h' : Hand),
    forL (Src.mk l none).Ok (setV 3) loB (downL i i) ⟨[some .hand, some (.dat (.int (m : Nat))), some (.ref 0), a, b], [some (intsS row)], some h⟩
      = .ok .nx ⟨[some .hand, some (.dat (.int (m : Nat))), some (.ref 0), a', b'], [some (intsS row')], some h'⟩ ∧ row'.Perm row := by
  intro i
  induction i with
  | zero => intro row a b h _ _; exact ⟨row, a, b, h, forL0 _, .refl _⟩
  | succ i ih =>
    intro row a b h hl hi
    obtain ⟨t, h1, e1, t0, t1⟩ := take_ex (n := ((i + 1 : Nat) : Int) + 1) h (lg9 ⟨by omega, by omega⟩)
    obtain ⟨k, rfl⟩ := Int.eq_ofNat_of_zero_le t0
    have hk : k < row.length := by omega
    have hi' : i + 1 < row.length := by omega
    obtain ⟨row', a', b', h2, e2, p2⟩ := ih ((row.set (i + 1) row[k]).set k row[i + 1]) (some (.dat (.int ((i + 1 : Nat) : Int)))) (some (.dat (.int (k : Int)))) h1 (by simp [hl]) (by omega)
    refine ⟨row', a', b', h2, ?_, p2.trans (List.set_set_perm hi' hk)⟩
    rw [downL_cons, forL1]
    have g1 : atI (intsS row) (k : Int) = some (.dat (.int row[k])) := by rw [atI_nat (by rw [intsS_len]; exact hk), intsS_get hk]
    have g2 : atI (intsS row) ((i + 1 : Nat) : Int) = some (.dat (.int row[i + 1])) := by rw [atI_nat (by rw [intsS_len]; exact hi'), intsS_get hi']
    have g3 : ixN (intsS row).length ((i + 1 : Nat) : Int) = some (i + 1) := ixN_nat (by rw [intsS_len]; exact hi')
    have g4 : ∀ x, ixN (intsS (row.set (i + 1) x)).length (k : Int) = some k := fun x => ixN_nat (by rw [intsS_len]; simpa using hk)
    have g5 : (((i + 1 : Nat) : Int) - 1) = (i : Int) := by omega
    rw [g5]
    generalize ((i + 1 : Nat) : Int) = c at *
    generalize ((m : Nat) : Int) = mm at *
    simp [e1, g1, g2, g3, g4, intsS_set, e2]
theorem v_order {n : Nat} (n1 : 1 ≤ n) (n4 : n ≤ 4) (h : Hand) : ∃ (o : List Int) (h' : Hand), R_law_order [.hand, .dat (.int (n : Nat))] h = (.ret (.dat (.tup (intsD o))), h') ∧ Ord n o := by
  have lc := fun l => lcL_list (l := l) (vs := [3]) (f := setV 3) (tt := pur true) (me := m2 (getV 3) (pur (RI 1)) addM) (st := ⟨[some .hand, some (.dat (.int (n : Nat))), none, none, none], [], some h⟩) (fun i : Nat => SV.dat (.int (0 + (i : Nat)))) (fun i : Nat => SV.dat (.int (1 + (i : Nat)))) (List.range n) [] (by simp; omega) fun i _ =>
    ⟨⟨[some .hand, some (.dat (.int (n : Nat))), none, some (.dat (.int (0 + (i : Nat)))), none], [], some h⟩, ⟨[some .hand, some (.dat (.int (n : Nat))), none, some (.dat (.int (0 + (i : Nat)))), none], [], some h⟩, ⟨[some .hand, some (.dat (.int (n : Nat))), none, some (.dat (.int (0 + (i : Nat)))), none], [], some h⟩, rfl, rfl, by simp; omega, rfl⟩
  rw [List.nil_append, upto_range] at lc
  have lc' : ∀ l, lcL (Src.mk l none).Ok [3] (setV 3) (pur true) (m2 (getV 3) (pur (RI 1)) addM) (rangeL 0 n) [] ⟨[some .hand, some (.dat (.int (n : Nat))), none, none, none], [], some h⟩ = .ok (.new (intsS (upto n))) ⟨[some .hand, some (.dat (.int (n : Nat))), none, none, none], [], some h⟩ := lc
  obtain ⟨row, a', b', h3, e3, p⟩ := lo_shuf (l := downL ((n - 1 : Nat) : Int) (n - 1)) n (by omega) (n - 1) (upto n) none none h (upto_len n) (by omega)
  refine ⟨row, h3, ?_, ⟨p⟩⟩
  have d : datL (intsS row) = some (intsD row) := by rw [← ints_sv, datL_map]
  have c1 : (-4611686018427387904 : Int) ≤ n := by omega
  have c2 : (n : Int) < 4611686018427387904 := by omega
  have c3 : ((n : Int) - 1) = ((n - 1 : Nat) : Int) := by omega
  have c4 : (-4611686018427387904 : Int) ≤ ((n - 1 : Nat) : Int) := by omega
  have c5 : ((n - 1 : Nat) : Int) < 4611686018427387904 := by omega
  clear lc
  unfold loB at e3
  generalize intsS (upto n) = U at *
  generalize intsS row = V at *
  simp [R_law_order, m_law_order, c1, c2, lc', c3, c4, c5, e3, d]
end Law
set_option Elab.async false
set_option linter.all false
set_option maxRecDepth 100000
set_option maxHeartbeats 8000000
namespace Law
open PySem PySem.Spec PyProof.Rows L2 Fd
abbrev bS : Bar → SV := fun b => .dat (.tup (barL b))
theorem bars_sv (bs : List Bar) : (barsT bs).map SV.dat = bs.map bS := by
  unfold barsT
  rw [List.map_map]
  rfl
theorem comp_bars {l : List SV} {vs : List Nat} {f : SV → M Unit} {tt : M Bool} {me : M RV} {st : S} (g : Bar → Bar) {bs : List Bar} (hl : bs.length ≤ 6)
    (h : ∀ b ∈ bs, ∃ s1 s2 s3, f (bS b) st = .ok () s1 ∧ tt s1 = .ok true s2 ∧ me s2 = .ok (.sv (bS (g b))) s3 ∧ wipeS vs s3 = st) : lcL (Src.mk l none).Ok vs f tt me ((barsT bs).map SV.dat) [] st = .ok (.new ((barsT (bs.map g)).map SV.dat)) st := by
  have q := lcL_list (l := l) (vs := vs) (f := f) (tt := tt) (me := me) (st := st) bS (fun b => bS (g b)) bs [] (by simp; omega) h
  rw [bars_sv, q, List.nil_append, bars_sv, List.map_map]
  rfl
section
variable {bs : List Bar} (B : BarsG bs)
/-! ## grown -/
theorem gr_good (B : BarsG bs) {s : Rat} (hs : 0 < s.num) (sz : Rb 160 s) (hm : ∀ b ∈ bs, Rb 400 b.m) : R_Arms_grown [armD bs, qr s] = .ret (.dat (armD (bs.map (growB s)))) := by
  have q := fun l => comp_bars (l := l) (vs := [2, 3, 4]) (f := seqG (consG (setV 2) (consG (setV 3) (consG (setV 4) nilG))) 3) (tt := pur true) (me := bnd (consA (getV 2) (consA (bnd (consA (getV 3) (consA (getV 1) (pur []))) (callM 2 R_times [])) (consA (getV 4) (pur [])))) tupM) (st := ⟨[some (.dat (armD bs)), some (.dat (qr s)), none, none, none], [], none⟩) (growB s) B.many.2 fun b hb =>
    ⟨⟨[some (.dat (armD bs)), some (.dat (qr s)), some (.dat (.int b.h)), some (.dat (qr b.m)), some (.dat (.int b.l))], [], none⟩, ⟨[some (.dat (armD bs)), some (.dat (qr s)), some (.dat (.int b.h)), some (.dat (qr b.m)), some (.dat (.int b.l))], [], none⟩, ⟨[some (.dat (armD bs)), some (.dat (qr s)), some (.dat (.int b.h)), some (.dat (qr b.m)), some (.dat (.int b.l))], [], none⟩, by unfold bS barL; simp, rfl, by
      have e := r_times (hm b hb) sz
      unfold bS barL growB
      generalize armD bs = A
      simp [e], rfl⟩
  have ini := (B.map_l (f := growB s) (fun _ _ => rfl) (fun _ _ => rfl)).1.initL
  have ab := r_above (r := s)
  rw [decide_eq_true hs] at ab
  have d := datL_map (barsT (bs.map (growB s)))
  unfold armD at q
  generalize armD (bs.map (growB s)) = A2 at *
  unfold armD
  generalize barsT (bs.map (growB s)) = T2 at *
  generalize mostL bs = ml at *
  generalize barsT bs = T at *
  simp [R_Arms_grown, m_Arms_grown, ab, List.lookup, q, d, ini, -e_datRes]
theorem gr_bad {d : D} (h : R_is_above_zero [d] = .ret (.dat (.bl false))) : R_Arms_grown [armD bs, d] = .exc ⟨2, []⟩ := by
  unfold armD
  simp [R_Arms_grown, m_Arms_grown, h, raise0F]
theorem lg_bad {d : D} (h : R_is_above_zero [d] = .ret (.dat (.bl false))) : R_law_grown [armD bs, d] = .ret (.dat (.str "size")) := by
  have r := gr_bad (bs := bs) h
  unfold armD at *
  simp [R_law_grown, m_law_grown, tryO, r, List.lookup, exsOf]
/-! ## shifted -/
theorem sh_good (B : BarsG bs) {s : Rat} (sz : Rb 160 s) (hm : ∀ b ∈ bs, Rb 400 b.m) : R_Arms_shifted [armD bs, qr s] = .ret (.dat (armD (bs.map (shiftB s)))) := by
  have q := fun l => comp_bars (l := l) (vs := [2, 3, 4]) (f := seqG (consG (setV 2) (consG (setV 3) (consG (setV 4) nilG))) 3) (tt := pur true) (me := bnd (consA (getV 2) (consA (ifE (bnd (m2 (getV 2) (pur (RD (.int (-1)))) eqM) asB) (bnd (consA (getV 3) (consA (getV 1) (pur []))) (callM 2 R_plus [])) (getV 3)) (consA (getV 4) (pur [])))) tupM) (st := ⟨[some (.dat (armD bs)), some (.dat (qr s)), none, none, none], [], none⟩) (shiftB s) B.many.2 fun b hb =>
    ⟨⟨[some (.dat (armD bs)), some (.dat (qr s)), some (.dat (.int b.h)), some (.dat (qr b.m)), some (.dat (.int b.l))], [], none⟩, ⟨[some (.dat (armD bs)), some (.dat (qr s)), some (.dat (.int b.h)), some (.dat (qr b.m)), some (.dat (.int b.l))], [], none⟩, ⟨[some (.dat (armD bs)), some (.dat (qr s)), some (.dat (.int b.h)), some (.dat (qr b.m)), some (.dat (.int b.l))], [], none⟩, by unfold bS barL; simp, rfl, by
      have e := r_plus (hm b hb) sz
      unfold bS barL shiftB
      generalize armD bs = A
      by_cases c : b.h = -1
      · simp [e, c]
      · simp [c], rfl⟩
  have ini := (B.map_l (f := shiftB s) (fun _ _ => rfl) (fun _ _ => rfl)).1.initL
  have ab := r_qr s
  have d := datL_map (barsT (bs.map (shiftB s)))
  unfold armD at q
  generalize armD (bs.map (shiftB s)) = A2 at *
  unfold armD
  generalize barsT (bs.map (shiftB s)) = T2 at *
  generalize mostL bs = ml at *
  generalize barsT bs = T at *
  simp [R_Arms_shifted, m_Arms_shifted, ab, List.lookup, q, d, ini, -e_datRes]
theorem sh_bad {d : D} (h : R_is_ratio [d] = .ret (.dat (.bl false))) : R_Arms_shifted [armD bs, d] = .exc ⟨2, []⟩ := by
  unfold armD
  simp [R_Arms_shifted, m_Arms_shifted, h, raise0F]
theorem ls_bad {d : D} (h : R_is_ratio [d] = .ret (.dat (.bl false))) : R_law_shifted [armD bs, d] = .ret (.dat (.str "size")) := by
  have r := sh_bad (bs := bs) h
  unfold armD at *
  simp [R_law_shifted, m_law_shifted, tryO, r, List.lookup, exsOf]
/-! ## renamed -/
theorem at_names {n : Nat} {o : List Int} (O : Ord n o) {l : Int} (h0 : 0 ≤ l) (h1 : l ≤ n) : atI (D.int 0 :: intsD o) l = some (.int (nI o l.toNat)) := by
  obtain ⟨k, rfl⟩ := Int.eq_ofNat_of_zero_le h0
  have ol := O.len
  have hk : k < (D.int 0 :: intsD o).length := by rw [List.length_cons, ints_len]; omega
  rw [atI_nat hk, Int.toNat_natCast]
  cases k with
  | zero => rfl
  | succ k =>
    have hk' : k < o.length := by omega
    rw [nI_s hk']
    simp [intsD]
theorem rn_good (B : BarsG bs) {n : Nat} (em : mostL bs = n) (n4 : n ≤ 4) {o : List Int} (O : Ord n o) {d : D} (e : seqD d = some (intsD o)) : R_Arms_renamed [armD bs, d] = .ret (.dat (armD (bs.map (nameB o)))) := by
  have q := fun l => comp_bars (l := l) (vs := [3, 4, 5]) (f := seqG (consG (setV 3) (consG (setV 4) (consG (setV 5) nilG))) 3) (tt := pur true) (me := bnd (consA (getV 3) (consA (getV 4) (consA (m2 (getV 2) (getV 5) ixM) (pur [])))) tupM) (st := ⟨[some (.dat (armD bs)), some (.dat d), some (.dat (.tup (.int 0 :: intsD o))), none, none, none], [], none⟩) (nameB o) B.many.2 fun b hb =>
    ⟨⟨[some (.dat (armD bs)), some (.dat d), some (.dat (.tup (.int 0 :: intsD o))), some (.dat (.int b.h)), some (.dat (qr b.m)), some (.dat (.int b.l))], [], none⟩, ⟨[some (.dat (armD bs)), some (.dat d), some (.dat (.tup (.int 0 :: intsD o))), some (.dat (.int b.h)), some (.dat (qr b.m)), some (.dat (.int b.l))], [], none⟩, ⟨[some (.dat (armD bs)), some (.dat d), some (.dat (.tup (.int 0 :: intsD o))), some (.dat (.int b.h)), some (.dat (qr b.m)), some (.dat (.int b.l))], [], none⟩, by unfold bS barL; simp, rfl, by
      have f := B.fit_mem hb
      have e := at_names O f.1 (by omega)
      unfold bS barL nameB
      generalize armD bs = A
      generalize D.int 0 :: intsD o = N at *
      simp [e], rfl⟩
  have ini := (B.named em O).1.initL
  have co := co_good O n4 e
  rw [← em] at co
  have ol := O.len
  have len : (intsD o).length ≤ 99999 := by rw [ints_len]; omega
  have len2 : 1 + (intsD o).length ≤ 100000 := by omega
  have dd := datL_map (barsT (bs.map (nameB o)))
  unfold armD at q
  generalize armD (bs.map (nameB o)) = A2 at *
  unfold armD
  generalize barsT (bs.map (nameB o)) = T2 at *
  generalize intsD o = N at *
  generalize mostL bs = ml at *
  generalize barsT bs = T at *
  simp [R_Arms_renamed, m_Arms_renamed, co, List.lookup, q, dd, ini, len2, -e_datRes]
theorem rn_bad {d : D} (h : R_check_order [.int (mostL bs), d] = .exc ⟨3, []⟩) : R_Arms_renamed [armD bs, d] = .exc ⟨3, []⟩ := by
  unfold armD
  generalize mostL bs = ml at *
  simp [R_Arms_renamed, m_Arms_renamed, h, List.lookup]
theorem ln_bad {d : D} (h : R_check_order [.int (mostL bs), d] = .exc ⟨3, []⟩) : R_law_named [armD bs, d] = .ret (.dat (.str "order")) := by
  have r := rn_bad (bs := bs) h
  unfold armD at *
  simp [R_law_named, m_law_named, tryO, r, List.lookup, exsOf]
theorem lr_val (B : BarsG bs) {n : Nat} (em : mostL bs = n) {o : List Int} (O : Ord n o) (n4 : n ≤ 4) : R_law_renamed [.tup (barsT bs), .tup (intsD o)] = .ret (.dat (.tup (barsT (bs.map (nameB o))))) := by
  have q := fun l => comp_bars (l := l) (vs := [3, 4, 5]) (f := seqG (consG (setV 3) (consG (setV 4) (consG (setV 5) nilG))) 3) (tt := pur true) (me := bnd (consA (getV 3) (consA (getV 4) (consA (m2 (getV 2) (getV 5) ixM) (pur [])))) tupM) (st := ⟨[some (.dat (.tup (barsT bs))), some (.dat (.tup (intsD o))), some (.dat (.tup (.int 0 :: intsD o))), none, none, none], [], none⟩) (nameB o) B.many.2 fun b hb =>
    ⟨⟨[some (.dat (.tup (barsT bs))), some (.dat (.tup (intsD o))), some (.dat (.tup (.int 0 :: intsD o))), some (.dat (.int b.h)), some (.dat (qr b.m)), some (.dat (.int b.l))], [], none⟩, ⟨[some (.dat (.tup (barsT bs))), some (.dat (.tup (intsD o))), some (.dat (.tup (.int 0 :: intsD o))), some (.dat (.int b.h)), some (.dat (qr b.m)), some (.dat (.int b.l))], [], none⟩, ⟨[some (.dat (.tup (barsT bs))), some (.dat (.tup (intsD o))), some (.dat (.tup (.int 0 :: intsD o))), some (.dat (.int b.h)), some (.dat (qr b.m)), some (.dat (.int b.l))], [], none⟩, by unfold bS barL; simp, rfl, by
      have f := B.fit_mem hb
      have e := at_names O f.1 (by omega)
      unfold bS barL nameB
      generalize barsT bs = T
      generalize D.int 0 :: intsD o = N at *
      simp [e], rfl⟩
  have ol := O.len
  have len : (intsD o).length ≤ 99999 := by rw [ints_len]; omega
  have len2 : 1 + (intsD o).length ≤ 100000 := by omega
  have dd := datL_map (barsT (bs.map (nameB o)))
  generalize barsT (bs.map (nameB o)) = T2 at *
  generalize intsD o = N at *
  generalize barsT bs = T at *
  simp [R_law_renamed, m_law_renamed, q, dd, len2]
end
/-! ## places led along -/
theorem gp_val {n : Int} {m s : Rat} (hm : Rb 400 m) (hs : Rb 160 s) : R_law_grown_place [.tup [.int n, qr m], qr s] = .ret (.dat (.tup [.int n, qr (m * s)])) := by
  have e := r_law_times hm hs
  simp [R_law_grown_place, m_law_grown_place, at20, at21, e]
theorem mp_val {n : Int} {m s : Rat} (hm : Rb 400 m) (hs : Rb 160 s) : R_law_moved_place [.tup [.int n, qr m], qr s] = .ret (.dat (.tup [.int n, qr (if n = -1 then m + s else m)])) := by
  have e := r_law_plus hm hs
  by_cases c : n = -1
  · simp [R_law_moved_place, m_law_moved_place, at20, at21, e, c]
  · simp [R_law_moved_place, m_law_moved_place, at20, at21, c]
end Law
set_option Elab.async false
set_option linter.all false
set_option maxRecDepth 100000
set_option maxHeartbeats 8000000
namespace Law
open PySem PySem.Spec PyProof.Rows L2 Fd
/-! ## equal bars -/
theorem eq_bar (x y : Bar) : eqD (.tup (barL x)) (.tup (barL y)) = (decide (x.h = y.h) && (decide (x.m = y.m) && decide (x.l = y.l))) := by
  simp [barL]
theorem eq_bars : ∀ a b : List Bar, (eqDs (barsT a) (barsT b) = true ↔ a = b)
  | [], [] => by simp [barsT, eqDs]
  | [], _ :: _ => by simp [barsT, eqDs]
  | _ :: _, [] => by simp [barsT, eqDs]
  | x :: xs, y :: ys => by
    have ih := eq_bars xs ys
    have e := eq_bar x y
    show (eqD (.tup (barL x)) (.tup (barL y)) && eqDs (barsT xs) (barsT ys)) = true ↔ _
    rw [e, Bool.and_eq_true, ih]
    cases x
    cases y
    simp [and_assoc]
theorem eq_self (a : List Bar) : eqDs (barsT a) (barsT a) = true := (eq_bars a a).mpr rfl
theorem eq_other {a b : List Bar} (h : a ≠ b) : eqDs (barsT a) (barsT b) = false := by
  cases e : eqDs (barsT a) (barsT b) with
  | false => rfl
  | true => exact absurd ((eq_bars a b).mp e) h
theorem ok_bars (bs : List Bar) : okD (.tup (barsT bs)) = true := by
  refine okD_of ?_ ?_
  · show D.fines (barsT bs) = true
    refine fines_all fun d hd => ?_
    obtain ⟨b, _, rfl⟩ := List.mem_map.mp hd
    simp [barL, qr, D.fine, D.fines]
  · have := deps_all (n := 3) (ds := barsT bs) fun d hd => by
      obtain ⟨b, _, rfl⟩ := List.mem_map.mp hd
      simp [barL, qr, D.dep, D.deps]
    simp [D.dep]
    omega
theorem arm_eq (a b : List Bar) : R_Arms___eq__ [armD a, armD b] = .ret (.dat (.bl (eqDs (barsT a) (barsT b)))) := by
  have o1 := ok_bars a
  have o2 := ok_bars b
  unfold armD
  generalize mostL a = x
  generalize mostL b = y
  simp [R_Arms___eq__, m_Arms___eq__, List.lookup, o1, o2]
theorem arm_eqT (a : List Bar) (ds : List D) : R_Arms___eq__ [armD a, .tup ds] = .ret (.dat (.bl false)) := by
  unfold armD
  simp [R_Arms___eq__, m_Arms___eq__]
theorem okD_obj (c : Nat) (fs : List (Str × D)) : okD (.obj c fs) = false := rfl
/-! ## one bar more -/
section
variable {bs : List Bar}
theorem wb_good {x y z : D} {a : List Bar} (hl : bs.length ≤ 6) (h : R_Arms___init__ [.tup (barsT bs ++ [.tup [x, y, z]])] = .ret (.dat (armD a))) : R_Arms_with_bar [armD bs, x, y, z] = .ret (.dat (armD a)) := by
  have ln : (barsT bs).length + 1 ≤ 100000 := by rw [barsT_len]; omega
  have e : datRes R_Arms___init__ [.tup (barsT bs ++ [.tup [x, y, z]])] = .ret (.dat (armD a)) := by rw [e_datRes, h]
  clear h
  generalize armD a = A at *
  unfold armD
  generalize barsT bs = T at *
  simp [R_Arms_with_bar, m_Arms_with_bar, List.lookup, ln, e, -e_datRes]
theorem wb_exc {x y z : D} {i : Int} {w : Str} (hl : bs.length ≤ 6) (h : R_Arms___init__ [.tup (barsT bs ++ [.tup [x, y, z]])] = XB i w) : R_Arms_with_bar [armD bs, x, y, z] = XB i w := by
  have ln : (barsT bs).length + 1 ≤ 100000 := by rw [barsT_len]; omega
  have e : datRes R_Arms___init__ [.tup (barsT bs ++ [.tup [x, y, z]])] = XB i w := by rw [e_datRes, h]
  clear h
  unfold armD
  generalize barsT bs = T at *
  simp [R_Arms_with_bar, m_Arms_with_bar, List.lookup, ln, e, -e_datRes]
theorem lo_good {x y z : D} {a : List Bar} (hl : bs.length ≤ 6) (h : R_Arms___init__ [.tup (barsT bs ++ [.tup [x, y, z]])] = .ret (.dat (armD a))) : R_law_longer [armD bs, .tup [x, y, z]] = .ret (.dat (armD a)) := by
  have e := wb_good hl h
  clear h
  generalize armD a = A at *
  unfold armD at *
  simp [R_law_longer, m_law_longer, tryF, e, List.lookup, at30, at31, at32]
theorem lo_exc {x y z : D} {i : Int} {w : Str} (hl : bs.length ≤ 6) (h : R_Arms___init__ [.tup (barsT bs ++ [.tup [x, y, z]])] = XB i w) : R_law_longer [armD bs, .tup [x, y, z]] = .ret (.dat (.tup [.int i, .str w])) := by
  have e := wb_exc hl h
  clear h
  unfold armD at *
  simp [R_law_longer, m_law_longer, tryF, e, List.lookup, at30, at31, at32, exsOf]
theorem bars_app (bs : List Bar) (b : Bar) : barsT bs ++ [.tup (barL b)] = barsT (bs ++ [b]) := by simp [barsT]
variable (B : BarsG bs)
include B
theorem pre_good : ∀ (j : Nat) y, (barsT bs)[j]? = some y → R_bad_bar [.int (j : Nat), y] = .ret (.dat .non) := fun j y e => by
  unfold barsT at e
  rw [List.getElem?_map] at e
  cases e2 : bs[j]? with
  | none => rw [e2] at e; cases e
  | some b =>
    rw [e2] at e
    cases e
    exact bb_good rfl (B.fits j b e2)
theorem lo_bad {x y z : D} {w : Str} (h5 : bs.length ≤ 5) (h : R_bad_bar [.int (bs.length : Nat), .tup [x, y, z]] = .ret (.dat (.str w))) : R_law_longer [armD bs, .tup [x, y, z]] = .ret (.dat (.tup [.int (bs.length : Nat), .str w])) := by
  have ln := barsT_len bs
  refine lo_exc (by omega) (init_exc ?_)
  have q := cb_bad (d := .tup (barsT bs ++ [.tup [x, y, z]])) (pre := barsT bs) (post := []) (x := .tup [x, y, z]) (w := w) rfl (by simp; omega) (pre_good B) (by rw [ln]; exact h)
  rw [ln] at q
  exact q
theorem lo_many {x y z : D} (h6 : bs.length = 6) : R_law_longer [armD bs, .tup [x, y, z]] = .ret (.dat (.tup [.int 0, .str "many"])) := by
  have ln := barsT_len bs
  refine lo_exc (by omega) (init_exc (cb_many ?_))
  rw [row_seq (xs := barsT bs ++ [.tup [x, y, z]]) rfl, decide_eq_false]
  simp
  omega
theorem BarsG.fits_snoc {b : Bar} (f : Fits (bs.length : Nat) b) : ∀ (i : Nat) c, (bs ++ [b])[i]? = some c → Fits (i : Nat) c := fun i c e => by
  by_cases z : i < bs.length
  · rw [List.getElem?_append_left z] at e
    exact B.fits i c e
  · rw [List.getElem?_append_right (by omega)] at e
    by_cases y : i = bs.length
    · subst y
      rw [Nat.sub_self] at e
      cases e
      exact f
    · rw [List.getElem?_eq_none (by simp; omega)] at e
      cases e
theorem BarsG.snoc (h5 : bs.length ≤ 5) {b : Bar} (f : Fits (bs.length : Nat) b) (hl : b.l ≤ mostL bs + 1) : BarsG (bs ++ [b]) := by
  obtain ⟨n, n1, n4, em, hn⟩ := B.iff
  have f0 := f.l0
  refine ⟨by simp; omega, B.fits_snoc f, ?_⟩
  by_cases c : b.l ≤ n
  · refine noGap_of n1 fun x => ?_
    rw [← hn x]
    constructor
    · rintro ⟨a, d, hd, rfl⟩
      rcases List.mem_append.mp hd with z | z
      · exact ⟨a, d, z, rfl⟩
      · rw [List.mem_singleton] at z
        subst z
        exact (hn _).mpr ⟨by omega, c⟩
    · rintro ⟨a, d, hd, e⟩
      exact ⟨a, d, List.mem_append_left _ hd, e⟩
  · have eb : b.l = n + 1 := by omega
    refine noGap_of (n := n + 1) (by omega) fun x => ?_
    constructor
    · rintro ⟨a, d, hd, rfl⟩
      rcases List.mem_append.mp hd with z | z
      · have := (hn d.l).mp ⟨a, d, z, rfl⟩
        omega
      · rw [List.mem_singleton] at z
        subst z
        omega
    · rintro ⟨a, c⟩
      by_cases y : x ≤ n
      · obtain ⟨_, d, hd, e⟩ := (hn x).mpr ⟨a, y⟩
        exact ⟨by omega, d, List.mem_append_left _ hd, e⟩
      · exact ⟨by omega, b, List.mem_append_right _ (List.mem_singleton.mpr rfl), by omega⟩
theorem lo_new (h5 : bs.length ≤ 5) {b : Bar} (f : Fits (bs.length : Nat) b) (hl : b.l ≤ mostL bs + 1) : R_law_longer [armD bs, .tup (barL b)] = .ret (.dat (armD (bs ++ [b]))) := by
  have G := B.snoc h5 f hl
  refine lo_good (x := .int b.h) (y := qr b.m) (z := .int b.l) (by omega) ?_
  have e := bars_app bs b
  unfold barL at e
  rw [e]
  exact init_good ⟨rfl, barsOf_T _, G.many, G.fits⟩ G.gap
theorem lo_gap (h5 : bs.length ≤ 5) {b : Bar} (f : Fits (bs.length : Nat) b) (hl : b.l = mostL bs + 2) : R_law_longer [armD bs, .tup (barL b)] = .ret (.dat (.tup [.int 0, .str "gap"])) := by
  obtain ⟨n, n1, n4, em, hn⟩ := B.iff
  refine lo_exc (x := .int b.h) (y := qr b.m) (z := .int b.l) (by omega) (init_exc ?_)
  have e := bars_app bs b
  unfold barL at e
  rw [e]
  refine cb_gap (ds := barsT (bs ++ [b])) (bs := bs ++ [b]) ⟨rfl, barsOf_T _, by simp; omega, B.fits_snoc f⟩ fun g => ?_
  have i := g.iff
  have h1 := (i b.l).mp ⟨by omega, b, List.mem_append_right _ (List.mem_singleton.mpr rfl), rfl⟩
  obtain ⟨_, d, hd, ed⟩ := (i (n + 1)).mpr ⟨by omega, by omega⟩
  rcases List.mem_append.mp hd with z | z
  · have := (hn d.l).mp ⟨by omega, d, z, rfl⟩
    omega
  · rw [List.mem_singleton] at z
    subst z
    omega
end
end Law
set_option Elab.async false
set_option linter.all false
set_option maxRecDepth 100000
set_option maxHeartbeats 8000000
namespace Fd
open PySem PySem.Spec PyProof.Rows L2
theorem alt_f {m mo : M Bool} {s : S} {b : Bool} {s' : S} (h : m s = .ok b s') : altM m mo s = .ok b s' := by
  unfold altM
  rw [h]
theorem altR {m mo : M RV} {s : S} {b : RV} {s' : S} (h : m s = .ok b s') : altM m mo s = .ok b s' := by
  unfold altM
  rw [h]
theorem alt_2 {m mo : M Bool} {s : S} {r : Out Bool} (h : m s = .bad) (k : mo s = r) : altM m mo s = r := by
  unfold altM
  rw [h]
  exact k
theorem eq_s {m1 m3' : M RV} {d : D} (o : okD d = true) (q : eqD d d = true) {st : S} (e1 : m1 st = .ok (RD d) st) (e2 : m3' st = .ok (RD d) st) : m2 m1 m3' eqM st = .ok (RB true) st := by
  simp [e1, e2, o, q]
end Fd
namespace Law
open PySem PySem.Spec PyProof.Rows L2 Fd
theorem ok_is {k : Int} {w : Str} (h : PyData.canLay0 (.str w) = true) : okD (.tup [.int k, .str w]) = true := okD_of (by simp [D.fine, D.fines, h]) (by simp [D.dep, D.deps])
theorem eq_is (k : Int) (w : Str) : eqD (.tup [.int k, .str w]) (.tup [.int k, .str w]) = true := by simp
theorem ok_word {w : Str} (h : PyData.canLay0 (.str w) = true) : okD (.str w) = true := okD_of (by simp [D.fine, h]) (by simp [D.dep])
theorem lay_many : PyData.canLay0 (.str "many") = true := by decide +kernel
theorem lay_gap : PyData.canLay0 (.str "gap") = true := by decide +kernel
theorem lay_host : PyData.canLay0 (.str "host") = true := by decide +kernel
theorem lay_mark : PyData.canLay0 (.str "mark") = true := by decide +kernel
theorem lay_letter : PyData.canLay0 (.str "letter") = true := by decide +kernel
theorem lay_size : PyData.canLay0 (.str "size") = true := by decide +kernel
theorem lay_order : PyData.canLay0 (.str "order") = true := by decide +kernel
def aS2 (bs : List Bar) (x3 x4 x5 x6 x7 x8 x9 x10 x11 : Option SV) (h : Hand) : S := ⟨[some .hand, some (.dat (.tup (barsT bs))), some (.dat (armD bs)), x3, x4, x5, x6, x7, x8, x9, x10, x11], [], some h⟩
section
variable {bs : List Bar} (B : BarsG bs)
include B
theorem ad_start (h : Hand) : ∃ (b : Bar) (h' : Hand), Fits (bs.length : Nat) b ∧ b.l ≤ mostL bs + 1 ∧ Rb 160 b.m ∧
    (∀ r, ((seqF (asgF (bnd (bnd (consA (getV 2) (consA (getV 5) (pur []))) (callM 2 R_law_longer [])) frz) (setV 6))
    (seqF (ifF (bnd (m2 (getV 3) (pur (RI 6)) eqM) asB) (retF (altM (m2 (getV 6) (bnd (consA (pur (RI 0)) (consA (pur (RS ("many" : Str))) (pur []))) tupM) eqM) (m2 (getV 6) (bnd (consA (pur (RI 0)) (consA (pur (RS ("many" : Str))) (pur []))) tupM) (eqOwnM 4 5 4 R_Arms___eq__ false)))) (pur .nx))
    (seqF (ifF (orT (notT (bnd (bnd (getV 6) (isiG ktOwn (kcOwn 4 5 4))) truthM)) (bnd (m2 (bnd (getV 6) (fldM [4] "bars")) (m2 (getV 1) (bnd (consA (getV 5) (pur [])) tupM) addM) neM) asB)) (retF (pur (RB false))) (pur .nx))
    (seqF (asgF (getV 5) (seqG (consG (setV 7) (consG (setV 8) (consG (setV 4) nilG))) 3))
    (seqF (asgF (bnd (bnd (consA (bnd (consA (bnd (consA (getV 3) (consA (bnd (bnd (consA (getV 0) (pur [])) (callH 1 R_law_odd [])) frz) (consA (pur (RI 7)) (pur [])))) tupM) (consA (pur (RS ("host" : Str))) (pur []))) tupM) (consA (bnd (consA (bnd (consA (getV 7) (consA (bnd (bnd (consA (getV 0) (pur [])) (callH 1 R_law_odd [])) frz) (consA (pur (RI 7)) (pur [])))) tupM) (consA (pur (RS ("mark" : Str))) (pur []))) tupM) (consA (bnd (consA (bnd (consA (getV 7) (consA (getV 8) (consA (pur (RI 5)) (pur [])))) tupM) (consA (pur (RS ("letter" : Str))) (pur []))) tupM) (consA (bnd (consA (bnd (consA (getV 7) (consA (getV 8) (consA (pur (RB true)) (pur [])))) tupM) (consA (pur (RS ("letter" : Str))) (pur []))) tupM) (consA (bnd (consA (bnd (consA (pur (RB true)) (consA (getV 8) (consA (getV 4) (pur [])))) tupM) (consA (pur (RS ("host" : Str))) (pur []))) tupM) (pur [])))))) lstM) frz) (setV 9))
    (seqF (forF (bnd (getV 9) seqSrc) (seqG (consG (setV 10) (consG (setV 11) nilG)) 2) (ifF (altM (bnd (m2 (bnd (consA (getV 2) (consA (getV 10) (pur []))) (callM 2 R_law_longer [])) (bnd (consA (getV 3) (consA (getV 11) (pur []))) tupM) neM) asB) (bnd (m2 (bnd (consA (getV 2) (consA (getV 10) (pur []))) (callM 2 R_law_longer [])) (bnd (consA (getV 3) (consA (getV 11) (pur []))) tupM) (eqOwnM 4 5 4 R_Arms___eq__ true)) asB)) (retF (pur (RB false))) (pur .nx)))
    (retF (orV (m2 (bnd (consA (getV 1) (pur [])) (callM 1 R_law_most [])) (pur (RI 2)) gtM) (altM (m2 (bnd (consA (getV 2) (consA (bnd (consA (getV 7) (consA (getV 8) (consA (m2 (bnd (consA (getV 1) (pur [])) (callM 1 R_law_most [])) (pur (RI 2)) addM) (pur [])))) tupM) (pur []))) (callM 2 R_law_longer [])) (bnd (consA (pur (RI 0)) (consA (pur (RS ("gap" : Str))) (pur []))) tupM) eqM) (m2 (bnd (consA (getV 2) (consA (bnd (consA (getV 7) (consA (getV 8) (consA (m2 (bnd (consA (getV 1) (pur [])) (callM 1 R_law_most [])) (pur (RI 2)) addM) (pur [])))) tupM) (pur []))) (callM 2 R_law_longer [])) (bnd (consA (pur (RI 0)) (consA (pur (RS ("gap" : Str))) (pur []))) tupM) (eqOwnM 4 5 4 R_Arms___eq__ false)))))))))))) (aS2 bs (some (.dat (.int (bs.length : Nat)))) (some (.dat (.int b.l))) (some (bS b)) none none none none none none h') = r →
      m_law_added (aS2 bs none none none none none none none none none h) = r) := by
  obtain ⟨n, n1, n4, em, hn⟩ := B.iff
  have six := B.many.2
  have most := most_val (B.rows (d := .tup (barsT bs)) rfl (barsOf_T bs))
  have ln := barsT_len bs
  obtain ⟨t, h1, e1, t0, t1⟩ := take_ex (n := (if (n : Int) + 1 < 4 then (n : Int) + 1 else 4) + 1) h (lg9 (by split <;> omega))
  obtain ⟨u, h2, e2, u0, u1⟩ := take_ex (n := (bs.length : Int) + 1) h1 (lg9 (by omega))
  obtain ⟨m, h3, e3, hm⟩ := v_mark h2
  refine ⟨⟨u - 1, m, t⟩, h3, ⟨by show -1 ≤ u - 1; omega, by show u - 1 ≤ _; omega, t0, ?_⟩, ?_, hm, fun r hr => ?_⟩
  · show t ≤ 4
    split at t1 <;> omega
  · show t ≤ mostL bs + 1
    split at t1 <;> omega
  · unfold m_law_added
    unfold aS2 bS barL at *
    rw [em] at most
    generalize armD bs = A at *
    generalize barsT bs = T at *
    refine seqF_go (s' := ⟨[some .hand, some (.dat (.tup T)), some (.dat A), some (.dat (.int (bs.length : Nat))), none, none, none, none, none, none, none, none], [], some h⟩) (by simp [ln]) ?_
    refine seqF_go (s' := ⟨[some .hand, some (.dat (.tup T)), some (.dat A), some (.dat (.int (bs.length : Nat))), some (.dat (.int t)), none, none, none, none, none, none, none], [], some h1⟩) (by simp [most, e1]) ?_
    refine seqF_go (s' := ⟨[some .hand, some (.dat (.tup T)), some (.dat A), some (.dat (.int (bs.length : Nat))), some (.dat (.int t)), some (.dat (.tup [.int (u - 1), qr m, .int t])), none, none, none, none, none, none], [], some h3⟩) (by simp [e2, e3]) ?_
    exact hr
end
end Law
set_option Elab.async false
set_option linter.all false
set_option maxRecDepth 100000
set_option maxHeartbeats 8000000
namespace Law
open PySem PySem.Spec PyProof.Rows L2 Fd
def BadBar (bs : List Bar) (x : SV) : Prop := ∃ (a b c : D) (w : Str), x = .dat (.tup [.tup [a, b, c], .str w]) ∧ R_law_longer [armD bs, .tup [a, b, c]] = .ret (.dat (.tup [.int (bs.length : Nat), .str w])) ∧ PyData.canLay0 (.str w) = true
noncomputable abbrev adB : M Fl := (ifF (altM (bnd (m2 (bnd (consA (getV 2) (consA (getV 10) (pur []))) (callM 2 R_law_longer [])) (bnd (consA (getV 3) (consA (getV 11) (pur []))) tupM) neM) asB) (bnd (m2 (bnd (consA (getV 2) (consA (getV 10) (pur []))) (callM 2 R_law_longer [])) (bnd (consA (getV 3) (consA (getV 11) (pur []))) tupM) (eqOwnM 4 5 4 R_Arms___eq__ true)) asB)) (retF (pur (RB false))) (pur .nx))
section
variable {bs : List Bar} (B : BarsG bs)
theorem ad_turn {x3 x4 x5 x6 x7 x8 x9 x10 x11 : Option SV} {h : Hand} {x : SV} (e3 : x3 = some (.dat (.int (bs.length : Nat)))) (k : BadBar bs x) : ∃ s1 s2, (seqG (consG (setV 10) (consG (setV 11) nilG)) 2) x (aS2 bs x3 x4 x5 x6 x7 x8 x9 x10 x11 h) = .ok () s1 ∧ adB s1 = .ok .nx s2 ∧ ∃ y10 y11, s2 = aS2 bs x3 x4 x5 x6 x7 x8 x9 y10 y11 h := by
  obtain ⟨a, b, c, w, rfl, e, lay⟩ := k
  subst e3
  refine ⟨aS2 bs (some (.dat (.int (bs.length : Nat)))) x4 x5 x6 x7 x8 x9 (some (.dat (.tup [a, b, c]))) (some (.dat (.str w))) h, aS2 bs (some (.dat (.int (bs.length : Nat)))) x4 x5 x6 x7 x8 x9 (some (.dat (.tup [a, b, c]))) (some (.dat (.str w))) h, rfl, ?_, ⟨_, _, rfl⟩⟩
  refine ifF_f (alt_f (ne_s (ok_is (k := (bs.length : Nat)) lay) (eq_is _ w) ?_ ?_)) rfl
  · unfold aS2
    generalize armD bs = A at *
    generalize barsT bs = T at *
    simp [e]
  · unfold aS2
    generalize armD bs = A at *
    generalize barsT bs = T at *
    simp
theorem ad_loop {l : List SV} {x3 x4 x5 x6 x7 x8 x9 : Option SV} {h : Hand} (e3 : x3 = some (.dat (.int (bs.length : Nat)))) (xs : List SV) (k : ∀ x ∈ xs, BadBar bs x) : ∃ y10 y11, forL (Src.mk l none).Ok (seqG (consG (setV 10) (consG (setV 11) nilG)) 2) adB xs (aS2 bs x3 x4 x5 x6 x7 x8 x9 none none h) = .ok .nx (aS2 bs x3 x4 x5 x6 x7 x8 x9 y10 y11 h) := by
  obtain ⟨s', e, y10, y11, rfl⟩ := forL_inv (ok := (Src.mk l none).Ok) (f := seqG (consG (setV 10) (consG (setV 11) nilG)) 2) (b := adB) (fun s => ∃ y10 y11, s = aS2 bs x3 x4 x5 x6 x7 x8 x9 y10 y11 h) (fun _ _ => trivial) xs (by
    rintro x hx s ⟨y10, y11, rfl⟩
    exact ad_turn e3 (k x hx)) _ ⟨none, none, rfl⟩
  exact ⟨y10, y11, e⟩
include B
theorem v_added (h : Hand) : ∃ h', R_law_added [.hand, .dat (.tup (barsT bs)), .dat (armD bs)] h = (.ret (.dat (.bl true)), h') := by
  obtain ⟨b, h1, f, bl, bm, go⟩ := ad_start B h
  obtain ⟨n, n1, n4, em, hn⟩ := B.iff
  have six := B.many.2
  have most := most_val (B.rows (d := .tup (barsT bs)) rfl (barsOf_T bs))
  have st : startH 12 [.hand, .dat (.tup (barsT bs)), .dat (armD bs)] h = aS2 bs none none none none none none none none none h := rfl
  by_cases c : bs.length = 6
  · have lm := lo_many (x := .int b.h) (y := qr b.m) (z := .int b.l) B c
    refine ⟨h1, runH_go (s := aS2 bs (some (.dat (.int (bs.length : Nat)))) (some (.dat (.int b.l))) (some (bS b)) (some (.dat (.tup [.int 0, .str "many"]))) none none none none none h1) ?_ rfl⟩
    rw [st]
    refine go _ ?_
    refine seqF_go (s' := aS2 bs (some (.dat (.int (bs.length : Nat)))) (some (.dat (.int b.l))) (some (bS b)) (some (.dat (.tup [.int 0, .str "many"]))) none none none none none h1) ?_ ?_
    · unfold aS2 bS barL
      generalize armD bs = A at *
      generalize barsT bs = T at *
      simp [lm]
    · refine seqF_rt (ifF_t (s' := aS2 bs (some (.dat (.int (bs.length : Nat)))) (some (.dat (.int b.l))) (some (bS b)) (some (.dat (.tup [.int 0, .str "many"]))) none none none none none h1) ?_ ?_)
      · unfold aS2
        rw [c]
        generalize armD bs = A at *
        generalize barsT bs = T at *
        simp
      · rw [e_retF]
        have q := altR (mo := (m2 (getV 6) (bnd (consA (pur (RI 0)) (consA (pur (RS ("many" : Str))) (pur []))) tupM) (eqOwnM 4 5 4 R_Arms___eq__ false))) (eq_s (ok_is (k := 0) lay_many) (eq_is 0 "many") (m1 := getV 6) (m3' := bnd (consA (pur (RI 0)) (consA (pur (RS "many")) (pur []))) tupM) (st := aS2 bs (some (.dat (.int (bs.length : Nat)))) (some (.dat (.int b.l))) (some (bS b)) (some (.dat (.tup [.int 0, .str "many"]))) none none none none none h1) (get_at rfl) (by simp))
        rw [e_bnd, q]
        rfl
  · have h5 : bs.length ≤ 5 := by omega
    obtain ⟨o1, h2, e1, no1⟩ := v_odd h1
    obtain ⟨o2, h3, e2, no2⟩ := v_odd h2
    have ln := lo_new B h5 f bl
    have bh := f.host
    have f1 := f.h1
    have f2 := f.h2
    have bads : ∀ x ∈ [SV.dat (.tup [.tup [.int (bs.length : Nat), o1, .int 7], .str "host"]), .dat (.tup [.tup [.int b.h, o2, .int 7], .str "mark"]), .dat (.tup [.tup [.int b.h, qr b.m, .int 5], .str "letter"]), .dat (.tup [.tup [.int b.h, qr b.m, .bl true], .str "letter"]), .dat (.tup [.tup [.bl true, qr b.m, .int b.l], .str "host"])], BadBar bs x := by
      intro x hx
      simp only [List.mem_cons, List.not_mem_nil, or_false] at hx
      rcases hx with rfl | rfl | rfl | rfl | rfl
      · exact ⟨_, _, _, _, rfl, lo_bad B h5 (bb_host rfl (by rw [w_both, decide_eq_false (by omega)])), lay_host⟩
      · exact ⟨_, _, _, _, rfl, lo_bad B h5 (bb_mark rfl bh no2), lay_mark⟩
      · exact ⟨_, _, _, _, rfl, lo_bad B h5 (bb_letter rfl bh (r_qr _) (by rw [w_both, decide_eq_false (by omega)])), lay_letter⟩
      · exact ⟨_, _, _, _, rfl, lo_bad B h5 (bb_letter rfl bh (r_qr _) (w_bl _ _ _)), lay_letter⟩
      · exact ⟨_, _, _, _, rfl, lo_bad B h5 (bb_host rfl (w_bl _ _ _)), lay_host⟩
    obtain ⟨y10, y11, lp⟩ := ad_loop (l := [SV.dat (.tup [.tup [.int (bs.length : Nat), o1, .int 7], .str "host"]), .dat (.tup [.tup [.int b.h, o2, .int 7], .str "mark"]), .dat (.tup [.tup [.int b.h, qr b.m, .int 5], .str "letter"]), .dat (.tup [.tup [.int b.h, qr b.m, .bl true], .str "letter"]), .dat (.tup [.tup [.bl true, qr b.m, .int b.l], .str "host"])]) (bs := bs) (x3 := some (.dat (.int (bs.length : Nat)))) (x4 := some (.dat (.int b.l))) (x5 := some (bS b)) (x6 := some (.dat (armD (bs ++ [b])))) (x7 := some (.dat (.int b.h))) (x8 := some (.dat (qr b.m))) (x9 := some (.dat (.lst [.tup [.tup [.int (bs.length : Nat), o1, .int 7], .str "host"], .tup [.tup [.int b.h, o2, .int 7], .str "mark"], .tup [.tup [.int b.h, qr b.m, .int 5], .str "letter"], .tup [.tup [.int b.h, qr b.m, .bl true], .str "letter"], .tup [.tup [.bl true, qr b.m, .int b.l], .str "host"]]))) (h := h3) rfl _ bads
    refine ⟨h3, runH_go (s := aS2 bs (some (.dat (.int (bs.length : Nat)))) (some (.dat (.int b.l))) (some (bS b)) (some (.dat (armD (bs ++ [b])))) (some (.dat (.int b.h))) (some (.dat (qr b.m))) (some (.dat (.lst [.tup [.tup [.int (bs.length : Nat), o1, .int 7], .str "host"], .tup [.tup [.int b.h, o2, .int 7], .str "mark"], .tup [.tup [.int b.h, qr b.m, .int 5], .str "letter"], .tup [.tup [.int b.h, qr b.m, .bl true], .str "letter"], .tup [.tup [.bl true, qr b.m, .int b.l], .str "host"]]))) y10 y11 h3) ?_ rfl⟩
    rw [st]
    refine go _ ?_
    refine seqF_go (s' := aS2 bs (some (.dat (.int (bs.length : Nat)))) (some (.dat (.int b.l))) (some (bS b)) (some (.dat (armD (bs ++ [b])))) none none none none none h1) ?_ ?_
    · unfold aS2 bS at *
      generalize armD (bs ++ [b]) = A2 at *
      generalize armD bs = A at *
      generalize barsT bs = T at *
      generalize D.tup (barL b) = bb at *
      simp [ln]
    refine seqF_go (s' := aS2 bs (some (.dat (.int (bs.length : Nat)))) (some (.dat (.int b.l))) (some (bS b)) (some (.dat (armD (bs ++ [b])))) none none none none none h1) (ifF_f (s' := aS2 bs (some (.dat (.int (bs.length : Nat)))) (some (.dat (.int b.l))) (some (bS b)) (some (.dat (armD (bs ++ [b])))) none none none none none h1) ?_ rfl) ?_
    · have c' : ¬ ((bs.length : Int) = 6) := by omega
      unfold aS2
      generalize armD (bs ++ [b]) = A2 at *
      generalize armD bs = A at *
      generalize barsT bs = T at *
      simp [c']
    refine seqF_go (s' := aS2 bs (some (.dat (.int (bs.length : Nat)))) (some (.dat (.int b.l))) (some (bS b)) (some (.dat (armD (bs ++ [b])))) none none none none none h1) (ifF_f (orT_s (notT_s ?_) (ne_s (ok_bars (bs ++ [b])) ((eqD_tup _ _).trans (eq_self (bs ++ [b]))) ?_ ?_)) rfl) ?_
    · unfold aS2
      generalize armD bs = A at *
      unfold armD
      generalize barsT bs = T at *
      generalize barsT (bs ++ [b]) = T2 at *
      generalize mostL (bs ++ [b]) = ml at *
      simp
    · unfold aS2
      generalize armD bs = A at *
      unfold armD
      generalize barsT bs = T at *
      generalize barsT (bs ++ [b]) = T2 at *
      generalize mostL (bs ++ [b]) = ml at *
      simp [List.lookup]
    · have ba := bars_app bs b
      have lb : (barsT bs).length + 1 ≤ 100000 := by rw [barsT_len]; omega
      unfold aS2 bS
      generalize armD (bs ++ [b]) = A2 at *
      generalize armD bs = A at *
      generalize barsT (bs ++ [b]) = T2 at *
      generalize barsT bs = T at *
      generalize D.tup (barL b) = bb at *
      simp [lb, ba]
    refine seqF_go (s' := aS2 bs (some (.dat (.int (bs.length : Nat)))) (some (.dat (.int b.l))) (some (bS b)) (some (.dat (armD (bs ++ [b])))) (some (.dat (.int b.h))) (some (.dat (qr b.m))) none none none h1) ?_ ?_
    · unfold aS2 bS barL
      generalize armD (bs ++ [b]) = A2 at *
      generalize armD bs = A at *
      generalize barsT bs = T at *
      simp
    refine seqF_go (s' := aS2 bs (some (.dat (.int (bs.length : Nat)))) (some (.dat (.int b.l))) (some (bS b)) (some (.dat (armD (bs ++ [b])))) (some (.dat (.int b.h))) (some (.dat (qr b.m))) (some (.dat (.lst [.tup [.tup [.int (bs.length : Nat), o1, .int 7], .str "host"], .tup [.tup [.int b.h, o2, .int 7], .str "mark"], .tup [.tup [.int b.h, qr b.m, .int 5], .str "letter"], .tup [.tup [.int b.h, qr b.m, .bl true], .str "letter"], .tup [.tup [.bl true, qr b.m, .int b.l], .str "host"]]))) none none h3) ?_ ?_
    · unfold aS2 bS
      generalize armD (bs ++ [b]) = A2 at *
      generalize armD bs = A at *
      generalize barsT bs = T at *
      generalize D.tup (barL b) = bb at *
      generalize qr b.m = qm at *
      simp [e1, e2]
    refine seqF_go (forF_go (src := ⟨_, none⟩) (s1 := aS2 bs (some (.dat (.int (bs.length : Nat)))) (some (.dat (.int b.l))) (some (bS b)) (some (.dat (armD (bs ++ [b])))) (some (.dat (.int b.h))) (some (.dat (qr b.m))) (some (.dat (.lst [.tup [.tup [.int (bs.length : Nat), o1, .int 7], .str "host"], .tup [.tup [.int b.h, o2, .int 7], .str "mark"], .tup [.tup [.int b.h, qr b.m, .int 5], .str "letter"], .tup [.tup [.int b.h, qr b.m, .bl true], .str "letter"], .tup [.tup [.bl true, qr b.m, .int b.l], .str "host"]]))) none none h3) ?_ lp) ?_
    · unfold aS2
      generalize armD (bs ++ [b]) = A2 at *
      generalize armD bs = A at *
      generalize barsT bs = T at *
      simp
    rw [em] at most
    by_cases g : 2 < n
    · have g' : (2 : Int) < n := by omega
      unfold aS2
      generalize armD (bs ++ [b]) = A2 at *
      generalize armD bs = A at *
      generalize barsT bs = T at *
      simp [most, g']
    · have g' : ¬ ((2 : Int) < n) := by omega
      have lg := lo_gap (b := ⟨b.h, b.m, mostL bs + 2⟩) B h5 ⟨f.h1, f.h2, by show 0 ≤ mostL bs + 2; omega, by show mostL bs + 2 ≤ 4; omega⟩ rfl
      have o := ok_is (k := 0) lay_gap
      unfold barL at lg
      rw [em] at lg
      unfold aS2
      generalize armD (bs ++ [b]) = A2 at *
      generalize armD bs = A at *
      generalize barsT bs = T at *
      simp [most, g', lg, o, altM]
end
end Law
set_option Elab.async false
set_option linter.all false
set_option maxRecDepth 100000
set_option maxHeartbeats 8000000
namespace Law
open PySem PySem.Spec PyProof.Rows L2 Fd
theorem atI_last {α : Type} {xs : List α} (h : 1 ≤ xs.length) (b : xs.length < 2 ^ 60) : ∃ x ∈ xs, atI xs (-1) = some x := by
  have hk : xs.length - 1 < xs.length := by omega
  refine ⟨xs[xs.length - 1], List.getElem_mem hk, ?_⟩
  have e : ixN xs.length (-1) = some (xs.length - 1) := by
    unfold ixN
    simp
    omega
  unfold atI
  rw [e]
  show xs[xs.length - 1]? = _
  rw [List.getElem?_eq_getElem hk]
theorem whole_b {n : Nat} {d : D} (h : (∃ x, d = .int x) ∨ d = .bl true ∨ d = .non) : ∃ b, R_is_whole [d, .int 1, .int (n : Nat)] = .ret (.dat (.bl b)) := by
  rcases h with ⟨x, rfl⟩ | rfl | rfl
  · exact ⟨_, w_both _ _ _⟩
  · exact ⟨_, w_bl _ _ _⟩
  · exact ⟨_, w_non _ _⟩
theorem ints_all {l : List Int} : ∀ d ∈ intsD l, ∃ x, d = .int x := fun d hd => by
  obtain ⟨x, _, rfl⟩ := List.mem_map.mp hd
  exact ⟨x, rfl⟩
theorem wrong_order {n : Nat} {o : List Int} (O : Ord n o) (n1 : 1 ≤ n) {z : D} (hz : z = .bl true ∨ z = .non) {d : D}
    (hd : d ∈ [D.tup (intsD o ++ [.int ((n : Int) + 1)]), .tup ((intsD o).drop 1), .tup (.int 0 :: (intsD o).drop 1), .tup ((intsD o).take (n - 1) ++ [.int ((n : Int) + 1)]), .non, .str "1", .tup ((intsD o).take (n - 1) ++ [z]), .dct [(.inl 1, .int 1)]]) : R_check_order [.int (n : Nat), d] = .exc ⟨3, []⟩ := by
  have ol : (intsD o).length = n := by rw [ints_len, O.len]
  simp only [List.mem_cons, List.not_mem_nil, or_false] at hd
  rcases hd with rfl | rfl | rfl | rfl | rfl | rfl | rfl | rfl
  · refine co_row ((row_seq (xs := intsD o ++ [.int ((n : Int) + 1)]) rfl _ _).trans ?_)
    rw [decide_eq_false]
    rw [List.length_append, ol, List.length_singleton]
    omega
  · refine co_row ((row_seq (xs := (intsD o).drop 1) rfl _ _).trans ?_)
    rw [decide_eq_false]
    rw [List.length_drop, ol]
    omega
  · refine co_entry (ds := .int 0 :: (intsD o).drop 1) rfl (by rw [List.length_cons, List.length_drop, ol]; omega) (fun y hy => whole_b ?_) ⟨.int 0, List.mem_cons_self, by rw [w_both, decide_eq_false (by omega)]⟩
    rcases List.mem_cons.mp hy with rfl | hy
    · exact .inl ⟨_, rfl⟩
    · exact .inl (ints_all _ (List.mem_of_mem_drop hy))
  · refine co_entry (ds := (intsD o).take (n - 1) ++ [.int ((n : Int) + 1)]) rfl (by rw [List.length_append, List.length_take, ol, List.length_singleton]; omega) (fun y hy => whole_b ?_) ⟨.int ((n : Int) + 1), List.mem_append_right _ (List.mem_singleton.mpr rfl), by rw [w_both, decide_eq_false (by omega)]⟩
    rcases List.mem_append.mp hy with hy | hy
    · exact .inl (ints_all _ (List.mem_of_mem_take hy))
    · exact .inl ⟨_, List.mem_singleton.mp hy⟩
  · exact co_row (row_no rfl _ _)
  · exact co_row (row_no rfl _ _)
  · refine co_entry (ds := (intsD o).take (n - 1) ++ [z]) rfl (by rw [List.length_append, List.length_take, ol, List.length_singleton]; omega) (fun y hy => whole_b ?_) ⟨z, List.mem_append_right _ (List.mem_singleton.mpr rfl), by rcases hz with rfl | rfl <;> simp⟩
    rcases List.mem_append.mp hy with hy | hy
    · exact .inl (ints_all _ (List.mem_of_mem_take hy))
    · rw [List.mem_singleton] at hy
      subst hy
      exact .inr hz
  · exact co_row (row_no rfl _ _)
theorem no_size {o : D} (h : R_is_ratio [o] = .ret (.dat (.bl false))) {d : SV} (hd : d ∈ [SV.dat o, .dat (.tup [.int 0, .int 1]), .dat (.tup [.int (-1), .int 2]), .dat (.tup [.int 0, .int 1])]) : ∃ e, d = .dat e ∧ R_is_above_zero [e] = .ret (.dat (.bl false)) := by
  simp only [List.mem_cons, List.not_mem_nil, or_false] at hd
  have z : R_is_above_zero [.tup [.int 0, .int 1]] = .ret (.dat (.bl false)) := (r_above (r := 0)).trans rfl
  rcases hd with rfl | rfl | rfl | rfl
  · exact ⟨_, rfl, r_above_no h⟩
  · exact ⟨_, rfl, z⟩
  · refine ⟨_, rfl, ?_⟩
    have p := r_pair (-1) 2
    have g : gI (-1) 2 = 1 := by decide
    rw [decide_eq_true ⟨by decide, g⟩] at p
    unfold QD at p
    simp [R_is_above_zero, m_is_above_zero, p, at20]
  · exact ⟨_, rfl, z⟩
def rS2 (bs : List Bar) (o : List Int) (x3 x4 x5 x6 : Option SV) (h : Hand) : S := ⟨[some .hand, some (.dat (armD bs)), some (.dat (.tup (intsD o))), x3, x4, x5, x6], [], some h⟩
section
variable {bs : List Bar} (B : BarsG bs) {n : Nat} (em : mostL bs = n) (n1 : 1 ≤ n) (n4 : n ≤ 4) {o : List Int} (O : Ord n o)
include em n1 n4 O
theorem rf_last : ∀ (x3 x5 x6 : Option SV) (h : Hand), ((retF (orV (m2 (getV 4) (pur (RI 2)) ltM) (altM (m2 (bnd (consA (getV 1) (consA (m2 (bnd (consA (m2 (getV 2) (pur (RI 0)) ixM) (pur [])) tupM) (getV 4) repTM) (pur []))) (callM 2 R_law_named [])) (pur (RS ("order" : Str))) eqM) (m2 (bnd (consA (getV 1) (consA (m2 (bnd (consA (m2 (getV 2) (pur (RI 0)) ixM) (pur [])) tupM) (getV 4) repTM) (pur []))) (callM 2 R_law_named [])) (pur (RS ("order" : Str))) (eqOwnM 4 5 4 R_Arms___eq__ false)))))) (rS2 bs o x3 (some (.dat (.int (n : Nat)))) x5 x6 h) = .ok (.rt (RB true)) (rS2 bs o x3 (some (.dat (.int (n : Nat)))) x5 x6 h) := by
  intro x3 x5 x6 h
  have ol : (intsD o).length = n := by rw [ints_len, O.len]
  by_cases c : n < 2
  · have c' : (n : Int) < 2 := by omega
    unfold rS2
    generalize armD bs = A at *
    generalize intsD o = N at *
    simp [c']
  · have c' : ¬ ((n : Int) < 2) := by omega
    have c2 : (2 : Int) ≤ n := by omega
    have c3 : (n : Int) ≤ 1000 := by omega
    have h0 : 0 < o.length := by rw [O.len]; omega
    have a0 : atI (intsD o) 0 = some (.int o[0]) := by
      have := atI_nat (xs := intsD o) (k := 0) (by rw [ol]; omega)
      rw [show ((0 : Nat) : Int) = 0 from rfl] at this
      rw [this]
      simp [intsD]
    have hb := O.bnd (List.getElem_mem h0)
    have fl : (List.replicate n [D.int o[0]]).flatten = intsD (List.replicate n o[0]) := by
      have : ∀ (k : Nat) (a : Int), (List.replicate k [D.int a]).flatten = intsD (List.replicate k a) := fun k a => by
        induction k with
        | zero => rfl
        | succ k ih => rw [List.replicate_succ, List.flatten_cons, ih, List.replicate_succ]; rfl
      exact this _ _
    have l := ln_bad (bs := bs) (d := .tup (intsD (List.replicate n o[0]))) (by rw [em]; exact co_dup (by omega) n4 hb rfl)
    have ok := ok_word lay_order
    unfold rS2
    generalize armD bs = A at *
    generalize intsD (List.replicate n o[0]) = R at *
    generalize o[0] = o0 at *
    generalize intsD o = N at *
    simp [c', c2, c3, a0, fl, l, ok, altM]
theorem v_refused (h : Hand) : ∃ h', R_law_refused [.hand, .dat (armD bs), .dat (.tup (intsD o))] h = (.ret (.dat (.bl true)), h') := by
  have ol : (intsD o).length = n := by rw [ints_len, O.len]
  obtain ⟨p1, h1, e1, no1⟩ := v_odd h
  obtain ⟨t, h2, e2, t0, t1⟩ := take_ex (n := 4) h1 (lg9 (by decide))
  obtain ⟨dz, hdz, a1⟩ := at_cases (xs := [SV.dat p1, .dat (.tup [.int 0, .int 1]), .dat (.tup [.int (-1), .int 2]), .dat (.tup [.int 0, .int 1])]) t0 (by simp; omega)
  obtain ⟨z1, rfl, hz1⟩ := no_size no1 hdz
  have l1 := lg_bad (bs := bs) hz1
  obtain ⟨p2, h3, e3, no2⟩ := v_odd h2
  have l2 := ls_bad (bs := bs) no2
  obtain ⟨lastD, hlast, al⟩ := atI_last (xs := intsD o) (by omega) (by rw [ol]; omega)
  obtain ⟨lst, rfl⟩ := ints_all _ hlast
  obtain ⟨u, h4, e4, u0, u1⟩ := take_ex (n := 8) h3 (lg9 (by decide))
  have cf : cutD (intsD o) (some 1) none = (intsD o).drop 1 := cut_from (k := 1) (by omega)
  have cl : cutD (intsD o) none (some (-1)) = (intsD o).take (n - 1) := by rw [cut_last (by omega), ol]
  obtain ⟨zz, hzz, ez⟩ : ∃ zz : D, (zz = .bl true ∨ zz = .non) ∧ ∀ (s : S) (A : D) (x3 x4 : Option SV) (k : Hand), s = ⟨[some .hand, some (.dat A), some (.dat (.tup (intsD o))), x3, x4, none, none], [], some k⟩ →
      ((ifE (bnd (m2 (m2 (getV 2) (bnd (pur (RI 1)) negM) ixM) (pur (RI 1)) eqM) asB) (m2 (m3 (getV 2) (pur none) (bnd (bnd (pur (RI 1)) negM) asI)) (bnd (consA (pur (RB true)) (pur [])) tupM) addM) (m2 (m3 (getV 2) (pur none) (bnd (bnd (pur (RI 1)) negM) asI)) (bnd (consA (pur RN) (pur [])) tupM) addM))) s = .ok (RT ((intsD o).take (n - 1) ++ [zz])) s := by
    have l9 : ((intsD o).take (n - 1)).length + 1 ≤ 100000 := by rw [List.length_take]; omega
    by_cases c : lst = 1
    · refine ⟨.bl true, .inl rfl, fun s A x3 x4 k hs => ?_⟩
      subst hs
      generalize (intsD o).take (n - 1) = Tk at *
      generalize intsD o = N at *
      simp [al, c, cl, l9]
    · refine ⟨.non, .inr rfl, fun s A x3 x4 k hs => ?_⟩
      subst hs
      generalize (intsD o).take (n - 1) = Tk at *
      generalize intsD o = N at *
      simp [al, c, cl, l9]
  obtain ⟨dw, hdw, a2⟩ := at_cases (xs := [D.tup (intsD o ++ [.int ((n : Int) + 1)]), .tup ((intsD o).drop 1), .tup (.int 0 :: (intsD o).drop 1), .tup ((intsD o).take (n - 1) ++ [.int ((n : Int) + 1)]), .non, .str "1", .tup ((intsD o).take (n - 1) ++ [zz]), .dct [(.inl 1, .int 1)]]) u0 (by simp; omega)
  have l3 := ln_bad (bs := bs) (d := dw) (by rw [em]; exact wrong_order O n1 hzz hdw)
  have oks := ok_word lay_size
  have oko := ok_word lay_order
  refine ⟨h4, runH_go (s := rS2 bs o (some (.dat z1)) (some (.dat (.int (n : Nat)))) (some (.dat (.lst [D.tup (intsD o ++ [.int ((n : Int) + 1)]), .tup ((intsD o).drop 1), .tup (.int 0 :: (intsD o).drop 1), .tup ((intsD o).take (n - 1) ++ [.int ((n : Int) + 1)]), .non, .str "1", .tup ((intsD o).take (n - 1) ++ [zz]), .dct [(.inl 1, .int 1)]]))) (some (.dat dw)) h4) ?_ rfl⟩
  rw [show startH 7 [.hand, .dat (armD bs), .dat (.tup (intsD o))] h = rS2 bs o none none none none h from rfl]
  unfold m_law_refused
  refine seqF_go (s' := rS2 bs o (some (.dat z1)) none none none h2) ?_ ?_
  · unfold rS2
    generalize armD bs = A at *
    generalize intsD o = N at *
    simp [e1, e2, a1]
  refine seqF_go (s' := rS2 bs o (some (.dat z1)) none none none h3) (ifF_f (s' := rS2 bs o (some (.dat z1)) none none none h3) ?_ rfl) ?_
  · unfold rS2
    generalize armD bs = A at *
    generalize intsD o = N at *
    simp [l1, l2, e3, oks, altM]
  refine seqF_go (s' := rS2 bs o (some (.dat z1)) (some (.dat (.int (n : Nat)))) none none h3) ?_ ?_
  · unfold rS2
    generalize armD bs = A at *
    generalize intsD o = N at *
    simp [ol]
  refine seqF_go (s' := rS2 bs o (some (.dat z1)) (some (.dat (.int (n : Nat)))) (some (.dat (.lst [D.tup (intsD o ++ [.int ((n : Int) + 1)]), .tup ((intsD o).drop 1), .tup (.int 0 :: (intsD o).drop 1), .tup ((intsD o).take (n - 1) ++ [.int ((n : Int) + 1)]), .non, .str "1", .tup ((intsD o).take (n - 1) ++ [zz]), .dct [(.inl 1, .int 1)]]))) none h3) ?_ ?_
  · have q := ez ⟨[some .hand, some (.dat (armD bs)), some (.dat (.tup (intsD o))), some (.dat z1), some (.dat (.int (n : Nat))), none, none], [], some h3⟩ (armD bs) (some (.dat z1)) (some (.dat (.int (n : Nat)))) h3 rfl
    have l9 : (intsD o).length + 1 ≤ 100000 := by omega
    have l8 : 1 + ((intsD o).drop 1).length ≤ 100000 := by rw [List.length_drop]; omega
    have l7 : ((intsD o).take (n - 1)).length + 1 ≤ 100000 := by rw [List.length_take]; omega
    unfold rS2
    generalize armD bs = A at *
    generalize (intsD o).take (n - 1) = Tk at *
    generalize (intsD o).drop 1 = Dr at *
    generalize intsD o = N at *
    clear ez
    generalize (ifE (bnd (m2 (m2 (getV 2) (bnd (pur (RI 1)) negM) ixM) (pur (RI 1)) eqM) asB) (m2 (m3 (getV 2) (pur none) (bnd (bnd (pur (RI 1)) negM) asI)) (bnd (consA (pur (RB true)) (pur [])) tupM) addM) (m2 (m3 (getV 2) (pur none) (bnd (bnd (pur (RI 1)) negM) asI)) (bnd (consA (pur RN) (pur [])) tupM) addM)) = E at q ⊢
    simp [q, cf, cl, l9, l8, l7]
  refine seqF_go (s' := rS2 bs o (some (.dat z1)) (some (.dat (.int (n : Nat)))) (some (.dat (.lst [D.tup (intsD o ++ [.int ((n : Int) + 1)]), .tup ((intsD o).drop 1), .tup (.int 0 :: (intsD o).drop 1), .tup ((intsD o).take (n - 1) ++ [.int ((n : Int) + 1)]), .non, .str "1", .tup ((intsD o).take (n - 1) ++ [zz]), .dct [(.inl 1, .int 1)]]))) (some (.dat dw)) h4) ?_ ?_
  · unfold rS2
    generalize armD bs = A at *
    generalize (intsD o).take (n - 1) = Tk at *
    generalize (intsD o).drop 1 = Dr at *
    generalize intsD o = N at *
    simp [e4, a2]
  refine seqF_go (s' := rS2 bs o (some (.dat z1)) (some (.dat (.int (n : Nat)))) (some (.dat (.lst [D.tup (intsD o ++ [.int ((n : Int) + 1)]), .tup ((intsD o).drop 1), .tup (.int 0 :: (intsD o).drop 1), .tup ((intsD o).take (n - 1) ++ [.int ((n : Int) + 1)]), .non, .str "1", .tup ((intsD o).take (n - 1) ++ [zz]), .dct [(.inl 1, .int 1)]]))) (some (.dat dw)) h4) (ifF_f (alt_f (ne_s oko (by simp) ?_ ?_)) rfl) ?_
  · unfold rS2
    generalize armD bs = A at *
    generalize (intsD o).take (n - 1) = Tk at *
    generalize (intsD o).drop 1 = Dr at *
    generalize intsD o = N at *
    simp [l3]
  · simp
  exact rf_last em n1 n4 O _ _ _ _
end
end Law
set_option Elab.async false
set_option linter.all false
set_option maxRecDepth 100000
set_option maxHeartbeats 8000000
namespace Law
open PySem PySem.Spec PyProof.Rows L2 Fd
theorem num_pos {r : Rat} (h : 0 < r) : 0 < r.num := by
  have h1 := Rat.num_nonneg.mpr (Rat.le_of_lt h)
  have h2 : r.num ≠ 0 := fun z => by
    rw [Rat.num_eq_zero.mp z] at h
    exact absurd h (by decide)
  omega
theorem frac_pos {a b : Int} (ha : 0 < a) (hb : 0 < b) : 0 < (a : Rat) / (b : Rat) := by
  rw [Rat.div_def]
  exact Rat.mul_pos (Rat.intCast_pos.mpr ha) (Rat.inv_pos.mpr (Rat.intCast_pos.mpr hb))
theorem inv_pos' {s : Rat} (h : 0 < s) : 0 < 1 / s := by
  rw [Rat.div_def, Rat.one_mul]
  exact Rat.inv_pos.mpr h
theorem grow_back {s : Rat} (h : s ≠ 0) (bs : List Bar) : (bs.map (growB s)).map (growB (1 / s)) = bs := by
  rw [List.map_map]
  conv => rhs; rw [← List.map_id bs]
  congr 1
  funext b
  show (⟨b.h, b.m * s * (1 / s), b.l⟩ : Bar) = b
  have : b.m * s * (1 / s) = b.m := by grind
  rw [this]
theorem shift_back (t : Rat) (bs : List Bar) : (bs.map (shiftB t)).map (shiftB (-t)) = bs := by
  rw [List.map_map]
  conv => rhs; rw [← List.map_id bs]
  congr 1
  funext b
  show (⟨b.h, if b.h = -1 then (if b.h = -1 then b.m + t else b.m) + -t else (if b.h = -1 then b.m + t else b.m), b.l⟩ : Bar) = b
  by_cases c : b.h = -1
  · have : b.m + t + -t = b.m := by grind
    simp [c, this]
    cases b
    simp at c
    rw [c]
  · simp [c]
theorem grow_sz {bs : List Bar} {s : Rat} (hs : Rb 160 s) (h : ∀ b ∈ bs, Rb 160 b.m) : ∀ b ∈ bs.map (growB s), Rb 400 b.m := fun b hb => by
  obtain ⟨c, hc, rfl⟩ := List.mem_map.mp hb
  exact ((h c hc).mul hs).mono (by decide)
theorem shift_sz {bs : List Bar} {s : Rat} (hs : Rb 160 s) (h : ∀ b ∈ bs, Rb 160 b.m) : ∀ b ∈ bs.map (shiftB s), Rb 400 b.m := fun b hb => by
  obtain ⟨c, hc, rfl⟩ := List.mem_map.mp hb
  show Rb 400 (if c.h = -1 then c.m + s else c.m)
  split
  · exact ((h c hc).add hs).mono (by decide)
  · exact (h c hc).mono (by decide)
theorem name_sz {bs : List Bar} {o : List Int} (h : ∀ b ∈ bs, Rb 160 b.m) : ∀ b ∈ bs.map (nameB o), Rb 400 b.m := fun b hb => by
  obtain ⟨c, hc, rfl⟩ := List.mem_map.mp hb
  exact (h c hc).mono (by decide)
/-! ## rows of ratios as data -/
abbrev qS : Rat → SV := fun r => .dat (qr r)
theorem qS_dat (f : List Rat) : datL (f.map qS) = some (f.map qr) := ratS_dat f
theorem map_q (f : List Rat) : (f.map qr).map SV.dat = f.map qS := by rw [List.map_map]; rfl
theorem ok_rowL (f : List Rat) : okD (.lst (f.map qr)) = true := by
  refine okD_of ?_ ?_
  · show D.fines (f.map qr) = true
    refine fines_all fun d hd => ?_
    obtain ⟨b, _, rfl⟩ := List.mem_map.mp hd
    simp [qr, D.fine, D.fines]
  · have := deps_all (n := 2) (ds := f.map qr) fun d hd => by
      obtain ⟨b, _, rfl⟩ := List.mem_map.mp hd
      simp [qr, D.dep, D.deps]
    simp [D.dep]
    omega
theorem ok_row (f : List Rat) : okD (rowT f) = true := by
  refine okD_of ?_ ?_
  · show D.fines (f.map qr) = true
    refine fines_all fun d hd => ?_
    obtain ⟨b, _, rfl⟩ := List.mem_map.mp hd
    simp [qr, D.fine, D.fines]
  · have := deps_all (n := 2) (ds := f.map qr) fun d hd => by
      obtain ⟨b, _, rfl⟩ := List.mem_map.mp hd
      simp [qr, D.dep, D.deps]
    simp [rowT, D.dep]
    omega
theorem eq_qs : ∀ f : List Rat, eqDs (f.map qr) (f.map qr) = true
  | [] => rfl
  | x :: xs => by
    show (eqD (qr x) (qr x) && eqDs (xs.map qr) (xs.map qr)) = _
    rw [eqD_qr, eq_qs xs, decide_eq_true rfl]
    rfl
theorem eq_rr (f : List Rat) : eqD (rowT f) (rowT f) = true := by
  unfold rowT
  rw [eqD_tup, eq_qs]
theorem ok_q (r : Rat) : okD (qr r) = true := okD_of (by simp [qr, D.fine, D.fines]) (by simp [qr, D.dep, D.deps])
theorem eq_q (r : Rat) : eqD (qr r) (qr r) = true := by rw [eqD_qr, decide_eq_true rfl]
theorem at_q {f : List Rat} {i : Nat} (h : i < f.length) : atI (f.map qr) (i : Int) = some (qr (f.getD i 0)) := by
  rw [atI_nat (by simpa using h)]
  simp [h]
/-- two fresh lists of the same ratios -/
theorem ne_newq {m1 m3' : M RV} {f : List Rat} {st : S} (e1 : m1 st = .ok (.new (f.map qS)) st) (e2 : m3' st = .ok (.new (f.map qS)) st) : bnd (m2 m1 m3' neM) asB st = .ok false st := by
  have e : ∀ s, deep s (.new (f.map qS)) = some (.lst (f.map qr)) := fun s => by
    show (match datL (f.map qS) with
      | some ds => some (D.lst ds)
      | none => none) = _
    rw [qS_dat]
  have o := ok_rowL f
  have q : eqD (.lst (f.map qr)) (.lst (f.map qr)) = true := by rw [eqD_lst, eq_qs]
  generalize f.map qS = Z at *
  simp [e1, e2, e, o, q]
abbrev ixS : Nat → SV := fun i => .dat (.int (0 + (i : Nat)))
theorem range_ix (n : Nat) : rangeL 0 n = (List.range n).map ixS := rfl
theorem row_sz {bs : List Bar} (M : Most bs) {n : Int} {m : Rat} (hm : Rb 400 m) : ∀ r ∈ rowF bs n m, Rb 4000 r := fun r hr => by
  have o6 := M.fit.six
  exact (line_small M.fit (bs.length + 1) n m _ 0 hm (zeros_small _) r hr).mono (by omega)
theorem row_len {bs : List Bar} (M : Most bs) (n : Int) (m : Rat) : (rowF bs n m).length = (mostL bs + 1).toNat := (line_len M.fit _ _ _ _).trans (by simp)
theorem add_cons {f : List Rat} (h : 0 < f.length) (t : Rat) : addAt f 0 t = (f.getD 0 0 + t) :: f.drop 1 := by
  cases f with
  | nil => simp at h
  | cons a f => rfl
theorem nt_at {i : Nat} {d : D} {s : S} (e : s.env[i]? = some (some (.dat d))) (t : R_law_tuples 8 [d] = .ret (.dat (.bl true))) : notT (bnd (bnd (consA (getV i) (pur [])) (callM 1 (R_law_tuples 8) [])) truthM) s = .ok false s := by
  simp [e, t]
/-! ## the law's states -/
structure Sc where
  bs : List Bar
  n : Nat
  s : Rat
  t : Rat
  o : List Int
structure Sc.Ok (c : Sc) : Prop where
  B : BarsOk c.bs
  em : mostL c.bs = c.n
  n1 : 1 ≤ c.n
  n4 : c.n ≤ 4
  sp : 0 < c.s
  ss : Rb 160 c.s
  ts : Rb 160 c.t
  O : Ord c.n c.o
def lS (c : Sc) (x8 x9 x10 x14 x15 x16 x18 : Option SV) (h : Hand) : S :=
  ⟨[none, some .hand, some (.dat (.tup (barsT c.bs))), some (.dat (armD c.bs)), some (.dat (.int (c.n : Nat))), some (.dat (qr c.s)), some (.dat (qr c.t)), some (.dat (.tup (intsD c.o))), x8, x9, x10, none, none, none, x14, x15, x16, none, x18, none], [], some h⟩
abbrev gA (c : Sc) : Option SV := some (.dat (armD (c.bs.map (growB c.s))))
abbrev sA (c : Sc) : Option SV := some (.dat (armD (c.bs.map (shiftB c.t))))
abbrev nA (c : Sc) : Option SV := some (.dat (armD (c.bs.map (nameB c.o))))
section
variable {c : Sc} (k : c.Ok)
include k
theorem Sc.Ok.sz : ∀ b ∈ c.bs, Rb 400 b.m := fun b hb => (k.B.mark b hb).mono (by decide)
theorem Sc.Ok.M : Most c.bs := k.B.g.most k.sz
theorem Sc.Ok.gG : BarsG (c.bs.map (growB c.s)) := (k.B.g.map_l (f := growB c.s) (fun _ _ => rfl) (fun _ _ => rfl)).1
theorem Sc.Ok.sG : BarsG (c.bs.map (shiftB c.t)) := (k.B.g.map_l (f := shiftB c.t) (fun _ _ => rfl) (fun _ _ => rfl)).1
theorem Sc.Ok.nG : BarsG (c.bs.map (nameB c.o)) := (k.B.g.named k.em k.O).1
theorem Sc.Ok.gM : Most (c.bs.map (growB c.s)) := k.gG.most (grow_sz k.ss k.B.mark)
theorem Sc.Ok.sM : Most (c.bs.map (shiftB c.t)) := k.sG.most (shift_sz k.ts k.B.mark)
theorem Sc.Ok.nM : Most (c.bs.map (nameB c.o)) := k.nG.most (name_sz k.B.mark)
theorem t6 (h : Hand) : (asgF (bnd (methM 4 "grown" 2 R_Arms_grown [] (getV 3) (consA (getV 5) (pur []))) frz) (setV 8)) (lS c none none none none none none none h) = .ok .nx (lS c (gA c) none none none none none none h) := by
  have e := gr_good k.B.g (num_pos k.sp) k.ss k.sz
  unfold lS gA
  generalize armD (c.bs.map (growB c.s)) = A2 at *
  unfold armD at *
  generalize barsT c.bs = T at *
  generalize mostL c.bs = ml at *
  generalize intsD c.o = N at *
  simp [e, List.lookup]
theorem t7 (h : Hand) : (asgF (bnd (methM 4 "shifted" 2 R_Arms_shifted [] (getV 3) (consA (getV 6) (pur []))) frz) (setV 9)) (lS c (gA c) none none none none none none h) = .ok .nx (lS c (gA c) (sA c) none none none none none h) := by
  have e := sh_good k.B.g k.ts k.sz
  unfold lS gA sA
  generalize armD (c.bs.map (growB c.s)) = A2 at *
  generalize armD (c.bs.map (shiftB c.t)) = A3 at *
  unfold armD at *
  generalize barsT c.bs = T at *
  generalize mostL c.bs = ml at *
  generalize intsD c.o = N at *
  simp [e, List.lookup]
theorem t8 (h : Hand) : ∃ h', (asgF (bnd (methM 4 "renamed" 2 R_Arms_renamed [] (getV 3) (consA (bnd (ifE (bnd (bnd (consA (getV 1) (consA (pur (RI 2)) (pur []))) (callH 2 R_law_take [])) truthM) (bnd (consB (getV 7) (pur [])) listM) (getV 7)) frz) (pur []))) frz) (setV 10)) (lS c (gA c) (sA c) none none none none none h) = .ok .nx (lS c (gA c) (sA c) (nA c) none none none none h') := by
  obtain ⟨t, h1, e1, t0, t1⟩ := take_ex (n := 2) h (lg9 (by decide))
  have r1 := rn_good k.B.g k.em k.n4 k.O (d := .tup (intsD c.o)) rfl
  have r2 := rn_good k.B.g k.em k.n4 k.O (d := .lst (intsD c.o)) rfl
  have dl := datL_map (intsD c.o)
  refine ⟨h1, ?_⟩
  unfold lS gA sA nA
  generalize armD (c.bs.map (growB c.s)) = A2 at *
  generalize armD (c.bs.map (shiftB c.t)) = A3 at *
  generalize armD (c.bs.map (nameB c.o)) = A4 at *
  unfold armD at *
  generalize barsT c.bs = T at *
  generalize mostL c.bs = ml at *
  generalize intsD c.o = N at *
  by_cases z : t = 0
  · simp [e1, z, r1, List.lookup]
  · have z' : (t != 0) = true := by simp [z]
    simp [e1, z', r2, dl, List.lookup]
theorem t9 (h : Hand) : (ifF (bnd (m2 (bnd (getV 8) (fldM [4] "bars")) (bnd (consB (lcM (bnd (getV 2) seqSrc) [11, 12, 13] (seqG (consG (setV 11) (consG (setV 12) (consG (setV 13) nilG))) 3) (pur true) (bnd (consA (getV 11) (consA (bnd (consA (getV 12) (consA (getV 5) (pur []))) (callM 2 R_law_times [])) (consA (getV 13) (pur [])))) tupM)) (pur [])) tupleM) neM) asB) (retF (pur (RB false))) (pur .nx)) (lS c (gA c) (sA c) (nA c) none none none none h) = .ok .nx (lS c (gA c) (sA c) (nA c) none none none none h) := by
  refine ifF_f (ne_s (ok_bars (c.bs.map (growB c.s))) ((eqD_tup _ _).trans (eq_self (c.bs.map (growB c.s)))) ?_ ?_) rfl
  · unfold lS gA sA nA armD
    generalize barsT (c.bs.map (growB c.s)) = A2 at *
    generalize barsT (c.bs.map (shiftB c.t)) = A3 at *
    generalize barsT (c.bs.map (nameB c.o)) = A4 at *
    generalize barsT c.bs = T at *
    generalize intsD c.o = N at *
    simp [List.lookup]
  · have q := fun l => comp_bars (l := l) (vs := [11, 12, 13]) (f := seqG (consG (setV 11) (consG (setV 12) (consG (setV 13) nilG))) 3) (tt := pur true) (me := bnd (consA (getV 11) (consA (bnd (consA (getV 12) (consA (getV 5) (pur []))) (callM 2 R_law_times [])) (consA (getV 13) (pur [])))) tupM) (st := lS c (gA c) (sA c) (nA c) none none none none h) (growB c.s) k.B.many.2 fun b hb =>
      ⟨⟨[none, some .hand, some (.dat (.tup (barsT c.bs))), some (.dat (armD c.bs)), some (.dat (.int (c.n : Nat))), some (.dat (qr c.s)), some (.dat (qr c.t)), some (.dat (.tup (intsD c.o))), gA c, sA c, nA c, some (.dat (.int b.h)), some (.dat (qr b.m)), some (.dat (.int b.l)), none, none, none, none, none, none], [], some h⟩, ⟨[none, some .hand, some (.dat (.tup (barsT c.bs))), some (.dat (armD c.bs)), some (.dat (.int (c.n : Nat))), some (.dat (qr c.s)), some (.dat (qr c.t)), some (.dat (.tup (intsD c.o))), gA c, sA c, nA c, some (.dat (.int b.h)), some (.dat (qr b.m)), some (.dat (.int b.l)), none, none, none, none, none, none], [], some h⟩, ⟨[none, some .hand, some (.dat (.tup (barsT c.bs))), some (.dat (armD c.bs)), some (.dat (.int (c.n : Nat))), some (.dat (qr c.s)), some (.dat (qr c.t)), some (.dat (.tup (intsD c.o))), gA c, sA c, nA c, some (.dat (.int b.h)), some (.dat (qr b.m)), some (.dat (.int b.l)), none, none, none, none, none, none], [], some h⟩, rfl, rfl, by
        have e := r_law_times (k.sz b hb) k.ss
        unfold gA sA nA bS barL growB
        generalize armD _ = A
        generalize armD _ = A
        generalize armD _ = A
        generalize armD _ = A
        generalize barsT c.bs = T
        generalize intsD c.o = N
        simp [e], rfl⟩
    have dd := datL_map (barsT (c.bs.map (growB c.s)))
    unfold lS gA sA nA at *
    generalize armD (c.bs.map (growB c.s)) = A2 at *
    generalize armD (c.bs.map (shiftB c.t)) = A3 at *
    generalize armD (c.bs.map (nameB c.o)) = A4 at *
    generalize armD c.bs = A at *
    generalize barsT (c.bs.map (growB c.s)) = T2 at *
    generalize barsT c.bs = T at *
    generalize intsD c.o = N at *
    simp [q, dd]
theorem t10 (h : Hand) : (ifF (bnd (m2 (bnd (getV 9) (fldM [4] "bars")) (bnd (consB (lcM (bnd (getV 2) seqSrc) [11, 12, 13] (seqG (consG (setV 11) (consG (setV 12) (consG (setV 13) nilG))) 3) (pur true) (bnd (consA (getV 11) (consA (ifE (bnd (m2 (getV 11) (bnd (pur (RI 1)) negM) eqM) asB) (bnd (consA (getV 12) (consA (getV 6) (pur []))) (callM 2 R_law_plus [])) (getV 12)) (consA (getV 13) (pur [])))) tupM)) (pur [])) tupleM) neM) asB) (retF (pur (RB false))) (pur .nx)) (lS c (gA c) (sA c) (nA c) none none none none h) = .ok .nx (lS c (gA c) (sA c) (nA c) none none none none h) := by
  refine ifF_f (ne_s (ok_bars (c.bs.map (shiftB c.t))) ((eqD_tup _ _).trans (eq_self (c.bs.map (shiftB c.t)))) ?_ ?_) rfl
  · unfold lS gA sA nA armD
    generalize barsT (c.bs.map (growB c.s)) = A2 at *
    generalize barsT (c.bs.map (shiftB c.t)) = A3 at *
    generalize barsT (c.bs.map (nameB c.o)) = A4 at *
    generalize barsT c.bs = T at *
    generalize intsD c.o = N at *
    simp [List.lookup]
  · have q := fun l => comp_bars (l := l) (vs := [11, 12, 13]) (f := seqG (consG (setV 11) (consG (setV 12) (consG (setV 13) nilG))) 3) (tt := pur true) (me := bnd (consA (getV 11) (consA (ifE (bnd (m2 (getV 11) (bnd (pur (RI 1)) negM) eqM) asB) (bnd (consA (getV 12) (consA (getV 6) (pur []))) (callM 2 R_law_plus [])) (getV 12)) (consA (getV 13) (pur [])))) tupM) (st := lS c (gA c) (sA c) (nA c) none none none none h) (shiftB c.t) k.B.many.2 fun b hb =>
      ⟨⟨[none, some .hand, some (.dat (.tup (barsT c.bs))), some (.dat (armD c.bs)), some (.dat (.int (c.n : Nat))), some (.dat (qr c.s)), some (.dat (qr c.t)), some (.dat (.tup (intsD c.o))), gA c, sA c, nA c, some (.dat (.int b.h)), some (.dat (qr b.m)), some (.dat (.int b.l)), none, none, none, none, none, none], [], some h⟩, ⟨[none, some .hand, some (.dat (.tup (barsT c.bs))), some (.dat (armD c.bs)), some (.dat (.int (c.n : Nat))), some (.dat (qr c.s)), some (.dat (qr c.t)), some (.dat (.tup (intsD c.o))), gA c, sA c, nA c, some (.dat (.int b.h)), some (.dat (qr b.m)), some (.dat (.int b.l)), none, none, none, none, none, none], [], some h⟩, ⟨[none, some .hand, some (.dat (.tup (barsT c.bs))), some (.dat (armD c.bs)), some (.dat (.int (c.n : Nat))), some (.dat (qr c.s)), some (.dat (qr c.t)), some (.dat (.tup (intsD c.o))), gA c, sA c, nA c, some (.dat (.int b.h)), some (.dat (qr b.m)), some (.dat (.int b.l)), none, none, none, none, none, none], [], some h⟩, rfl, rfl, by
        have e := r_law_plus (k.sz b hb) k.ts
        unfold gA sA nA bS barL shiftB
        generalize armD _ = A
        generalize armD _ = A
        generalize armD _ = A
        generalize armD _ = A
        generalize barsT c.bs = T
        generalize intsD c.o = N
        by_cases z : b.h = -1
        · simp [e, z]
        · simp [z], rfl⟩
    have dd := datL_map (barsT (c.bs.map (shiftB c.t)))
    unfold lS gA sA nA at *
    generalize armD (c.bs.map (growB c.s)) = A2 at *
    generalize armD (c.bs.map (shiftB c.t)) = A3 at *
    generalize armD (c.bs.map (nameB c.o)) = A4 at *
    generalize armD c.bs = A at *
    generalize barsT (c.bs.map (shiftB c.t)) = T2 at *
    generalize barsT c.bs = T at *
    generalize intsD c.o = N at *
    simp [q, dd]
theorem t11 (h : Hand) : (ifF (orT (bnd (m2 (bnd (getV 10) (fldM [4] "bars")) (bnd (consA (getV 2) (consA (getV 7) (pur []))) (callM 2 R_law_renamed [])) neM) asB) (orT (bnd (m2 (bnd (getV 10) (fldM [4] "letters")) (getV 4) neM) asB) (notT (bnd (bnd (consA (bnd (m2 (m2 (bnd (getV 10) (fldM [4] "bars")) (bnd (getV 8) (fldM [4] "bars")) addM) (bnd (getV 9) (fldM [4] "bars")) addM) frz) (pur [])) (callM 1 (R_law_tuples 8) [])) truthM)))) (retF (pur (RB false))) (pur .nx)) (lS c (gA c) (sA c) (nA c) none none none none h) = .ok .nx (lS c (gA c) (sA c) (nA c) none none none none h) := by
  refine ifF_f (orT_s (ne_s (ok_bars (c.bs.map (nameB c.o))) ((eqD_tup _ _).trans (eq_self (c.bs.map (nameB c.o)))) ?_ ?_) (orT_s (ne_s (d := .int (c.n : Nat)) rfl (by simp) ?_ (get_at rfl)) (notT_s ?_))) rfl
  · unfold lS gA sA nA armD
    generalize barsT (c.bs.map (growB c.s)) = A2 at *
    generalize barsT (c.bs.map (shiftB c.t)) = A3 at *
    generalize barsT (c.bs.map (nameB c.o)) = A4 at *
    generalize barsT c.bs = T at *
    generalize intsD c.o = N at *
    simp [List.lookup]
  · have e := lr_val k.B.g k.em k.O k.n4
    unfold lS gA sA nA at *
    generalize armD (c.bs.map (growB c.s)) = A2 at *
    generalize armD (c.bs.map (shiftB c.t)) = A3 at *
    generalize armD (c.bs.map (nameB c.o)) = A4 at *
    generalize armD c.bs = A at *
    generalize barsT (c.bs.map (nameB c.o)) = T2 at *
    generalize barsT c.bs = T at *
    generalize intsD c.o = N at *
    simp [e]
  · have e := (k.B.g.named k.em k.O).2
    unfold lS gA sA nA armD
    rw [e]
    generalize barsT (c.bs.map (growB c.s)) = A2 at *
    generalize barsT (c.bs.map (shiftB c.t)) = A3 at *
    generalize barsT (c.bs.map (nameB c.o)) = A4 at *
    generalize barsT c.bs = T at *
    generalize intsD c.o = N at *
    simp [List.lookup]
  · have l1 := barsT_len (c.bs.map (nameB c.o))
    have l2 := barsT_len (c.bs.map (growB c.s))
    have l3 := barsT_len (c.bs.map (shiftB c.t))
    rw [List.length_map] at l1 l2 l3
    have six := k.B.many.2
    have v := v_tuples (c.bs.map (nameB c.o) ++ (c.bs.map (growB c.s) ++ c.bs.map (shiftB c.t)))
    have e : barsT (c.bs.map (nameB c.o) ++ (c.bs.map (growB c.s) ++ c.bs.map (shiftB c.t))) = barsT (c.bs.map (nameB c.o)) ++ (barsT (c.bs.map (growB c.s)) ++ barsT (c.bs.map (shiftB c.t))) := by unfold barsT; rw [List.map_append, List.map_append]
    rw [e] at v
    unfold lS gA sA nA armD
    generalize barsT (c.bs.map (growB c.s)) = A2 at *
    generalize barsT (c.bs.map (shiftB c.t)) = A3 at *
    generalize barsT (c.bs.map (nameB c.o)) = A4 at *
    generalize barsT c.bs = T at *
    generalize intsD c.o = N at *
    have b1 : A4.length + A2.length ≤ 100000 := by omega
    have b2 : A4.length + A2.length + A3.length ≤ 100000 := by omega
    simp [List.lookup, b1, b2, v]
end
end Law
set_option Elab.async false
set_option linter.all false
set_option maxRecDepth 100000
set_option maxHeartbeats 8000000
namespace Law
open PySem PySem.Spec PyProof.Rows L2 Fd
abbrev plS (n : Int) (m : Rat) : Option SV := some (.dat (.tup [.int n, qr m]))
abbrev nS (n : Int) : Option SV := some (.dat (.int n))
abbrev rwS (f : List Rat) : Option SV := some (.dat (rowT f))
noncomputable abbrev lB : M Fl := (seqF (asgF (bnd (consA (getV 14) (consA (bnd (consA (getV 1) (pur [])) (callH 1 R_law_mark [])) (pur []))) tupM) (setV 15))
    (seqF (asgF (bnd (methM 4 "row_of" 2 R_Arms_row_of [] (getV 3) (consA (getV 15) (pur []))) frz) (setV 16))
    (seqF (ifF (bnd (m2 (methM 4 "row_of" 2 R_Arms_row_of [] (getV 8) (consA (bnd (consA (getV 15) (consA (getV 5) (pur []))) (callM 2 R_law_grown_place [])) (pur []))) (bnd (consB (lcM (bnd (getV 16) seqSrc) [17] (setV 17) (pur true) (bnd (consA (getV 17) (consA (getV 5) (pur []))) (callM 2 R_law_times []))) (pur [])) tupleM) neM) asB) (retF (pur (RB false))) (pur .nx))
    (seqF (ifF (bnd (m2 (methM 4 "row_of" 2 R_Arms_row_of [] (getV 9) (consA (bnd (consA (getV 15) (consA (getV 6) (pur []))) (callM 2 R_law_moved_place [])) (pur []))) (m2 (bnd (consA (bnd (consA (m2 (getV 16) (pur (RI 0)) ixM) (consA (getV 6) (pur []))) (callM 2 R_law_plus [])) (pur [])) tupM) (m3 (getV 16) (bnd (pur (RI 1)) asI) (pur none)) addM) neM) asB) (retF (pur (RB false))) (pur .nx))
    (seqF (asgF (bnd (methM 4 "row_of" 2 R_Arms_row_of [] (getV 10) (consA (getV 15) (pur []))) frz) (setV 18))
    (ifF (orT (bnd (m2 (m2 (getV 18) (pur (RI 0)) ixM) (m2 (getV 16) (pur (RI 0)) ixM) neM) asB) (bnd (m2 (lcM (bnd (consB (getV 4) (pur [])) rng1) [19] (setV 19) (pur true) (m2 (getV 18) (m2 (getV 7) (getV 19) ixM) ixM)) (bnd (consB (m3 (getV 16) (bnd (pur (RI 1)) asI) (pur none)) (pur [])) listM) neM) asB)) (retF (pur (RB false))) (pur .nx)))))))
section
variable {c : Sc} (k : c.Ok) {p : Int} {m : Rat} (p0 : -1 ≤ p) (p1 : p < c.bs.length) (hm : Rb 160 m)
include k
theorem b0 (x15 x16 x18 : Option SV) (h : Hand) : ∃ m h', Rb 160 m ∧ (asgF (bnd (consA (getV 14) (consA (bnd (consA (getV 1) (pur [])) (callH 1 R_law_mark [])) (pur []))) tupM) (setV 15)) (lS c (gA c) (sA c) (nA c) (nS p) x15 x16 x18 h) = .ok .nx (lS c (gA c) (sA c) (nA c) (nS p) (plS p m) x16 x18 h') := by
  obtain ⟨r, h2, e2, hr⟩ := v_mark h
  refine ⟨r, h2, hr, ?_⟩
  unfold lS gA sA nA nS plS
  generalize armD (c.bs.map (growB c.s)) = A2 at *
  generalize armD (c.bs.map (shiftB c.t)) = A3 at *
  generalize armD (c.bs.map (nameB c.o)) = A4 at *
  generalize armD c.bs = A at *
  generalize barsT c.bs = T at *
  generalize intsD c.o = N at *
  simp [e2]
include p0 p1 hm
theorem b1 (x16 x18 : Option SV) (h : Hand) : (asgF (bnd (methM 4 "row_of" 2 R_Arms_row_of [] (getV 3) (consA (getV 15) (pur []))) frz) (setV 16)) (lS c (gA c) (sA c) (nA c) (nS p) (plS p m) x16 x18 h) = .ok .nx (lS c (gA c) (sA c) (nA c) (nS p) (plS p m) (rwS (rowF c.bs p m)) x18 h) := by
  have e := ro_good k.M (n := p) (m := m) ⟨p0, p1, hm.mono (by decide)⟩ (d := .tup [.int p, qr m]) rfl
  unfold lS gA sA nA nS plS rwS
  generalize armD (c.bs.map (growB c.s)) = A2 at *
  generalize armD (c.bs.map (shiftB c.t)) = A3 at *
  generalize armD (c.bs.map (nameB c.o)) = A4 at *
  generalize rowT (rowF c.bs p m) = R at *
  unfold armD at *
  generalize barsT c.bs = T at *
  generalize mostL c.bs = ml at *
  generalize intsD c.o = N at *
  simp [e, List.lookup]
theorem b2 (x18 : Option SV) (h : Hand) : (ifF (bnd (m2 (methM 4 "row_of" 2 R_Arms_row_of [] (getV 8) (consA (bnd (consA (getV 15) (consA (getV 5) (pur []))) (callM 2 R_law_grown_place [])) (pur []))) (bnd (consB (lcM (bnd (getV 16) seqSrc) [17] (setV 17) (pur true) (bnd (consA (getV 17) (consA (getV 5) (pur []))) (callM 2 R_law_times []))) (pur [])) tupleM) neM) asB) (retF (pur (RB false))) (pur .nx)) (lS c (gA c) (sA c) (nA c) (nS p) (plS p m) (rwS (rowF c.bs p m)) x18 h) = .ok .nx (lS c (gA c) (sA c) (nA c) (nS p) (plS p m) (rwS (rowF c.bs p m)) x18 h) := by
  have r := row_grown k.B.g c.s p m
  refine ifF_f (ne_s (ok_row ((rowF c.bs p m).map (· * c.s))) (eq_rr _) ?_ ?_) rfl
  · have e1 := gp_val (n := p) (hm.mono (m := 400) (by decide)) k.ss
    have e := ro_good k.gM (n := p) (m := m * c.s) ⟨p0, by rw [List.length_map]; exact p1, (hm.mul k.ss).mono (by decide)⟩ (d := .tup [.int p, qr (m * c.s)]) rfl
    rw [r] at e
    unfold lS gA sA nA nS plS rwS
    generalize armD (c.bs.map (shiftB c.t)) = A3 at *
    generalize armD (c.bs.map (nameB c.o)) = A4 at *
    generalize armD c.bs = A at *
    generalize rowT ((rowF c.bs p m).map (· * c.s)) = R2 at *
    generalize rowT (rowF c.bs p m) = R at *
    unfold armD at *
    generalize barsT (c.bs.map (growB c.s)) = T2 at *
    generalize mostL (c.bs.map (growB c.s)) = ml at *
    generalize barsT c.bs = T at *
    generalize intsD c.o = N at *
    simp [e1, e, List.lookup]
  · have q := fun l => lcL_list (l := l) (vs := [17]) (f := setV 17) (tt := pur true) (me := bnd (consA (getV 17) (consA (getV 5) (pur []))) (callM 2 R_law_times [])) (st := lS c (gA c) (sA c) (nA c) (nS p) (plS p m) (rwS (rowF c.bs p m)) x18 h) qS (fun r => qS (r * c.s)) (rowF c.bs p m) [] (by have := row_len k.M p m; have := k.M.four; simp; omega) fun r hr =>
      ⟨⟨[none, some .hand, some (.dat (.tup (barsT c.bs))), some (.dat (armD c.bs)), some (.dat (.int (c.n : Nat))), some (.dat (qr c.s)), some (.dat (qr c.t)), some (.dat (.tup (intsD c.o))), gA c, sA c, nA c, none, none, none, nS p, plS p m, rwS (rowF c.bs p m), some (qS r), x18, none], [], some h⟩, ⟨[none, some .hand, some (.dat (.tup (barsT c.bs))), some (.dat (armD c.bs)), some (.dat (.int (c.n : Nat))), some (.dat (qr c.s)), some (.dat (qr c.t)), some (.dat (.tup (intsD c.o))), gA c, sA c, nA c, none, none, none, nS p, plS p m, rwS (rowF c.bs p m), some (qS r), x18, none], [], some h⟩, ⟨[none, some .hand, some (.dat (.tup (barsT c.bs))), some (.dat (armD c.bs)), some (.dat (.int (c.n : Nat))), some (.dat (qr c.s)), some (.dat (qr c.t)), some (.dat (.tup (intsD c.o))), gA c, sA c, nA c, none, none, none, nS p, plS p m, rwS (rowF c.bs p m), some (qS r), x18, none], [], some h⟩, rfl, rfl, by
        have e := r_law_times (row_sz k.M (hm.mono (by decide)) r hr) k.ss
        unfold gA sA nA nS plS rwS
        generalize armD _ = A
        generalize armD _ = A
        generalize armD _ = A
        generalize armD _ = A
        generalize barsT c.bs = T
        generalize intsD c.o = N
        generalize rowT _ = R
        simp [e], rfl⟩
    rw [List.nil_append] at q
    have mm := map_q (rowF c.bs p m)
    have d := qS_dat ((rowF c.bs p m).map (· * c.s))
    rw [List.map_map] at d
    have d' : datL ((rowF c.bs p m).map fun r => qS (r * c.s)) = some (((rowF c.bs p m).map (· * c.s)).map qr) := d
    unfold lS gA sA nA nS plS rwS at *
    unfold rowT at *
    generalize armD (c.bs.map (growB c.s)) = A2 at *
    generalize armD (c.bs.map (shiftB c.t)) = A3 at *
    generalize armD (c.bs.map (nameB c.o)) = A4 at *
    generalize armD c.bs = A at *
    generalize barsT c.bs = T at *
    generalize intsD c.o = N at *
    generalize ((rowF c.bs p m).map (· * c.s)).map qr = R at *
    generalize (rowF c.bs p m).map (fun r => qS (r * c.s)) = R2 at *
    generalize (rowF c.bs p m).map qS = Z at *
    generalize (rowF c.bs p m).map qr = Y at *
    simp [mm, q, d']
theorem b3 (x18 : Option SV) (h : Hand) : (ifF (bnd (m2 (methM 4 "row_of" 2 R_Arms_row_of [] (getV 9) (consA (bnd (consA (getV 15) (consA (getV 6) (pur []))) (callM 2 R_law_moved_place [])) (pur []))) (m2 (bnd (consA (bnd (consA (m2 (getV 16) (pur (RI 0)) ixM) (consA (getV 6) (pur []))) (callM 2 R_law_plus [])) (pur [])) tupM) (m3 (getV 16) (bnd (pur (RI 1)) asI) (pur none)) addM) neM) asB) (retF (pur (RB false))) (pur .nx)) (lS c (gA c) (sA c) (nA c) (nS p) (plS p m) (rwS (rowF c.bs p m)) x18 h) = .ok .nx (lS c (gA c) (sA c) (nA c) (nS p) (plS p m) (rwS (rowF c.bs p m)) x18 h) := by
  have r := row_shift k.B.g k.M c.t m p0 p1
  have rl := row_len k.M p m
  have o1 := k.M.one
  have o4 := k.M.four
  have h0 : 0 < (rowF c.bs p m).length := by omega
  refine ifF_f (ne_s (ok_row (addAt (rowF c.bs p m) 0 c.t)) (eq_rr _) ?_ ?_) rfl
  · have e1 := mp_val (n := p) (hm.mono (m := 400) (by decide)) k.ts
    have sz : Rb 400 (if p = -1 then m + c.t else m) := by
      split
      · exact (hm.add k.ts).mono (by decide)
      · exact hm.mono (by decide)
    have e := ro_good k.sM (n := p) (m := if p = -1 then m + c.t else m) ⟨p0, by rw [List.length_map]; exact p1, sz⟩ (d := .tup [.int p, qr (if p = -1 then m + c.t else m)]) rfl
    rw [r] at e
    unfold lS gA sA nA nS plS rwS
    generalize armD (c.bs.map (growB c.s)) = A3 at *
    generalize armD (c.bs.map (nameB c.o)) = A4 at *
    generalize armD c.bs = A at *
    generalize rowT (addAt (rowF c.bs p m) 0 c.t) = R2 at *
    generalize rowT (rowF c.bs p m) = R at *
    generalize (if p = -1 then m + c.t else m) = mk at *
    unfold armD at *
    generalize barsT (c.bs.map (shiftB c.t)) = T2 at *
    generalize mostL (c.bs.map (shiftB c.t)) = ml at *
    generalize barsT c.bs = T at *
    generalize intsD c.o = N at *
    simp [e1, e, List.lookup]
  · have a0 := at_q (f := rowF c.bs p m) h0
    rw [show ((0 : Nat) : Int) = 0 from rfl] at a0
    have g0 : Rb 4000 ((rowF c.bs p m).getD 0 0) := by
      rw [List.getD_eq_getElem?_getD, List.getElem?_eq_getElem h0]
      exact row_sz k.M (hm.mono (by decide)) _ (List.getElem_mem h0)
    have e := r_law_plus g0 k.ts
    have cf : cutD ((rowF c.bs p m).map qr) (some 1) none = ((rowF c.bs p m).drop 1).map qr := by
      rw [List.map_drop]
      exact cut_from (k := 1) (by rw [List.length_map]; omega)
    have ac := add_cons h0 c.t
    have l1 : 1 + (((rowF c.bs p m).drop 1).map qr).length ≤ 100000 := by rw [List.length_map, List.length_drop]; omega
    have ff : rowT (addAt (rowF c.bs p m) 0 c.t) = .tup (qr ((rowF c.bs p m).getD 0 0 + c.t) :: ((rowF c.bs p m).drop 1).map qr) := by
      rw [ac]
      rfl
    rw [ff]
    unfold lS gA sA nA nS plS rwS
    unfold rowT at *
    clear r ff ac rl h0
    generalize armD (c.bs.map (growB c.s)) = A2 at *
    generalize armD (c.bs.map (shiftB c.t)) = A3 at *
    generalize armD (c.bs.map (nameB c.o)) = A4 at *
    generalize armD c.bs = A at *
    generalize barsT c.bs = T at *
    generalize intsD c.o = N at *
    generalize (rowF c.bs p m).getD 0 0 + c.t = v at *
    generalize (rowF c.bs p m).getD 0 0 = u at *
    generalize ((rowF c.bs p m).drop 1).map qr = Z at *
    generalize (rowF c.bs p m).map qr = Y at *
    simp [a0, e, cf, l1]
theorem b4 (x18 : Option SV) (h : Hand) : (asgF (bnd (methM 4 "row_of" 2 R_Arms_row_of [] (getV 10) (consA (getV 15) (pur []))) frz) (setV 18)) (lS c (gA c) (sA c) (nA c) (nS p) (plS p m) (rwS (rowF c.bs p m)) x18 h) = .ok .nx (lS c (gA c) (sA c) (nA c) (nS p) (plS p m) (rwS (rowF c.bs p m)) (rwS (rowF (c.bs.map (nameB c.o)) p m)) h) := by
  have e := ro_good k.nM (n := p) (m := m) ⟨p0, by rw [List.length_map]; exact p1, hm.mono (by decide)⟩ (d := .tup [.int p, qr m]) rfl
  unfold lS gA sA nA nS plS rwS
  generalize armD (c.bs.map (growB c.s)) = A2 at *
  generalize armD (c.bs.map (shiftB c.t)) = A3 at *
  generalize armD c.bs = A at *
  generalize rowT (rowF c.bs p m) = R at *
  generalize rowT (rowF (c.bs.map (nameB c.o)) p m) = R2 at *
  unfold armD at *
  generalize barsT (c.bs.map (nameB c.o)) = T2 at *
  generalize mostL (c.bs.map (nameB c.o)) = ml at *
  generalize barsT c.bs = T at *
  generalize intsD c.o = N at *
  simp [e, List.lookup]
theorem b5 (h : Hand) : (ifF (orT (bnd (m2 (m2 (getV 18) (pur (RI 0)) ixM) (m2 (getV 16) (pur (RI 0)) ixM) neM) asB) (bnd (m2 (lcM (bnd (consB (getV 4) (pur [])) rng1) [19] (setV 19) (pur true) (m2 (getV 18) (m2 (getV 7) (getV 19) ixM) ixM)) (bnd (consB (m3 (getV 16) (bnd (pur (RI 1)) asI) (pur none)) (pur [])) listM) neM) asB)) (retF (pur (RB false))) (pur .nx)) (lS c (gA c) (sA c) (nA c) (nS p) (plS p m) (rwS (rowF c.bs p m)) (rwS (rowF (c.bs.map (nameB c.o)) p m)) h) = .ok .nx (lS c (gA c) (sA c) (nA c) (nS p) (plS p m) (rwS (rowF c.bs p m)) (rwS (rowF (c.bs.map (nameB c.o)) p m)) h) := by
  have L := row_named k.B.g k.em k.O p m
  generalize rowF c.bs p m = f at *
  generalize rowF (c.bs.map (nameB c.o)) p m = g at *
  have n4 := k.n4
  have lf := L.lf
  have lg := L.lg
  have ol := k.O.len
  have z0 := L.eq 0 (Nat.zero_le _)
  rw [nI_0, show (0 : Int).toNat = 0 from rfl] at z0
  have a0 := at_q (f := f) (i := 0) (by omega)
  have a1 := at_q (f := g) (i := 0) (by omega)
  rw [show ((0 : Nat) : Int) = 0 from rfl] at a0 a1
  rw [z0] at a1
  refine ifF_f (orT_s (ne_s (ok_q (f.getD 0 0)) (eq_q _) ?_ ?_) (ne_newq (f := f.drop 1) ?_ ?_)) rfl
  · unfold lS gA sA nA nS plS rwS
    unfold rowT
    generalize armD (c.bs.map (growB c.s)) = A2 at *
    generalize armD (c.bs.map (shiftB c.t)) = A3 at *
    generalize armD (c.bs.map (nameB c.o)) = A4 at *
    generalize armD c.bs = A at *
    generalize barsT c.bs = T at *
    generalize intsD c.o = N at *
    generalize f.getD 0 0 = u at *
    generalize f.map qr = Y at *
    generalize g.map qr = Z at *
    simp [a1]
  · unfold lS gA sA nA nS plS rwS
    unfold rowT
    generalize armD (c.bs.map (growB c.s)) = A2 at *
    generalize armD (c.bs.map (shiftB c.t)) = A3 at *
    generalize armD (c.bs.map (nameB c.o)) = A4 at *
    generalize armD c.bs = A at *
    generalize barsT c.bs = T at *
    generalize intsD c.o = N at *
    generalize f.getD 0 0 = u at *
    generalize f.map qr = Y at *
    generalize g.map qr = Z at *
    simp [a0]
  · have q := fun l => lcL_list (l := l) (vs := [19]) (f := setV 19) (tt := pur true) (me := m2 (getV 18) (m2 (getV 7) (getV 19) ixM) ixM) (st := lS c (gA c) (sA c) (nA c) (nS p) (plS p m) (rwS f) (rwS g) h) ixS (fun i => qS (f.getD (i + 1) 0)) (List.range c.n) [] (by simp; omega) fun i hi =>
      ⟨⟨[none, some .hand, some (.dat (.tup (barsT c.bs))), some (.dat (armD c.bs)), some (.dat (.int (c.n : Nat))), some (.dat (qr c.s)), some (.dat (qr c.t)), some (.dat (.tup (intsD c.o))), gA c, sA c, nA c, none, none, none, nS p, plS p m, rwS f, none, rwS g, some (ixS i)], [], some h⟩, ⟨[none, some .hand, some (.dat (.tup (barsT c.bs))), some (.dat (armD c.bs)), some (.dat (.int (c.n : Nat))), some (.dat (qr c.s)), some (.dat (qr c.t)), some (.dat (.tup (intsD c.o))), gA c, sA c, nA c, none, none, none, nS p, plS p m, rwS f, none, rwS g, some (ixS i)], [], some h⟩, ⟨[none, some .hand, some (.dat (.tup (barsT c.bs))), some (.dat (armD c.bs)), some (.dat (.int (c.n : Nat))), some (.dat (qr c.s)), some (.dat (qr c.t)), some (.dat (.tup (intsD c.o))), gA c, sA c, nA c, none, none, none, nS p, plS p m, rwS f, none, rwS g, some (ixS i)], [], some h⟩, rfl, rfl, by
        have hi := List.mem_range.mp hi
        have ho : i < c.o.length := by omega
        have e1 : atI (intsD c.o) (i : Int) = some (.int c.o[i]) := by
          rw [atI_nat (by rw [ints_len]; omega)]
          simp [intsD]
        have e2 := L.eq (i + 1) (by omega)
        rw [nI_s ho] at e2
        have bd := k.O.bnd (List.getElem_mem ho)
        have e3 := at_q (f := g) (i := c.o[i].toNat) (by omega)
        rw [e2, show ((c.o[i].toNat : Nat) : Int) = c.o[i] by omega] at e3
        unfold gA sA nA nS plS rwS rowT
        generalize armD (c.bs.map (growB c.s)) = A2 at *
        generalize armD (c.bs.map (shiftB c.t)) = A3 at *
        generalize armD (c.bs.map (nameB c.o)) = A4 at *
        generalize armD c.bs = A at *
        generalize barsT c.bs = T at *
        generalize c.o[i] = oi at *
        generalize intsD c.o = N at *
        generalize f.getD (i + 1) 0 = u at *
        generalize f.map qr = Y at *
        generalize g.map qr = Z at *
        simp [e1, e3], rfl⟩
    have eqd : (List.range c.n).map (fun i => qS (f.getD (i + 1) 0)) = (f.drop 1).map qS := by
      apply List.ext_getElem
      · simp; omega
      · intro i h1 h2
        simp at h1
        simp
        rw [List.getElem?_eq_getElem (by omega)]
        simp
    rw [List.nil_append, eqd, ← range_ix] at q
    have c1 : (-4611686018427387904 : Int) ≤ c.n := by omega
    have c2 : (c.n : Int) < 4611686018427387904 := by omega
    unfold lS gA sA nA nS plS rwS at *
    unfold rowT at *
    generalize armD (c.bs.map (growB c.s)) = A2 at *
    generalize armD (c.bs.map (shiftB c.t)) = A3 at *
    generalize armD (c.bs.map (nameB c.o)) = A4 at *
    generalize armD c.bs = A at *
    generalize barsT c.bs = T at *
    generalize intsD c.o = N at *
    generalize (f.drop 1).map qS = W at *
    generalize f.map qr = Y at *
    generalize g.map qr = Z at *
    simp [c1, c2, q]
  · have cf : cutD (f.map qr) (some 1) none = (f.drop 1).map qr := by
      rw [List.map_drop]
      exact cut_from (k := 1) (by rw [List.length_map]; omega)
    have mq := map_q (f.drop 1)
    unfold lS gA sA nA nS plS rwS
    unfold rowT
    generalize armD (c.bs.map (growB c.s)) = A2 at *
    generalize armD (c.bs.map (shiftB c.t)) = A3 at *
    generalize armD (c.bs.map (nameB c.o)) = A4 at *
    generalize armD c.bs = A at *
    generalize barsT c.bs = T at *
    generalize intsD c.o = N at *
    generalize (f.drop 1).map qr = W at *
    generalize (f.drop 1).map qS = V at *
    generalize f.map qr = Y at *
    generalize g.map qr = Z at *
    simp [cf, listM, mq]
end
end Law
set_option Elab.async false
set_option linter.all false
set_option maxRecDepth 100000
set_option maxHeartbeats 8000000
namespace Law
open PySem PySem.Spec PyProof.Rows L2 Fd
section
variable {c : Sc} (k : c.Ok)
include k
theorem l_turn {p : Int} (p0 : -1 ≤ p) (p1 : p < c.bs.length) (x15 x16 x18 : Option SV) (h : Hand) : ∃ y15 y16 y18 h', lB (lS c (gA c) (sA c) (nA c) (nS p) x15 x16 x18 h) = .ok .nx (lS c (gA c) (sA c) (nA c) (nS p) y15 y16 y18 h') := by
  obtain ⟨m, h1, hm, e0⟩ := b0 k (p := p) x15 x16 x18 h
  exact ⟨_, _, _, h1, seqF_go e0 (seqF_go (b1 k p0 p1 hm x16 x18 h1) (seqF_go (b2 k p0 p1 hm x18 h1) (seqF_go (b3 k p0 p1 hm x18 h1) (seqF_go (b4 k p0 p1 hm x18 h1) (b5 k p0 p1 hm h1)))))⟩
theorem t12 (h : Hand) : ∃ y14 y15 y16 y18 h', (forF (bnd (consB (bnd (pur (RI 1)) negM) (consB (bnd (consB (getV 2) (pur [])) lenM) (pur []))) rng2) (setV 14) (seqF (asgF (bnd (consA (getV 14) (consA (bnd (consA (getV 1) (pur [])) (callH 1 R_law_mark [])) (pur []))) tupM) (setV 15))
    (seqF (asgF (bnd (methM 4 "row_of" 2 R_Arms_row_of [] (getV 3) (consA (getV 15) (pur []))) frz) (setV 16))
    (seqF (ifF (bnd (m2 (methM 4 "row_of" 2 R_Arms_row_of [] (getV 8) (consA (bnd (consA (getV 15) (consA (getV 5) (pur []))) (callM 2 R_law_grown_place [])) (pur []))) (bnd (consB (lcM (bnd (getV 16) seqSrc) [17] (setV 17) (pur true) (bnd (consA (getV 17) (consA (getV 5) (pur []))) (callM 2 R_law_times []))) (pur [])) tupleM) neM) asB) (retF (pur (RB false))) (pur .nx))
    (seqF (ifF (bnd (m2 (methM 4 "row_of" 2 R_Arms_row_of [] (getV 9) (consA (bnd (consA (getV 15) (consA (getV 6) (pur []))) (callM 2 R_law_moved_place [])) (pur []))) (m2 (bnd (consA (bnd (consA (m2 (getV 16) (pur (RI 0)) ixM) (consA (getV 6) (pur []))) (callM 2 R_law_plus [])) (pur [])) tupM) (m3 (getV 16) (bnd (pur (RI 1)) asI) (pur none)) addM) neM) asB) (retF (pur (RB false))) (pur .nx))
    (seqF (asgF (bnd (methM 4 "row_of" 2 R_Arms_row_of [] (getV 10) (consA (getV 15) (pur []))) frz) (setV 18))
    (ifF (orT (bnd (m2 (m2 (getV 18) (pur (RI 0)) ixM) (m2 (getV 16) (pur (RI 0)) ixM) neM) asB) (bnd (m2 (lcM (bnd (consB (getV 4) (pur [])) rng1) [19] (setV 19) (pur true) (m2 (getV 18) (m2 (getV 7) (getV 19) ixM) ixM)) (bnd (consB (m3 (getV 16) (bnd (pur (RI 1)) asI) (pur none)) (pur [])) listM) neM) asB)) (retF (pur (RB false))) (pur .nx)))))))) (lS c (gA c) (sA c) (nA c) none none none none h) = .ok .nx (lS c (gA c) (sA c) (nA c) y14 y15 y16 y18 h') := by
  obtain ⟨s', e, y14, y15, y16, y18, h', rfl⟩ := forL_inv (ok := (Src.mk (rangeL (-1) (c.bs.length + 1)) none).Ok) (f := setV 14) (b := lB) (fun s => ∃ y14 y15 y16 y18 h', s = lS c (gA c) (sA c) (nA c) y14 y15 y16 y18 h') (fun _ _ => trivial) (rangeL (-1) (c.bs.length + 1)) (by
    rintro x hx s ⟨y14, y15, y16, y18, h', rfl⟩
    obtain ⟨i, hi, rfl⟩ := List.mem_map.mp hx
    have hi := List.mem_range.mp hi
    obtain ⟨z15, z16, z18, h2, e⟩ := l_turn k (p := -1 + (i : Nat)) (by omega) (by omega) y15 y16 y18 h'
    exact ⟨lS c (gA c) (sA c) (nA c) (nS (-1 + (i : Nat))) y15 y16 y18 h', _, rfl, e, ⟨_, _, _, _, _, rfl⟩⟩) _ ⟨none, none, none, none, h, rfl⟩
  refine ⟨y14, y15, y16, y18, h', forF_go (src := ⟨rangeL (-1) (c.bs.length + 1), none⟩) (s1 := lS c (gA c) (sA c) (nA c) none none none none h) ?_ e⟩
  clear e
  have six := k.B.many.2
  have ln := barsT_len c.bs
  have c1 : (-4611686018427387904 : Int) ≤ c.bs.length := by omega
  have c2 : (c.bs.length : Int) < 4611686018427387904 := by omega
  have c3 : ((c.bs.length : Int) + 1).toNat = c.bs.length + 1 := by omega
  unfold lS gA sA nA
  generalize armD (c.bs.map (growB c.s)) = A2 at *
  generalize armD (c.bs.map (shiftB c.t)) = A3 at *
  generalize armD (c.bs.map (nameB c.o)) = A4 at *
  generalize armD c.bs = A at *
  generalize barsT c.bs = T at *
  generalize intsD c.o = N at *
  simp [ln, c1, c2, c3]
theorem t13 (x14 x15 x16 x18 : Option SV) (h : Hand) : (ifF (orT (notT (altM (bnd (m2 (methM 4 "grown" 2 R_Arms_grown [] (getV 8) (consA (bnd (consA (bnd (consA (pur (RI 1)) (consA (pur (RI 1)) (pur []))) tupM) (consA (getV 5) (pur []))) (callM 2 R_law_over [])) (pur []))) (getV 3) eqM) asB) (bnd (m2 (methM 4 "grown" 2 R_Arms_grown [] (getV 8) (consA (bnd (consA (bnd (consA (pur (RI 1)) (consA (pur (RI 1)) (pur []))) tupM) (consA (getV 5) (pur []))) (callM 2 R_law_over [])) (pur []))) (getV 3) (eqOwnM 4 5 4 R_Arms___eq__ false)) asB))) (orT (notT (altM (bnd (m2 (methM 4 "shifted" 2 R_Arms_shifted [] (getV 9) (consA (bnd (consA (bnd (m2 (getV 6) (pur (RI 0)) ixM) negM) (consA (m2 (getV 6) (pur (RI 1)) ixM) (pur []))) tupM) (pur []))) (getV 3) eqM) asB) (bnd (m2 (methM 4 "shifted" 2 R_Arms_shifted [] (getV 9) (consA (bnd (consA (bnd (m2 (getV 6) (pur (RI 0)) ixM) negM) (consA (m2 (getV 6) (pur (RI 1)) ixM) (pur []))) tupM) (pur []))) (getV 3) (eqOwnM 4 5 4 R_Arms___eq__ false)) asB))) (bnd (m2 (bnd (getV 3) (fldM [4] "bars")) (getV 2) neM) asB))) (retF (pur (RB false))) (pur .nx)) (lS c (gA c) (sA c) (nA c) x14 x15 x16 x18 h) = .ok .nx (lS c (gA c) (sA c) (nA c) x14 x15 x16 x18 h) := by
  have nz : c.s ≠ 0 := fun z => by have := k.sp; rw [z] at this; exact absurd this (by decide)
  have eself := arm_eq c.bs c.bs
  rw [eq_self] at eself
  refine ifF_f (orT_s ?_ (orT_s ?_ (ne_s (ok_bars c.bs) ((eqD_tup _ _).trans (eq_self c.bs)) ?_ (get_at rfl)))) rfl
  · have e1 := r_law_over nz rb1 k.ss
    have sz : Rb 160 (1 / c.s) := by
      rw [← q_div 1 c.s nz]
      refine rb_frac (Int.mul_ne_zero (den_nz 1) (num_nz nz)) ?_ ?_
      · have : (1 : Rat).num * (c.s.den : Int) = c.s.den := by simp
        rw [this]
        exact k.ss.den
      · have : ((1 : Rat).den : Int) * c.s.num = c.s.num := by simp
        rw [this]
        exact k.ss.num
    have e2 := gr_good k.gG (num_pos (inv_pos' k.sp)) sz (grow_sz k.ss k.B.mark)
    rw [grow_back nz] at e2
    rw [qr_1] at e1
    generalize qr (1 / c.s) = q1 at *
    have o := okD_obj 4 [("bars", .tup (barsT c.bs)), ("letters", .int (mostL c.bs))]
    unfold lS gA sA nA
    generalize armD (c.bs.map (shiftB c.t)) = A3 at *
    generalize armD (c.bs.map (nameB c.o)) = A4 at *
    unfold armD at *
    generalize barsT (c.bs.map (growB c.s)) = T2 at *
    generalize mostL (c.bs.map (growB c.s)) = m2' at *
    generalize barsT c.bs = T at *
    generalize mostL c.bs = ml at *
    generalize intsD c.o = N at *
    simp [e1, e2, o, eself, altM, List.lookup]
  · have e2 := sh_good k.sG k.ts.neg (shift_sz k.ts k.B.mark)
    rw [shift_back] at e2
    have a0 : atI [D.int c.t.num, D.int c.t.den] 0 = some (.int c.t.num) := at20 _ _
    have a1 : atI [D.int c.t.num, D.int c.t.den] 1 = some (.int c.t.den) := at21 _ _
    have e1 := neg_qr c.t
    have o := okD_obj 4 [("bars", .tup (barsT c.bs)), ("letters", .int (mostL c.bs))]
    have qt : qr c.t = .tup [.int c.t.num, .int c.t.den] := rfl
    unfold lS gA sA nA
    rw [qt]
    generalize qr (-c.t) = q1 at *
    generalize armD (c.bs.map (growB c.s)) = A3 at *
    generalize armD (c.bs.map (nameB c.o)) = A4 at *
    unfold armD at *
    generalize barsT (c.bs.map (shiftB c.t)) = T2 at *
    generalize mostL (c.bs.map (shiftB c.t)) = m2' at *
    generalize barsT c.bs = T at *
    generalize mostL c.bs = ml at *
    generalize intsD c.o = N at *
    simp [a0, a1, e1, e2, o, eself, altM, List.lookup]
  · unfold lS gA sA nA
    generalize armD (c.bs.map (growB c.s)) = A2 at *
    generalize armD (c.bs.map (shiftB c.t)) = A3 at *
    generalize armD (c.bs.map (nameB c.o)) = A4 at *
    unfold armD at *
    generalize barsT c.bs = T at *
    generalize mostL c.bs = ml at *
    generalize intsD c.o = N at *
    simp [List.lookup]
theorem t14 (x14 x15 x16 x18 : Option SV) (h : Hand) : ∃ h', (retF (andV (bnd (consA (getV 1) (consA (getV 3) (consA (getV 7) (pur [])))) (callH 3 R_law_refused [])) (bnd (consA (getV 1) (consA (getV 2) (consA (getV 3) (pur [])))) (callH 3 R_law_added [])))) (lS c (gA c) (sA c) (nA c) x14 x15 x16 x18 h) = .ok (.rt (RB true)) (lS c (gA c) (sA c) (nA c) x14 x15 x16 x18 h') := by
  obtain ⟨h1, e1⟩ := v_refused k.em k.n1 k.n4 k.O h
  obtain ⟨h2, e2⟩ := v_added k.B.g h1
  refine ⟨h2, ?_⟩
  unfold lS gA sA nA
  generalize armD (c.bs.map (growB c.s)) = A2 at *
  generalize armD (c.bs.map (shiftB c.t)) = A3 at *
  generalize armD (c.bs.map (nameB c.o)) = A4 at *
  generalize armD c.bs = A at *
  generalize barsT c.bs = T at *
  generalize intsD c.o = N at *
  simp [e1, e2]
end
theorem law_holds : ∀ h, ∃ s', m_law (startL 20 h) = .ok (.rt (RB true)) s' := fun h => by
  obtain ⟨bs, h1, e1, B⟩ := v_bars h
  obtain ⟨n, n1, n4, em, hn⟩ := B.g.iff
  have ini := B.g.initT
  have most := most_val (B.g.rows (d := .tup (barsT bs)) rfl (barsOf_T bs))
  rw [em] at most
  obtain ⟨x, h2, e2, bx⟩ := v_wide h1
  obtain ⟨y, h3, e3, b_y⟩ := v_wide h2
  have bx' : Bd 151 (1 + (x.natAbs : Int)) := (bd_of (n := 1) (x := 1) (by decide) (by decide)).add (m := 150) (by unfold Bd at *; simpa using bx)
  have b_y' : Bd 151 (1 + (y.natAbs : Int)) := (bd_of (n := 1) (x := 1) (by decide) (by decide)).add (m := 150) (by unfold Bd at *; simpa using b_y)
  have yz : 1 + (y.natAbs : Int) ≠ 0 := by omega
  have er := q_law_ratio (a := 1 + (x.natAbs : Int)) yz b_y' (by decide)
  have rs : Rb 160 (((1 + (x.natAbs : Int) : Int) : Rat) / ((1 + (y.natAbs : Int) : Int) : Rat)) := rb_frac yz (bx'.mono (by decide)) (b_y'.mono (by decide))
  have rp : 0 < (((1 + (x.natAbs : Int) : Int) : Rat) / ((1 + (y.natAbs : Int) : Int) : Rat)) := frac_pos (by omega) (by omega)
  generalize ((1 + (x.natAbs : Int) : Int) : Rat) / ((1 + (y.natAbs : Int) : Int) : Rat) = s at *
  obtain ⟨t, h4, e4, ts⟩ := v_wide_ratio h3
  obtain ⟨o, h5, e5, O⟩ := v_order n1 n4 h4
  have k : Sc.Ok ⟨bs, n, s, t, o⟩ := ⟨B, em, n1, n4, rp, rs, ts, O⟩
  obtain ⟨h6, e8⟩ := t8 k h5
  obtain ⟨y14, y15, y16, y18, h7, e12⟩ := t12 k h6
  obtain ⟨h8, e14⟩ := t14 k y14 y15 y16 y18 h7
  refine ⟨lS ⟨bs, n, s, t, o⟩ (gA ⟨bs, n, s, t, o⟩) (sA ⟨bs, n, s, t, o⟩) (nA ⟨bs, n, s, t, o⟩) y14 y15 y16 y18 h8, ?_⟩
  · unfold m_law
    refine seqF_go (s' := ⟨[none, some .hand, some (.dat (.tup (barsT bs))), none, none, none, none, none, none, none, none, none, none, none, none, none, none, none, none, none], [], some h1⟩) ?_ ?_
    · rw [show startL 20 h = ⟨[none, some .hand, none, none, none, none, none, none, none, none, none, none, none, none, none, none, none, none, none, none], [], some h⟩ from rfl]
      generalize barsT bs = T at *
      simp [e1]
    refine seqF_go (s' := ⟨[none, some .hand, some (.dat (.tup (barsT bs))), some (.dat (armD bs)), none, none, none, none, none, none, none, none, none, none, none, none, none, none, none, none], [], some h1⟩) ?_ ?_
    · generalize armD bs = A at *
      generalize barsT bs = T at *
      simp [ini, -e_datRes]
    refine seqF_go (s' := ⟨[none, some .hand, some (.dat (.tup (barsT bs))), some (.dat (armD bs)), some (.dat (.int (n : Nat))), none, none, none, none, none, none, none, none, none, none, none, none, none, none, none], [], some h1⟩) ?_ ?_
    · generalize armD bs = A at *
      generalize barsT bs = T at *
      simp [most]
    refine seqF_go (s' := ⟨[none, some .hand, some (.dat (.tup (barsT bs))), some (.dat (armD bs)), some (.dat (.int (n : Nat))), some (.dat (qr s)), none, none, none, none, none, none, none, none, none, none, none, none, none, none], [], some h3⟩) ?_ ?_
    · generalize armD bs = A at *
      generalize barsT bs = T at *
      simp [e2, e3, absI, er]
    refine seqF_go (s' := ⟨[none, some .hand, some (.dat (.tup (barsT bs))), some (.dat (armD bs)), some (.dat (.int (n : Nat))), some (.dat (qr s)), some (.dat (qr t)), none, none, none, none, none, none, none, none, none, none, none, none, none], [], some h4⟩) ?_ ?_
    · generalize armD bs = A at *
      generalize barsT bs = T at *
      simp [e4]
    refine seqF_go (s' := lS ⟨bs, n, s, t, o⟩ none none none none none none none h5) ?_ ?_
    · unfold lS
      generalize armD bs = A at *
      generalize barsT bs = T at *
      simp [e5]
    refine seqF_go (t6 k h5) ?_
    refine seqF_go (t7 k h5) ?_
    refine seqF_go e8 ?_
    refine seqF_go (t9 k h6) ?_
    refine seqF_go (t10 k h6) ?_
    refine seqF_go (t11 k h6) ?_
    refine seqF_go e12 ?_
    refine seqF_go (t13 k y14 y15 y16 y18 h7) ?_
    exact e14
end Law
set_option Elab.async false
set_option linter.all false
set_option maxRecDepth 100000
set_option maxHeartbeats 4000000
namespace Law
open PySem PySem.Spec PyProof.Rows L2 Fd
theorem mkh_BadPlace {K : PySem.W.Frag} {h : Heap} {mg : Str → Option Value} {ct : Nat → Addr} (KX : K.In h) (G : h.Ns mainGlobals mg) (eC : PySem.W.nsIn K mainGlobals "BadPlace" = some (some (.ref (ct 0))))
    (ga : PySem.W.findIn K (.ref (ct 0)) "__getattribute__" = some (some (.builtin "BaseException.__getattribute__"))) (gg : PySem.W.findIn K (.ref (ct 0)) "__getattr__" = some none) (exC : PySem.W.subIn K (.ref (ct 0)) (.type "BaseException") = some true) (hd : PySem.W.hasDictIn K (ct 0) = true)
    (m0 : PySem.W.exmOne K (.ref (ct 0)) (.ref (ct 0)) = some true) (m1 : PySem.W.exmOne K (.ref (ct 1)) (.ref (ct 0)) = some false) (m2 : PySem.W.exmOne K (.ref (ct 2)) (.ref (ct 0)) = some false) (m3 : PySem.W.exmOne K (.ref (ct 3)) (.ref (ct 0)) = some false) : ErrH K mg ct "BadPlace" 0 (exsOf 4 0) :=
  ⟨⟨ga, gg, exC, hd⟩, PySem.W.mg_of KX G eC, fun c1 b h => by
    match c1, h with
    | 0, h => cases h; exact m0
    | 1, h => cases h; exact m1
    | 2, h => cases h; exact m2
    | 3, h => cases h; exact m3
    | c1 + 4, h => exact absurd h (by unfold exsOf; rw [if_neg (by omega)]; exact fun z => by cases z)⟩
abbrev j_BadPlace : Stmt := i_BadPlace
theorem scx_BadPlace : FdX.ScopeS ["self"] (defScope j_BadPlace) := ⟨rfl, rfl, rfl, by decide +kernel, by decide +kernel, by decide +kernel, freeNames_of (by decide +kernel), by decide +kernel, by decide +kernel⟩
theorem mk_BadPlace {P : Program} {w : World} {K : PySem.W.Frag} {h : Heap} {mg : Str → Option Value} {ct : Nat → Addr} {nm q : Str} {N C fI cda cc : Addr} {bs bm sub : List Value} {sn : List Str} {ab : Bool} {col : Option Bool} {dd od an cdd cld : Option Addr} {m0 m1 m2 m3 m5 : Option Value} {oc kV doc pm ct1 ccl cl : Value} {osl ccs csl : Array (Option Value)} {cvs : Array Value} {file : Str} {tf : Tok} {cdD : ClassData}
    (KX : K.In h) (G : h.Ns mainGlobals mg) (eC : PySem.W.nsIn K mainGlobals "BadPlace" = some (some (.ref C))) (hct : ct 0 = C) (iC : PySem.W.findIn K (.ref C) "__init__" = some (some (.ref fI))) (tI : PySem.W.typeIn K (.ref fI) = some (.type "function"))
    (xL : K.lookup C = some (excClassObj nm q C N bs bm true sn sub ab col dd m0 m1 m2 m3 m5 "ValueError.__new__")) (hbm : PySem.HandSPX.refsVE bm = true) (sa : PySem.W.findIn K (.ref C) "__setattr__" = some (some (.builtin "object.__setattr__")))
    (exC : PySem.W.subIn K (.ref C) (.type "BaseException") = some true) (tC : PySem.W.typeIn K (.ref C) = some (.type "type")) (kC : PySem.W.keepIn K (.ref C) = true)
    (lk : K.lookup fI = some ⟨oc, od, .func (PySem.W.ksFn "__init__" "BadPlace.__init__" (defArgs j_BadPlace) (defBody j_BadPlace) (defScope j_BadPlace) .none kV doc pm an (.ref cda) ct1 cc), osl⟩) (hcd : PySem.W.codeIn K (.ref cda) "BadPlace.__init__" = true)
    (hcode : K.lookup cda = some ⟨ccl, cdd, .fields cvs, ccs⟩) (hvs : cvs[2]? = some (.str file tf)) (hfile : ((P.main.file : Str) == file) = true)
    (hcell : K.lookup cc = some ⟨cl, cld, .cell (some (.ref C)), csl⟩) (hD : PySem.W.clsIn K C = some cdD) (hsub : PySem.W.mroIn K C (.ref C) = some true) (hsuper : PySem.W.nsIn K mainGlobals "super" = some none)
    (htop : (P.main.scope.names.lookup ("super" : Str)).isSome = false) (hop : PySem.W.nsIn K cStatics "thirdparty.any" = some none)
    (hsu : PySem.W.ks_superIn K C C "__init__" = some (some (.builtin "ValueError.__init__"))) (hB : PySem.W.subIn K (.ref C) (.type "ValueError") = some true) (kf : PySem.W.keepIn K (.ref fI) = true)
     : ∀ base : Heap, ErrX0 P w K mg base ct "BadPlace" 0 := fun base => by
  subst hct
  have T : OexC K (ct 0) := ⟨⟨nm, q, N, bs, bm, sn, sub, ab, col, dd, m0, m1, m2, m3, m5, xL, hbm⟩, sa, exC, tC, kC⟩
  refine ⟨fI, _, ["self"], T, iC, tI, fn_err0 lk hcd scx_BadPlace rfl rfl T hcode hvs hfile hcell hD hsub (PySem.W.mg_none_of KX G hsuper) htop (by rfl) hop hsu hB rfl (by decide) (fun A outer s H E => (pak_str .nil)), .all ?_, PySem.W.mg_of KX G eC⟩
  exact fun us hl => match us, hl with | [_], _ => rfl
theorem mkh_BadArms {K : PySem.W.Frag} {h : Heap} {mg : Str → Option Value} {ct : Nat → Addr} (KX : K.In h) (G : h.Ns mainGlobals mg) (eC : PySem.W.nsIn K mainGlobals "BadArms" = some (some (.ref (ct 1))))
    (ga : PySem.W.findIn K (.ref (ct 1)) "__getattribute__" = some (some (.builtin "BaseException.__getattribute__"))) (gg : PySem.W.findIn K (.ref (ct 1)) "__getattr__" = some none) (exC : PySem.W.subIn K (.ref (ct 1)) (.type "BaseException") = some true) (hd : PySem.W.hasDictIn K (ct 1) = true)
    (m0 : PySem.W.exmOne K (.ref (ct 0)) (.ref (ct 1)) = some false) (m1 : PySem.W.exmOne K (.ref (ct 1)) (.ref (ct 1)) = some true) (m2 : PySem.W.exmOne K (.ref (ct 2)) (.ref (ct 1)) = some false) (m3 : PySem.W.exmOne K (.ref (ct 3)) (.ref (ct 1)) = some false) : ErrH K mg ct "BadArms" 1 (exsOf 4 1) :=
  ⟨⟨ga, gg, exC, hd⟩, PySem.W.mg_of KX G eC, fun c1 b h => by
    match c1, h with
    | 0, h => cases h; exact m0
    | 1, h => cases h; exact m1
    | 2, h => cases h; exact m2
    | 3, h => cases h; exact m3
    | c1 + 4, h => exact absurd h (by unfold exsOf; rw [if_neg (by omega)]; exact fun z => by cases z)⟩
abbrev j_BadArms : Stmt := i_BadArms
theorem scx_BadArms : FdX.ScopeS ["self", "index", "what"] (defScope j_BadArms) := ⟨rfl, rfl, rfl, by decide +kernel, by decide +kernel, by decide +kernel, freeNames_of (by decide +kernel), by decide +kernel, by decide +kernel⟩
theorem mk_BadArms {P : Program} {w : World} {K : PySem.W.Frag} {h : Heap} {mg : Str → Option Value} {ct : Nat → Addr} {nm q : Str} {N C fI cda cc : Addr} {bs bm sub : List Value} {sn : List Str} {ab : Bool} {col : Option Bool} {dd od an cdd cld : Option Addr} {m0 m1 m2 m3 m5 : Option Value} {oc kV doc pm ct1 ccl cl : Value} {osl ccs csl : Array (Option Value)} {cvs : Array Value} {file : Str} {tf : Tok} {cdD : ClassData}
    (KX : K.In h) (G : h.Ns mainGlobals mg) (eC : PySem.W.nsIn K mainGlobals "BadArms" = some (some (.ref C))) (hct : ct 1 = C) (iC : PySem.W.findIn K (.ref C) "__init__" = some (some (.ref fI))) (tI : PySem.W.typeIn K (.ref fI) = some (.type "function"))
    (xL : K.lookup C = some (excClassObj nm q C N bs bm true sn sub ab col dd m0 m1 m2 m3 m5 "ValueError.__new__")) (hbm : PySem.HandSPX.refsVE bm = true) (sa : PySem.W.findIn K (.ref C) "__setattr__" = some (some (.builtin "object.__setattr__")))
    (exC : PySem.W.subIn K (.ref C) (.type "BaseException") = some true) (tC : PySem.W.typeIn K (.ref C) = some (.type "type")) (kC : PySem.W.keepIn K (.ref C) = true)
    (lk : K.lookup fI = some ⟨oc, od, .func (PySem.W.ksFn "__init__" "BadArms.__init__" (defArgs j_BadArms) (defBody j_BadArms) (defScope j_BadArms) .none kV doc pm an (.ref cda) ct1 cc), osl⟩) (hcd : PySem.W.codeIn K (.ref cda) "BadArms.__init__" = true)
    (hcode : K.lookup cda = some ⟨ccl, cdd, .fields cvs, ccs⟩) (hvs : cvs[2]? = some (.str file tf)) (hfile : ((P.main.file : Str) == file) = true)
    (hcell : K.lookup cc = some ⟨cl, cld, .cell (some (.ref C)), csl⟩) (hD : PySem.W.clsIn K C = some cdD) (hsub : PySem.W.mroIn K C (.ref C) = some true) (hsuper : PySem.W.nsIn K mainGlobals "super" = some none)
    (htop : (P.main.scope.names.lookup ("super" : Str)).isSome = false) (hop : PySem.W.nsIn K cStatics "thirdparty.any" = some none)
    (hsu : PySem.W.ks_superIn K C C "__init__" = some (some (.builtin "ValueError.__init__"))) (hB : PySem.W.subIn K (.ref C) (.type "ValueError") = some true) (kf : PySem.W.keepIn K (.ref fI) = true)
    (n_index : PySem.W.findIn K (.ref C) "index" = some none) (n_what : PySem.W.findIn K (.ref C) "what" = some none) : ∀ base : Heap, ErrX P w K mg base ct "BadArms" 1 ["index", "what"] := fun base => by
  subst hct
  have T : OexC K (ct 1) := ⟨⟨nm, q, N, bs, bm, sn, sub, ab, col, dd, m0, m1, m2, m3, m5, xL, hbm⟩, sa, exC, tC, kC⟩
  refine ⟨fI, _, ["self", "index", "what"], T, iC, tI, fn_err lk hcd scx_BadArms rfl rfl T hcode hvs hfile hcell hD hsub (PySem.W.mg_none_of KX G hsuper) htop (by rfl) hop hsu hB rfl (by decide) (by decide) (by decide) (List.forall_mem_cons.mpr ⟨n_index, (List.forall_mem_cons.mpr ⟨n_what, (fun _ h => nomatch h)⟩)⟩)
    (fun A outer s H E => (pak_str (pak_var 1 (pak_var 2 .nil (pv 2) (by decide)) (pv 1) (by decide)))) (fun A outer s H E => (.cons (pv 0) (pv 1) rfl (.cons (pv 0) (pv 2) rfl .nil))), .all ?_, PySem.W.mg_of KX G eC⟩
  exact fun us hl => match us, hl with | [_, _, _], _ => rfl
theorem mkh_BadSize {K : PySem.W.Frag} {h : Heap} {mg : Str → Option Value} {ct : Nat → Addr} (KX : K.In h) (G : h.Ns mainGlobals mg) (eC : PySem.W.nsIn K mainGlobals "BadSize" = some (some (.ref (ct 2))))
    (ga : PySem.W.findIn K (.ref (ct 2)) "__getattribute__" = some (some (.builtin "BaseException.__getattribute__"))) (gg : PySem.W.findIn K (.ref (ct 2)) "__getattr__" = some none) (exC : PySem.W.subIn K (.ref (ct 2)) (.type "BaseException") = some true) (hd : PySem.W.hasDictIn K (ct 2) = true)
    (m0 : PySem.W.exmOne K (.ref (ct 0)) (.ref (ct 2)) = some false) (m1 : PySem.W.exmOne K (.ref (ct 1)) (.ref (ct 2)) = some false) (m2 : PySem.W.exmOne K (.ref (ct 2)) (.ref (ct 2)) = some true) (m3 : PySem.W.exmOne K (.ref (ct 3)) (.ref (ct 2)) = some false) : ErrH K mg ct "BadSize" 2 (exsOf 4 2) :=
  ⟨⟨ga, gg, exC, hd⟩, PySem.W.mg_of KX G eC, fun c1 b h => by
    match c1, h with
    | 0, h => cases h; exact m0
    | 1, h => cases h; exact m1
    | 2, h => cases h; exact m2
    | 3, h => cases h; exact m3
    | c1 + 4, h => exact absurd h (by unfold exsOf; rw [if_neg (by omega)]; exact fun z => by cases z)⟩
abbrev j_BadSize : Stmt := i_BadSize
theorem scx_BadSize : FdX.ScopeS ["self"] (defScope j_BadSize) := ⟨rfl, rfl, rfl, by decide +kernel, by decide +kernel, by decide +kernel, freeNames_of (by decide +kernel), by decide +kernel, by decide +kernel⟩
theorem mk_BadSize {P : Program} {w : World} {K : PySem.W.Frag} {h : Heap} {mg : Str → Option Value} {ct : Nat → Addr} {nm q : Str} {N C fI cda cc : Addr} {bs bm sub : List Value} {sn : List Str} {ab : Bool} {col : Option Bool} {dd od an cdd cld : Option Addr} {m0 m1 m2 m3 m5 : Option Value} {oc kV doc pm ct1 ccl cl : Value} {osl ccs csl : Array (Option Value)} {cvs : Array Value} {file : Str} {tf : Tok} {cdD : ClassData}
    (KX : K.In h) (G : h.Ns mainGlobals mg) (eC : PySem.W.nsIn K mainGlobals "BadSize" = some (some (.ref C))) (hct : ct 2 = C) (iC : PySem.W.findIn K (.ref C) "__init__" = some (some (.ref fI))) (tI : PySem.W.typeIn K (.ref fI) = some (.type "function"))
    (xL : K.lookup C = some (excClassObj nm q C N bs bm true sn sub ab col dd m0 m1 m2 m3 m5 "ValueError.__new__")) (hbm : PySem.HandSPX.refsVE bm = true) (sa : PySem.W.findIn K (.ref C) "__setattr__" = some (some (.builtin "object.__setattr__")))
    (exC : PySem.W.subIn K (.ref C) (.type "BaseException") = some true) (tC : PySem.W.typeIn K (.ref C) = some (.type "type")) (kC : PySem.W.keepIn K (.ref C) = true)
    (lk : K.lookup fI = some ⟨oc, od, .func (PySem.W.ksFn "__init__" "BadSize.__init__" (defArgs j_BadSize) (defBody j_BadSize) (defScope j_BadSize) .none kV doc pm an (.ref cda) ct1 cc), osl⟩) (hcd : PySem.W.codeIn K (.ref cda) "BadSize.__init__" = true)
    (hcode : K.lookup cda = some ⟨ccl, cdd, .fields cvs, ccs⟩) (hvs : cvs[2]? = some (.str file tf)) (hfile : ((P.main.file : Str) == file) = true)
    (hcell : K.lookup cc = some ⟨cl, cld, .cell (some (.ref C)), csl⟩) (hD : PySem.W.clsIn K C = some cdD) (hsub : PySem.W.mroIn K C (.ref C) = some true) (hsuper : PySem.W.nsIn K mainGlobals "super" = some none)
    (htop : (P.main.scope.names.lookup ("super" : Str)).isSome = false) (hop : PySem.W.nsIn K cStatics "thirdparty.any" = some none)
    (hsu : PySem.W.ks_superIn K C C "__init__" = some (some (.builtin "ValueError.__init__"))) (hB : PySem.W.subIn K (.ref C) (.type "ValueError") = some true) (kf : PySem.W.keepIn K (.ref fI) = true)
     : ∀ base : Heap, ErrX0 P w K mg base ct "BadSize" 2 := fun base => by
  subst hct
  have T : OexC K (ct 2) := ⟨⟨nm, q, N, bs, bm, sn, sub, ab, col, dd, m0, m1, m2, m3, m5, xL, hbm⟩, sa, exC, tC, kC⟩
  refine ⟨fI, _, ["self"], T, iC, tI, fn_err0 lk hcd scx_BadSize rfl rfl T hcode hvs hfile hcell hD hsub (PySem.W.mg_none_of KX G hsuper) htop (by rfl) hop hsu hB rfl (by decide) (fun A outer s H E => (pak_str .nil)), .all ?_, PySem.W.mg_of KX G eC⟩
  exact fun us hl => match us, hl with | [_], _ => rfl
theorem mkh_BadOrder {K : PySem.W.Frag} {h : Heap} {mg : Str → Option Value} {ct : Nat → Addr} (KX : K.In h) (G : h.Ns mainGlobals mg) (eC : PySem.W.nsIn K mainGlobals "BadOrder" = some (some (.ref (ct 3))))
    (ga : PySem.W.findIn K (.ref (ct 3)) "__getattribute__" = some (some (.builtin "BaseException.__getattribute__"))) (gg : PySem.W.findIn K (.ref (ct 3)) "__getattr__" = some none) (exC : PySem.W.subIn K (.ref (ct 3)) (.type "BaseException") = some true) (hd : PySem.W.hasDictIn K (ct 3) = true)
    (m0 : PySem.W.exmOne K (.ref (ct 0)) (.ref (ct 3)) = some false) (m1 : PySem.W.exmOne K (.ref (ct 1)) (.ref (ct 3)) = some false) (m2 : PySem.W.exmOne K (.ref (ct 2)) (.ref (ct 3)) = some false) (m3 : PySem.W.exmOne K (.ref (ct 3)) (.ref (ct 3)) = some true) : ErrH K mg ct "BadOrder" 3 (exsOf 4 3) :=
  ⟨⟨ga, gg, exC, hd⟩, PySem.W.mg_of KX G eC, fun c1 b h => by
    match c1, h with
    | 0, h => cases h; exact m0
    | 1, h => cases h; exact m1
    | 2, h => cases h; exact m2
    | 3, h => cases h; exact m3
    | c1 + 4, h => exact absurd h (by unfold exsOf; rw [if_neg (by omega)]; exact fun z => by cases z)⟩
abbrev j_BadOrder : Stmt := i_BadOrder
theorem scx_BadOrder : FdX.ScopeS ["self"] (defScope j_BadOrder) := ⟨rfl, rfl, rfl, by decide +kernel, by decide +kernel, by decide +kernel, freeNames_of (by decide +kernel), by decide +kernel, by decide +kernel⟩
theorem mk_BadOrder {P : Program} {w : World} {K : PySem.W.Frag} {h : Heap} {mg : Str → Option Value} {ct : Nat → Addr} {nm q : Str} {N C fI cda cc : Addr} {bs bm sub : List Value} {sn : List Str} {ab : Bool} {col : Option Bool} {dd od an cdd cld : Option Addr} {m0 m1 m2 m3 m5 : Option Value} {oc kV doc pm ct1 ccl cl : Value} {osl ccs csl : Array (Option Value)} {cvs : Array Value} {file : Str} {tf : Tok} {cdD : ClassData}
    (KX : K.In h) (G : h.Ns mainGlobals mg) (eC : PySem.W.nsIn K mainGlobals "BadOrder" = some (some (.ref C))) (hct : ct 3 = C) (iC : PySem.W.findIn K (.ref C) "__init__" = some (some (.ref fI))) (tI : PySem.W.typeIn K (.ref fI) = some (.type "function"))
    (xL : K.lookup C = some (excClassObj nm q C N bs bm true sn sub ab col dd m0 m1 m2 m3 m5 "ValueError.__new__")) (hbm : PySem.HandSPX.refsVE bm = true) (sa : PySem.W.findIn K (.ref C) "__setattr__" = some (some (.builtin "object.__setattr__")))
    (exC : PySem.W.subIn K (.ref C) (.type "BaseException") = some true) (tC : PySem.W.typeIn K (.ref C) = some (.type "type")) (kC : PySem.W.keepIn K (.ref C) = true)
    (lk : K.lookup fI = some ⟨oc, od, .func (PySem.W.ksFn "__init__" "BadOrder.__init__" (defArgs j_BadOrder) (defBody j_BadOrder) (defScope j_BadOrder) .none kV doc pm an (.ref cda) ct1 cc), osl⟩) (hcd : PySem.W.codeIn K (.ref cda) "BadOrder.__init__" = true)
    (hcode : K.lookup cda = some ⟨ccl, cdd, .fields cvs, ccs⟩) (hvs : cvs[2]? = some (.str file tf)) (hfile : ((P.main.file : Str) == file) = true)
    (hcell : K.lookup cc = some ⟨cl, cld, .cell (some (.ref C)), csl⟩) (hD : PySem.W.clsIn K C = some cdD) (hsub : PySem.W.mroIn K C (.ref C) = some true) (hsuper : PySem.W.nsIn K mainGlobals "super" = some none)
    (htop : (P.main.scope.names.lookup ("super" : Str)).isSome = false) (hop : PySem.W.nsIn K cStatics "thirdparty.any" = some none)
    (hsu : PySem.W.ks_superIn K C C "__init__" = some (some (.builtin "ValueError.__init__"))) (hB : PySem.W.subIn K (.ref C) (.type "ValueError") = some true) (kf : PySem.W.keepIn K (.ref fI) = true)
     : ∀ base : Heap, ErrX0 P w K mg base ct "BadOrder" 3 := fun base => by
  subst hct
  have T : OexC K (ct 3) := ⟨⟨nm, q, N, bs, bm, sn, sub, ab, col, dd, m0, m1, m2, m3, m5, xL, hbm⟩, sa, exC, tC, kC⟩
  refine ⟨fI, _, ["self"], T, iC, tI, fn_err0 lk hcd scx_BadOrder rfl rfl T hcode hvs hfile hcell hD hsub (PySem.W.mg_none_of KX G hsuper) htop (by rfl) hop hsu hB rfl (by decide) (fun A outer s H E => (pak_str .nil)), .all ?_, PySem.W.mg_of KX G eC⟩
  exact fun us hl => match us, hl with | [_], _ => rfl
theorem all_mk {P : Program} {w : World} {K : PySem.W.Frag} {h : Heap} {mg : Str → Option Value} {fa : Addr} {C_BadPlace C_BadArms C_BadSize C_BadOrder C_Arms : Addr} (KX : K.In h) (G : h.Ns mainGlobals mg) (hfa : mg "law" = some (.ref fa))
    (e_BadPlace : PySem.W.nsIn K mainGlobals "BadPlace" = some (some (.ref C_BadPlace)))
    (e_BadArms : PySem.W.nsIn K mainGlobals "BadArms" = some (some (.ref C_BadArms)))
    (e_BadSize : PySem.W.nsIn K mainGlobals "BadSize" = some (some (.ref C_BadSize)))
    (e_BadOrder : PySem.W.nsIn K mainGlobals "BadOrder" = some (some (.ref C_BadOrder)))
    (e_Arms : PySem.W.nsIn K mainGlobals "Arms" = some (some (.ref C_Arms)))
    (cl_Arms : ClsT K (ctOf [C_BadPlace, C_BadArms, C_BadSize, C_BadOrder, C_Arms]) 4)
    (kb_Arms : ∀ t : Ty, t ≠ .none → PySem.W.kitOne K (.ref ((ctOf [C_BadPlace, C_BadArms, C_BadSize, C_BadOrder, C_Arms]) 4)) (.type t.nm) = some false)
    (kc_Arms : ∀ t : Ty, PySem.W.kitOne K (.type t.nm) (.ref ((ctOf [C_BadPlace, C_BadArms, C_BadSize, C_BadOrder, C_Arms]) 4)) = some false)
    (nb_Arms : ∀ t : Ty, PySem.W.notFirst K ((ctOf [C_BadPlace, C_BadArms, C_BadSize, C_BadOrder, C_Arms]) 4) (.type t.nm) = true)
    (kd_Arms_Arms : PySem.W.kitOne K (.ref ((ctOf [C_BadPlace, C_BadArms, C_BadSize, C_BadOrder, C_Arms]) 4)) (.ref ((ctOf [C_BadPlace, C_BadArms, C_BadSize, C_BadOrder, C_Arms]) 4)) = some true)
    (nd_Arms_Arms : PySem.W.notFirst K ((ctOf [C_BadPlace, C_BadArms, C_BadSize, C_BadOrder, C_Arms]) 4) (.ref ((ctOf [C_BadPlace, C_BadArms, C_BadSize, C_BadOrder, C_Arms]) 4)) = true)
    (z_abs : PySem.W.nsIn K mainGlobals "abs" = some none)
    (z_bool : PySem.W.nsIn K mainGlobals "bool" = some none)
    (z_enumerate : PySem.W.nsIn K mainGlobals "enumerate" = some none)
    (z_int : PySem.W.nsIn K mainGlobals "int" = some none)
    (z_isinstance : PySem.W.nsIn K mainGlobals "isinstance" = some none)
    (z_len : PySem.W.nsIn K mainGlobals "len" = some none)
    (z_list : PySem.W.nsIn K mainGlobals "list" = some none)
    (z_max : PySem.W.nsIn K mainGlobals "max" = some none)
    (z_min : PySem.W.nsIn K mainGlobals "min" = some none)
    (z_range : PySem.W.nsIn K mainGlobals "range" = some none)
    (z_sorted : PySem.W.nsIn K mainGlobals "sorted" = some none)
    (z_str : PySem.W.nsIn K mainGlobals "str" = some none)
    (z_tuple : PySem.W.nsIn K mainGlobals "tuple" = some none)
    (gcd : PySem.W.nsIn K mainGlobals "gcd" = some (some (.builtin "math.gcd")))
    (c_MAST : CsT K mg (ctOf [C_BadPlace, C_BadArms, C_BadSize, C_BadOrder, C_Arms]) "MAST" (.int (-1)))
    (c_MOST_BARS : CsT K mg (ctOf [C_BadPlace, C_BadArms, C_BadSize, C_BadOrder, C_Arms]) "MOST_BARS" (.int 6))
    (c_MOST_LETTERS : CsT K mg (ctOf [C_BadPlace, C_BadArms, C_BadSize, C_BadOrder, C_Arms]) "MOST_LETTERS" (.int 4))
    (c_ZERO : CsT K mg (ctOf [C_BadPlace, C_BadArms, C_BadSize, C_BadOrder, C_Arms]) "ZERO" (.tup [.int 0, .int 1]))
    (f_is_whole : FnT K mg "is_whole" s_is_whole [.non, .non])
    (f_is_ratio : FnT K mg "is_ratio" s_is_ratio [])
    (f_is_above_zero : FnT K mg "is_above_zero" s_is_above_zero [])
    (f_lowest_terms : FnT K mg "lowest_terms" s_lowest_terms [])
    (f_plus : FnT K mg "plus" s_plus [])
    (f_times : FnT K mg "times" s_times [])
    (f_is_row : FnT K mg "is_row" s_is_row [])
    (f_is_place_form : FnT K mg "is_place_form" s_is_place_form [])
    (f_check_place : FnT K mg "check_place" s_check_place [])
    (f_bad_bar : FnT K mg "bad_bar" s_bad_bar [])
    (f_check_bars : FnT K mg "check_bars" s_check_bars [])
    (f_check_order : FnT K mg "check_order" s_check_order [])
    (f_law_hand : FnT K mg "_law_hand" s_law_hand [])
    (f_law_take : FnT K mg "_law_take" s_law_take [])
    (f_law_gcd : FnT K mg "_law_gcd" s_law_gcd [])
    (f_law_ratio : FnT K mg "_law_ratio" s_law_ratio [])
    (f_law_plus : FnT K mg "_law_plus" s_law_plus [])
    (f_law_times : FnT K mg "_law_times" s_law_times [])
    (f_law_over : FnT K mg "_law_over" s_law_over [])
    (f_law_mark : FnT K mg "_law_mark" s_law_mark [])
    (f_law_letters : FnT K mg "_law_letters" s_law_letters [])
    (f_law_bars : FnT K mg "_law_bars" s_law_bars [.int 2])
    (f_law_most : FnT K mg "_law_most" s_law_most [])
    (f_law_wide : FnT K mg "_law_wide" s_law_wide [])
    (f_law_wide_ratio : FnT K mg "_law_wide_ratio" s_law_wide_ratio [])
    (f_law_tuples : FnT K mg "_law_tuples" s_law_tuples [])
    (f_law_odd : FnT K mg "_law_odd" s_law_odd [])
    (f_law_grown_place : FnT K mg "_law_grown_place" s_law_grown_place [])
    (f_law_moved_place : FnT K mg "_law_moved_place" s_law_moved_place [])
    (f_law_order : FnT K mg "_law_order" s_law_order [])
    (f_law_renamed : FnT K mg "_law_renamed" s_law_renamed [])
    (f_law_grown : FnT K mg "_law_grown" s_law_grown [])
    (f_law_shifted : FnT K mg "_law_shifted" s_law_shifted [])
    (f_law_named : FnT K mg "_law_named" s_law_named [])
    (f_law_longer : FnT K mg "_law_longer" s_law_longer [])
    (f_law_refused : FnT K mg "_law_refused" s_law_refused [])
    (f_law_added : FnT K mg "_law_added" s_law_added [])
    (k_Arms : MkT K mg (ctOf [C_BadPlace, C_BadArms, C_BadSize, C_BadOrder, C_Arms]) 4 "Arms")
    (ne_Arms : PySem.W.findIn K (.ref ((ctOf [C_BadPlace, C_BadArms, C_BadSize, C_BadOrder, C_Arms]) 4)) "__ne__" = some (some (.builtin "object.__ne__")))
    (fa_Arms_bars : PySem.W.findIn K (.ref ((ctOf [C_BadPlace, C_BadArms, C_BadSize, C_BadOrder, C_Arms]) 4)) "bars" = some none)
    (fa_Arms_letters : PySem.W.findIn K (.ref ((ctOf [C_BadPlace, C_BadArms, C_BadSize, C_BadOrder, C_Arms]) 4)) "letters" = some none)
    (mt_Arms_with_bar : MthT K (ctOf [C_BadPlace, C_BadArms, C_BadSize, C_BadOrder, C_Arms]) 4 "with_bar" "Arms.with_bar" s_Arms_with_bar [])
    (mt_Arms_renamed : MthT K (ctOf [C_BadPlace, C_BadArms, C_BadSize, C_BadOrder, C_Arms]) 4 "renamed" "Arms.renamed" s_Arms_renamed [])
    (mt_Arms_row_of : MthT K (ctOf [C_BadPlace, C_BadArms, C_BadSize, C_BadOrder, C_Arms]) 4 "row_of" "Arms.row_of" s_Arms_row_of [])
    (mt_Arms_line_row : MthT K (ctOf [C_BadPlace, C_BadArms, C_BadSize, C_BadOrder, C_Arms]) 4 "line_row" "Arms.line_row" s_Arms_line_row [])
    (mt_Arms___len__ : MthT K (ctOf [C_BadPlace, C_BadArms, C_BadSize, C_BadOrder, C_Arms]) 4 "__len__" "Arms.__len__" s_Arms___len__ [])
    (mt_Arms___init__ : MthT K (ctOf [C_BadPlace, C_BadArms, C_BadSize, C_BadOrder, C_Arms]) 4 "__init__" "Arms.__init__" s_Arms___init__ [])
    (mt_Arms___eq__ : MthT K (ctOf [C_BadPlace, C_BadArms, C_BadSize, C_BadOrder, C_Arms]) 4 "__eq__" "Arms.__eq__" s_Arms___eq__ [])
    (mt_Arms_shifted : MthT K (ctOf [C_BadPlace, C_BadArms, C_BadSize, C_BadOrder, C_Arms]) 4 "shifted" "Arms.shifted" s_Arms_shifted [])
    (mt_Arms_grown : MthT K (ctOf [C_BadPlace, C_BadArms, C_BadSize, C_BadOrder, C_Arms]) 4 "grown" "Arms.grown" s_Arms_grown [])
    (x_BadPlace : ∀ base, ErrX0 P w K mg base (ctOf [C_BadPlace, C_BadArms, C_BadSize, C_BadOrder, C_Arms]) "BadPlace" 0)
    (x_BadArms : ∀ base, ErrX P w K mg base (ctOf [C_BadPlace, C_BadArms, C_BadSize, C_BadOrder, C_Arms]) "BadArms" 1 ["index", "what"])
    (h_BadArms : ErrH K mg (ctOf [C_BadPlace, C_BadArms, C_BadSize, C_BadOrder, C_Arms]) "BadArms" 1 (exsOf 4 1))
    (no_BadArms_index : PySem.W.findIn K (.ref ((ctOf [C_BadPlace, C_BadArms, C_BadSize, C_BadOrder, C_Arms]) 1)) "index" = some none)
    (no_BadArms_what : PySem.W.findIn K (.ref ((ctOf [C_BadPlace, C_BadArms, C_BadSize, C_BadOrder, C_Arms]) 1)) "what" = some none)
    (x_BadSize : ∀ base, ErrX0 P w K mg base (ctOf [C_BadPlace, C_BadArms, C_BadSize, C_BadOrder, C_Arms]) "BadSize" 2)
    (h_BadSize : ErrH K mg (ctOf [C_BadPlace, C_BadArms, C_BadSize, C_BadOrder, C_Arms]) "BadSize" 2 (exsOf 4 2))
    (x_BadOrder : ∀ base, ErrX0 P w K mg base (ctOf [C_BadPlace, C_BadArms, C_BadSize, C_BadOrder, C_Arms]) "BadOrder" 3)
    (h_BadOrder : ErrH K mg (ctOf [C_BadPlace, C_BadArms, C_BadSize, C_BadOrder, C_Arms]) "BadOrder" 3 (exsOf 4 3))
    (f_law : FnT K mg "law" s_law []) :
    ∃ fd : FuncData, (∀ (s : Shared) (v : Value), BindsTo s fd ⟨[v], []⟩ [("_law_script", v)]) ∧ ∀ base : Heap, K.In base → base.Ns mainGlobals mg → FnOk P w K mg base (L2.CX P w) 10 fa fd ["_law_script"] (spLaw K) := by
  obtain ⟨f, fd, hm, F⟩ := f_law.ex
  have e := hfa.symm.trans hm
  cases e
  refine ⟨fd, fun s v => ?_, fun base _ _ => ok_law (ct := (ctOf [C_BadPlace, C_BadArms, C_BadSize, C_BadOrder, C_Arms])) ⟨PySem.W.mg_none_of KX G z_abs, PySem.W.mg_none_of KX G z_bool, PySem.W.mg_none_of KX G z_enumerate, PySem.W.mg_none_of KX G z_int, PySem.W.mg_none_of KX G z_isinstance, PySem.W.mg_none_of KX G z_len, PySem.W.mg_none_of KX G z_list, PySem.W.mg_none_of KX G z_max, PySem.W.mg_none_of KX G z_min, PySem.W.mg_none_of KX G z_range, PySem.W.mg_none_of KX G z_sorted, PySem.W.mg_none_of KX G z_str, PySem.W.mg_none_of KX G z_tuple, PySem.W.mg_of KX G gcd, c_MAST, c_MOST_BARS, c_MOST_LETTERS, c_ZERO, f_is_whole, f_is_ratio, f_is_above_zero, f_lowest_terms, f_plus, f_times, f_is_row, f_is_place_form, f_check_place, f_bad_bar, f_check_bars, f_check_order, f_law_hand, f_law_take, f_law_gcd, f_law_ratio, f_law_plus, f_law_times, f_law_over, f_law_mark, f_law_letters, f_law_bars, f_law_most, f_law_wide, f_law_wide_ratio, f_law_tuples, f_law_odd, f_law_grown_place, f_law_moved_place, f_law_order, f_law_renamed, f_law_grown, f_law_shifted, f_law_named, f_law_longer, f_law_refused, f_law_added, (⟨fun c h1 h2 => by
    have z : c = 4 := by omega
    rcases z with rfl
    · exact cl_Arms,
   fun c h1 h2 => by
    have z : c = 4 := by omega
    rcases z with rfl
    · exact kb_Arms,
   fun c h1 h2 => by
    have z : c = 4 := by omega
    rcases z with rfl
    · exact kc_Arms,
   fun c d h1 h2 h3 h4 => by
    have z : c = 4 := by omega
    have z2 : d = 4 := by omega
    rcases z with rfl <;> rcases z2 with rfl
    · exact kd_Arms_Arms,
   fun c h1 h2 => by
    have z : c = 4 := by omega
    rcases z with rfl
    · exact nb_Arms,
   fun c d h1 h2 h3 h4 => by
    have z : c = 4 := by omega
    have z2 : d = 4 := by omega
    rcases z with rfl <;> rcases z2 with rfl
    · exact nd_Arms_Arms⟩), k_Arms, ne_Arms, (fun c h => by
    have z : c = 4 := by simpa using h
    rcases z with rfl
    · exact ⟨cl_Arms.cls, fa_Arms_bars⟩), (fun c h => by
    have z : c = 4 := by simpa using h
    rcases z with rfl
    · exact ⟨cl_Arms.cls, fa_Arms_letters⟩), mt_Arms_with_bar, mt_Arms_renamed, mt_Arms_row_of, mt_Arms_line_row, mt_Arms___len__, mt_Arms___init__, mt_Arms___eq__, mt_Arms_shifted, mt_Arms_grown, x_BadPlace base, x_BadArms base, h_BadArms, no_BadArms_index, no_BadArms_what, x_BadSize base, h_BadSize, x_BadOrder base, h_BadOrder⟩ F law_holds⟩
  obtain ⟨oc, od, dV, kV, doc, pm, an, cdv, ct2, osl, rfl, lk, hcd, hD, hK⟩ := F.ex
  rcases hD with ⟨_, rfl⟩ | ⟨z, _⟩
  · exact .of_eq rfl
  · exact absurd rfl z
end Law
open PySem PySem.W PyProof.Rows
set_option maxRecDepth 100000 in
set_option maxHeartbeats 0 in
theorem PySem.Challenge.cw_stillarms_k05_whole_other_arms_led_along_holds : PySem.Challenge.rw_stillarms_k05_whole_other_arms_led_along.Holds := by
  w_on; o_law; k_head; (case hw => w_witness2)
  k_fill
  refine Fd.law_end (l := PySem.Challenge.rw_stillarms_k05_whole_other_arms_led_along) (k := 10) rfl rfl ⟨rfl, by decide, by decide⟩ (fun w h Y => PySem.W.kIn_of Y) ?F
  case F =>
    intro w mg fa h KX G hmg
    refine' Law.all_mk KX G hmg ?e_BadPlace ?e_BadArms ?e_BadSize ?e_BadOrder ?e_Arms ?cl_Arms ?kb_Arms ?kc_Arms ?nb_Arms ?kd_Arms_Arms ?nd_Arms_Arms ?z_abs ?z_bool ?z_enumerate ?z_int ?z_isinstance ?z_len ?z_list ?z_max ?z_min ?z_range ?z_sorted ?z_str ?z_tuple ?gcd ?c_MAST ?c_MOST_BARS ?c_MOST_LETTERS ?c_ZERO ?f_is_whole ?f_is_ratio ?f_is_above_zero ?f_lowest_terms ?f_plus ?f_times ?f_is_row ?f_is_place_form ?f_check_place ?f_bad_bar ?f_check_bars ?f_check_order ?f_law_hand ?f_law_take ?f_law_gcd ?f_law_ratio ?f_law_plus ?f_law_times ?f_law_over ?f_law_mark ?f_law_letters ?f_law_bars ?f_law_most ?f_law_wide ?f_law_wide_ratio ?f_law_tuples ?f_law_odd ?f_law_grown_place ?f_law_moved_place ?f_law_order ?f_law_renamed ?f_law_grown ?f_law_shifted ?f_law_named ?f_law_longer ?f_law_refused ?f_law_added ?k_Arms ?ne_Arms ?fa_Arms_bars ?fa_Arms_letters ?mt_Arms_with_bar ?mt_Arms_renamed ?mt_Arms_row_of ?mt_Arms_line_row ?mt_Arms___len__ ?mt_Arms___init__ ?mt_Arms___eq__ ?mt_Arms_shifted ?mt_Arms_grown ?x_BadPlace ?x_BadArms ?h_BadArms ?no_BadArms_index ?no_BadArms_what ?x_BadSize ?h_BadSize ?x_BadOrder ?h_BadOrder ?f_law
    (case e_BadPlace => k_is)
    (case e_BadArms => k_is)
    (case e_BadSize => k_is)
    (case e_BadOrder => k_is)
    (case e_Arms => k_is)
    (case cl_Arms => refine' Fd.clsT0 rfl ?pg_cl_Arms ?hd_cl_Arms ?po_cl_Arms ?sa_cl_Arms ?ca_cl_Arms ?cn_cl_Arms ?tk_cl_Arms ?cm_cl_Arms; (case pg_cl_Arms => first | k_is | kernel_rfl); (case hd_cl_Arms => first | k_is | kernel_rfl); (case po_cl_Arms => first | k_is | kernel_rfl); (case sa_cl_Arms => first | k_is | kernel_rfl); (case ca_cl_Arms => first | k_is | kernel_rfl); (case cn_cl_Arms => first | k_is | kernel_rfl); (case tk_cl_Arms => first | k_is | kernel_rfl); (case cm_cl_Arms => first | k_is | kernel_rfl))
    (case kb_Arms => refine' Fd.tyAllN ?a0_kb_Arms ?a1_kb_Arms ?a2_kb_Arms ?a3_kb_Arms ?a4_kb_Arms ?a5_kb_Arms; (case a0_kb_Arms => first | k_is | kernel_rfl); (case a1_kb_Arms => first | k_is | kernel_rfl); (case a2_kb_Arms => first | k_is | kernel_rfl); (case a3_kb_Arms => first | k_is | kernel_rfl); (case a4_kb_Arms => first | k_is | kernel_rfl); (case a5_kb_Arms => first | k_is | kernel_rfl))
    (case kc_Arms => refine' Fd.tyAll ?a0_kc_Arms ?a1_kc_Arms ?a2_kc_Arms ?a3_kc_Arms ?a4_kc_Arms ?a5_kc_Arms ?a6_kc_Arms; (case a0_kc_Arms => first | k_is | kernel_rfl); (case a1_kc_Arms => first | k_is | kernel_rfl); (case a2_kc_Arms => first | k_is | kernel_rfl); (case a3_kc_Arms => first | k_is | kernel_rfl); (case a4_kc_Arms => first | k_is | kernel_rfl); (case a5_kc_Arms => first | k_is | kernel_rfl); (case a6_kc_Arms => first | k_is | kernel_rfl))
    (case nb_Arms => refine' Fd.tyAll ?a0_nb_Arms ?a1_nb_Arms ?a2_nb_Arms ?a3_nb_Arms ?a4_nb_Arms ?a5_nb_Arms ?a6_nb_Arms; (case a0_nb_Arms => first | k_is | kernel_rfl); (case a1_nb_Arms => first | k_is | kernel_rfl); (case a2_nb_Arms => first | k_is | kernel_rfl); (case a3_nb_Arms => first | k_is | kernel_rfl); (case a4_nb_Arms => first | k_is | kernel_rfl); (case a5_nb_Arms => first | k_is | kernel_rfl); (case a6_nb_Arms => first | k_is | kernel_rfl))
    (case kd_Arms_Arms => first | k_is | kernel_rfl)
    (case nd_Arms_Arms => first | k_is | kernel_rfl)
    (case z_abs => k_is)
    (case z_bool => k_is)
    (case z_enumerate => k_is)
    (case z_int => k_is)
    (case z_isinstance => k_is)
    (case z_len => k_is)
    (case z_list => k_is)
    (case z_max => k_is)
    (case z_min => k_is)
    (case z_range => k_is)
    (case z_sorted => k_is)
    (case z_str => k_is)
    (case z_tuple => k_is)
    (case gcd => k_is)
    (case c_MAST => refine' Fd.csT_int KX G ?e_c_MAST; (case e_c_MAST => k_is))
    (case c_MOST_BARS => refine' Fd.csT_int KX G ?e_c_MOST_BARS; (case e_c_MOST_BARS => k_is))
    (case c_MOST_LETTERS => refine' Fd.csT_int KX G ?e_c_MOST_LETTERS; (case e_c_MOST_LETTERS => k_is))
    (case c_ZERO => refine' Fd.csT_tup (vs := [.int 0, .int 1]) KX G ?e_c_ZERO ?l_c_ZERO ?hl_c_ZERO ?hv_c_ZERO (fun _ => (.cons (.int _) (.cons (.int _) .nil))); (case e_c_ZERO => k_is); (case l_c_ZERO => k_is); (case hl_c_ZERO => decide); (case hv_c_ZERO => exact (.cons ⟨_, rfl⟩ (.cons ⟨_, rfl⟩ .nil))))
    (case f_is_whole => refine' Fd.fnT1 KX G ?e_f_is_whole ?l_f_is_whole ?c_f_is_whole ?k_f_is_whole ?lT_f_is_whole ?hd_f_is_whole ?hv_f_is_whole; (case e_f_is_whole => k_is); (case l_f_is_whole => k_is); (case c_f_is_whole => k_is); (case k_f_is_whole => k_is); (case lT_f_is_whole => k_is); (case hd_f_is_whole => exact fun z => nomatch z); (case hv_f_is_whole => exact (.cons rfl (.cons rfl .nil))))
    (case f_is_ratio => refine' Fd.fnT0 KX G ?e_f_is_ratio ?l_f_is_ratio ?c_f_is_ratio ?k_f_is_ratio; (case e_f_is_ratio => k_is); (case l_f_is_ratio => k_is); (case c_f_is_ratio => k_is); (case k_f_is_ratio => k_is))
    (case f_is_above_zero => refine' Fd.fnT0 KX G ?e_f_is_above_zero ?l_f_is_above_zero ?c_f_is_above_zero ?k_f_is_above_zero; (case e_f_is_above_zero => k_is); (case l_f_is_above_zero => k_is); (case c_f_is_above_zero => k_is); (case k_f_is_above_zero => k_is))
    (case f_lowest_terms => refine' Fd.fnT0 KX G ?e_f_lowest_terms ?l_f_lowest_terms ?c_f_lowest_terms ?k_f_lowest_terms; (case e_f_lowest_terms => k_is); (case l_f_lowest_terms => k_is); (case c_f_lowest_terms => k_is); (case k_f_lowest_terms => k_is))
    (case f_plus => refine' Fd.fnT0 KX G ?e_f_plus ?l_f_plus ?c_f_plus ?k_f_plus; (case e_f_plus => k_is); (case l_f_plus => k_is); (case c_f_plus => k_is); (case k_f_plus => k_is))
    (case f_times => refine' Fd.fnT0 KX G ?e_f_times ?l_f_times ?c_f_times ?k_f_times; (case e_f_times => k_is); (case l_f_times => k_is); (case c_f_times => k_is); (case k_f_times => k_is))
    (case f_is_row => refine' Fd.fnT0 KX G ?e_f_is_row ?l_f_is_row ?c_f_is_row ?k_f_is_row; (case e_f_is_row => k_is); (case l_f_is_row => k_is); (case c_f_is_row => k_is); (case k_f_is_row => k_is))
    (case f_is_place_form => refine' Fd.fnT0 KX G ?e_f_is_place_form ?l_f_is_place_form ?c_f_is_place_form ?k_f_is_place_form; (case e_f_is_place_form => k_is); (case l_f_is_place_form => k_is); (case c_f_is_place_form => k_is); (case k_f_is_place_form => k_is))
    (case f_check_place => refine' Fd.fnT0 KX G ?e_f_check_place ?l_f_check_place ?c_f_check_place ?k_f_check_place; (case e_f_check_place => k_is); (case l_f_check_place => k_is); (case c_f_check_place => k_is); (case k_f_check_place => k_is))
    (case f_bad_bar => refine' Fd.fnT0 KX G ?e_f_bad_bar ?l_f_bad_bar ?c_f_bad_bar ?k_f_bad_bar; (case e_f_bad_bar => k_is); (case l_f_bad_bar => k_is); (case c_f_bad_bar => k_is); (case k_f_bad_bar => k_is))
    (case f_check_bars => refine' Fd.fnT0 KX G ?e_f_check_bars ?l_f_check_bars ?c_f_check_bars ?k_f_check_bars; (case e_f_check_bars => k_is); (case l_f_check_bars => k_is); (case c_f_check_bars => k_is); (case k_f_check_bars => k_is))
    (case f_check_order => refine' Fd.fnT0 KX G ?e_f_check_order ?l_f_check_order ?c_f_check_order ?k_f_check_order; (case e_f_check_order => k_is); (case l_f_check_order => k_is); (case c_f_check_order => k_is); (case k_f_check_order => k_is))
    (case f_law_hand => refine' Fd.fnT0 KX G ?e_f_law_hand ?l_f_law_hand ?c_f_law_hand ?k_f_law_hand; (case e_f_law_hand => k_is); (case l_f_law_hand => k_is); (case c_f_law_hand => k_is); (case k_f_law_hand => k_is))
    (case f_law_take => refine' Fd.fnT0 KX G ?e_f_law_take ?l_f_law_take ?c_f_law_take ?k_f_law_take; (case e_f_law_take => k_is); (case l_f_law_take => k_is); (case c_f_law_take => k_is); (case k_f_law_take => k_is))
    (case f_law_gcd => refine' Fd.fnT0 KX G ?e_f_law_gcd ?l_f_law_gcd ?c_f_law_gcd ?k_f_law_gcd; (case e_f_law_gcd => k_is); (case l_f_law_gcd => k_is); (case c_f_law_gcd => k_is); (case k_f_law_gcd => k_is))
    (case f_law_ratio => refine' Fd.fnT0 KX G ?e_f_law_ratio ?l_f_law_ratio ?c_f_law_ratio ?k_f_law_ratio; (case e_f_law_ratio => k_is); (case l_f_law_ratio => k_is); (case c_f_law_ratio => k_is); (case k_f_law_ratio => k_is))
    (case f_law_plus => refine' Fd.fnT0 KX G ?e_f_law_plus ?l_f_law_plus ?c_f_law_plus ?k_f_law_plus; (case e_f_law_plus => k_is); (case l_f_law_plus => k_is); (case c_f_law_plus => k_is); (case k_f_law_plus => k_is))
    (case f_law_times => refine' Fd.fnT0 KX G ?e_f_law_times ?l_f_law_times ?c_f_law_times ?k_f_law_times; (case e_f_law_times => k_is); (case l_f_law_times => k_is); (case c_f_law_times => k_is); (case k_f_law_times => k_is))
    (case f_law_over => refine' Fd.fnT0 KX G ?e_f_law_over ?l_f_law_over ?c_f_law_over ?k_f_law_over; (case e_f_law_over => k_is); (case l_f_law_over => k_is); (case c_f_law_over => k_is); (case k_f_law_over => k_is))
    (case f_law_mark => refine' Fd.fnT0 KX G ?e_f_law_mark ?l_f_law_mark ?c_f_law_mark ?k_f_law_mark; (case e_f_law_mark => k_is); (case l_f_law_mark => k_is); (case c_f_law_mark => k_is); (case k_f_law_mark => k_is))
    (case f_law_letters => refine' Fd.fnT0 KX G ?e_f_law_letters ?l_f_law_letters ?c_f_law_letters ?k_f_law_letters; (case e_f_law_letters => k_is); (case l_f_law_letters => k_is); (case c_f_law_letters => k_is); (case k_f_law_letters => k_is))
    (case f_law_bars => refine' Fd.fnT1 KX G ?e_f_law_bars ?l_f_law_bars ?c_f_law_bars ?k_f_law_bars ?lT_f_law_bars ?hd_f_law_bars ?hv_f_law_bars; (case e_f_law_bars => k_is); (case l_f_law_bars => k_is); (case c_f_law_bars => k_is); (case k_f_law_bars => k_is); (case lT_f_law_bars => k_is); (case hd_f_law_bars => exact fun z => nomatch z); (case hv_f_law_bars => exact (.cons ⟨_, rfl⟩ .nil)))
    (case f_law_most => refine' Fd.fnT0 KX G ?e_f_law_most ?l_f_law_most ?c_f_law_most ?k_f_law_most; (case e_f_law_most => k_is); (case l_f_law_most => k_is); (case c_f_law_most => k_is); (case k_f_law_most => k_is))
    (case f_law_wide => refine' Fd.fnT0 KX G ?e_f_law_wide ?l_f_law_wide ?c_f_law_wide ?k_f_law_wide; (case e_f_law_wide => k_is); (case l_f_law_wide => k_is); (case c_f_law_wide => k_is); (case k_f_law_wide => k_is))
    (case f_law_wide_ratio => refine' Fd.fnT0 KX G ?e_f_law_wide_ratio ?l_f_law_wide_ratio ?c_f_law_wide_ratio ?k_f_law_wide_ratio; (case e_f_law_wide_ratio => k_is); (case l_f_law_wide_ratio => k_is); (case c_f_law_wide_ratio => k_is); (case k_f_law_wide_ratio => k_is))
    (case f_law_tuples => refine' Fd.fnT0 KX G ?e_f_law_tuples ?l_f_law_tuples ?c_f_law_tuples ?k_f_law_tuples; (case e_f_law_tuples => k_is); (case l_f_law_tuples => k_is); (case c_f_law_tuples => k_is); (case k_f_law_tuples => k_is))
    (case f_law_odd => refine' Fd.fnT0 KX G ?e_f_law_odd ?l_f_law_odd ?c_f_law_odd ?k_f_law_odd; (case e_f_law_odd => k_is); (case l_f_law_odd => k_is); (case c_f_law_odd => k_is); (case k_f_law_odd => k_is))
    (case f_law_grown_place => refine' Fd.fnT0 KX G ?e_f_law_grown_place ?l_f_law_grown_place ?c_f_law_grown_place ?k_f_law_grown_place; (case e_f_law_grown_place => k_is); (case l_f_law_grown_place => k_is); (case c_f_law_grown_place => k_is); (case k_f_law_grown_place => k_is))
    (case f_law_moved_place => refine' Fd.fnT0 KX G ?e_f_law_moved_place ?l_f_law_moved_place ?c_f_law_moved_place ?k_f_law_moved_place; (case e_f_law_moved_place => k_is); (case l_f_law_moved_place => k_is); (case c_f_law_moved_place => k_is); (case k_f_law_moved_place => k_is))
    (case f_law_order => refine' Fd.fnT0 KX G ?e_f_law_order ?l_f_law_order ?c_f_law_order ?k_f_law_order; (case e_f_law_order => k_is); (case l_f_law_order => k_is); (case c_f_law_order => k_is); (case k_f_law_order => k_is))
    (case f_law_renamed => refine' Fd.fnT0 KX G ?e_f_law_renamed ?l_f_law_renamed ?c_f_law_renamed ?k_f_law_renamed; (case e_f_law_renamed => k_is); (case l_f_law_renamed => k_is); (case c_f_law_renamed => k_is); (case k_f_law_renamed => k_is))
    (case f_law_grown => refine' Fd.fnT0 KX G ?e_f_law_grown ?l_f_law_grown ?c_f_law_grown ?k_f_law_grown; (case e_f_law_grown => k_is); (case l_f_law_grown => k_is); (case c_f_law_grown => k_is); (case k_f_law_grown => k_is))
    (case f_law_shifted => refine' Fd.fnT0 KX G ?e_f_law_shifted ?l_f_law_shifted ?c_f_law_shifted ?k_f_law_shifted; (case e_f_law_shifted => k_is); (case l_f_law_shifted => k_is); (case c_f_law_shifted => k_is); (case k_f_law_shifted => k_is))
    (case f_law_named => refine' Fd.fnT0 KX G ?e_f_law_named ?l_f_law_named ?c_f_law_named ?k_f_law_named; (case e_f_law_named => k_is); (case l_f_law_named => k_is); (case c_f_law_named => k_is); (case k_f_law_named => k_is))
    (case f_law_longer => refine' Fd.fnT0 KX G ?e_f_law_longer ?l_f_law_longer ?c_f_law_longer ?k_f_law_longer; (case e_f_law_longer => k_is); (case l_f_law_longer => k_is); (case c_f_law_longer => k_is); (case k_f_law_longer => k_is))
    (case f_law_refused => refine' Fd.fnT0 KX G ?e_f_law_refused ?l_f_law_refused ?c_f_law_refused ?k_f_law_refused; (case e_f_law_refused => k_is); (case l_f_law_refused => k_is); (case c_f_law_refused => k_is); (case k_f_law_refused => k_is))
    (case f_law_added => refine' Fd.fnT0 KX G ?e_f_law_added ?l_f_law_added ?c_f_law_added ?k_f_law_added; (case e_f_law_added => k_is); (case l_f_law_added => k_is); (case c_f_law_added => k_is); (case k_f_law_added => k_is))
    (case k_Arms => refine' Fd.mkT0 KX G rfl ?m_k_Arms ?k_k_Arms ?e_k_Arms; (case m_k_Arms => first | k_is | kernel_rfl); (case k_k_Arms => first | k_is | kernel_rfl); (case e_k_Arms => first | k_is | kernel_rfl))
    (case ne_Arms => k_is)
    (case fa_Arms_bars => k_is)
    (case fa_Arms_letters => k_is)
    (case mt_Arms_with_bar => refine' Fd.mthT0 rfl ?a_mt_Arms_with_bar ?t_mt_Arms_with_bar ?kp_mt_Arms_with_bar ?l_mt_Arms_with_bar ?cd_mt_Arms_with_bar; (case a_mt_Arms_with_bar => k_is); (case t_mt_Arms_with_bar => k_is); (case kp_mt_Arms_with_bar => k_is); (case l_mt_Arms_with_bar => k_is); (case cd_mt_Arms_with_bar => k_is))
    (case mt_Arms_renamed => refine' Fd.mthT0 rfl ?a_mt_Arms_renamed ?t_mt_Arms_renamed ?kp_mt_Arms_renamed ?l_mt_Arms_renamed ?cd_mt_Arms_renamed; (case a_mt_Arms_renamed => k_is); (case t_mt_Arms_renamed => k_is); (case kp_mt_Arms_renamed => k_is); (case l_mt_Arms_renamed => k_is); (case cd_mt_Arms_renamed => k_is))
    (case mt_Arms_row_of => refine' Fd.mthT0 rfl ?a_mt_Arms_row_of ?t_mt_Arms_row_of ?kp_mt_Arms_row_of ?l_mt_Arms_row_of ?cd_mt_Arms_row_of; (case a_mt_Arms_row_of => k_is); (case t_mt_Arms_row_of => k_is); (case kp_mt_Arms_row_of => k_is); (case l_mt_Arms_row_of => k_is); (case cd_mt_Arms_row_of => k_is))
    (case mt_Arms_line_row => refine' Fd.mthT0 rfl ?a_mt_Arms_line_row ?t_mt_Arms_line_row ?kp_mt_Arms_line_row ?l_mt_Arms_line_row ?cd_mt_Arms_line_row; (case a_mt_Arms_line_row => k_is); (case t_mt_Arms_line_row => k_is); (case kp_mt_Arms_line_row => k_is); (case l_mt_Arms_line_row => k_is); (case cd_mt_Arms_line_row => k_is))
    (case mt_Arms___len__ => refine' Fd.mthT0 rfl ?a_mt_Arms___len__ ?t_mt_Arms___len__ ?kp_mt_Arms___len__ ?l_mt_Arms___len__ ?cd_mt_Arms___len__; (case a_mt_Arms___len__ => k_is); (case t_mt_Arms___len__ => k_is); (case kp_mt_Arms___len__ => k_is); (case l_mt_Arms___len__ => k_is); (case cd_mt_Arms___len__ => k_is))
    (case mt_Arms___init__ => refine' Fd.mthT0 rfl ?a_mt_Arms___init__ ?t_mt_Arms___init__ ?kp_mt_Arms___init__ ?l_mt_Arms___init__ ?cd_mt_Arms___init__; (case a_mt_Arms___init__ => k_is); (case t_mt_Arms___init__ => k_is); (case kp_mt_Arms___init__ => k_is); (case l_mt_Arms___init__ => k_is); (case cd_mt_Arms___init__ => k_is))
    (case mt_Arms___eq__ => refine' Fd.mthT0 rfl ?a_mt_Arms___eq__ ?t_mt_Arms___eq__ ?kp_mt_Arms___eq__ ?l_mt_Arms___eq__ ?cd_mt_Arms___eq__; (case a_mt_Arms___eq__ => k_is); (case t_mt_Arms___eq__ => k_is); (case kp_mt_Arms___eq__ => k_is); (case l_mt_Arms___eq__ => k_is); (case cd_mt_Arms___eq__ => k_is))
    (case mt_Arms_shifted => refine' Fd.mthT0 rfl ?a_mt_Arms_shifted ?t_mt_Arms_shifted ?kp_mt_Arms_shifted ?l_mt_Arms_shifted ?cd_mt_Arms_shifted; (case a_mt_Arms_shifted => k_is); (case t_mt_Arms_shifted => k_is); (case kp_mt_Arms_shifted => k_is); (case l_mt_Arms_shifted => k_is); (case cd_mt_Arms_shifted => k_is))
    (case mt_Arms_grown => refine' Fd.mthT0 rfl ?a_mt_Arms_grown ?t_mt_Arms_grown ?kp_mt_Arms_grown ?l_mt_Arms_grown ?cd_mt_Arms_grown; (case a_mt_Arms_grown => k_is); (case t_mt_Arms_grown => k_is); (case kp_mt_Arms_grown => k_is); (case l_mt_Arms_grown => k_is); (case cd_mt_Arms_grown => k_is))
    (case x_BadPlace => refine' Law.mk_BadPlace KX G ?eC_x_BadPlace rfl ?iC_x_BadPlace ?tI_x_BadPlace ?xL_x_BadPlace ?hbm_x_BadPlace ?sa_x_BadPlace ?exC_x_BadPlace ?tC_x_BadPlace ?kC_x_BadPlace ?lk_x_BadPlace ?hcd_x_BadPlace ?hcode_x_BadPlace ?hvs_x_BadPlace ?hfile_x_BadPlace ?hcell_x_BadPlace ?hD_x_BadPlace ?hsub_x_BadPlace ?hsuper_x_BadPlace ?htop_x_BadPlace ?hop_x_BadPlace ?hsu_x_BadPlace ?hB_x_BadPlace ?kf_x_BadPlace; (case eC_x_BadPlace => k_is); (case iC_x_BadPlace => k_is); (case tI_x_BadPlace => k_is); (case xL_x_BadPlace => k_is); (case hbm_x_BadPlace => rfl); (case sa_x_BadPlace => k_is); (case exC_x_BadPlace => k_is); (case tC_x_BadPlace => k_is); (case kC_x_BadPlace => k_is); (case lk_x_BadPlace => k_is); (case hcd_x_BadPlace => k_is); (case hcode_x_BadPlace => k_is); (case hvs_x_BadPlace => rfl); (case hfile_x_BadPlace => rfl); (case hcell_x_BadPlace => k_is); (case hD_x_BadPlace => k_is); (case hsub_x_BadPlace => k_is); (case hsuper_x_BadPlace => k_is); (case htop_x_BadPlace => rfl); (case hop_x_BadPlace => k_is); (case hsu_x_BadPlace => kernel_rfl); (case hB_x_BadPlace => k_is); (case kf_x_BadPlace => k_is))
    (case x_BadArms => refine' Law.mk_BadArms KX G ?eC_x_BadArms rfl ?iC_x_BadArms ?tI_x_BadArms ?xL_x_BadArms ?hbm_x_BadArms ?sa_x_BadArms ?exC_x_BadArms ?tC_x_BadArms ?kC_x_BadArms ?lk_x_BadArms ?hcd_x_BadArms ?hcode_x_BadArms ?hvs_x_BadArms ?hfile_x_BadArms ?hcell_x_BadArms ?hD_x_BadArms ?hsub_x_BadArms ?hsuper_x_BadArms ?htop_x_BadArms ?hop_x_BadArms ?hsu_x_BadArms ?hB_x_BadArms ?kf_x_BadArms ?n_index_x_BadArms ?n_what_x_BadArms; (case eC_x_BadArms => k_is); (case iC_x_BadArms => k_is); (case tI_x_BadArms => k_is); (case xL_x_BadArms => k_is); (case hbm_x_BadArms => rfl); (case sa_x_BadArms => k_is); (case exC_x_BadArms => k_is); (case tC_x_BadArms => k_is); (case kC_x_BadArms => k_is); (case lk_x_BadArms => k_is); (case hcd_x_BadArms => k_is); (case hcode_x_BadArms => k_is); (case hvs_x_BadArms => rfl); (case hfile_x_BadArms => rfl); (case hcell_x_BadArms => k_is); (case hD_x_BadArms => k_is); (case hsub_x_BadArms => k_is); (case hsuper_x_BadArms => k_is); (case htop_x_BadArms => rfl); (case hop_x_BadArms => k_is); (case hsu_x_BadArms => kernel_rfl); (case hB_x_BadArms => k_is); (case kf_x_BadArms => k_is); (case n_index_x_BadArms => k_is); (case n_what_x_BadArms => k_is))
    (case h_BadArms => refine' Law.mkh_BadArms KX G ?eC_h_BadArms ?ga_h_BadArms ?gg_h_BadArms ?exC_h_BadArms ?hd_h_BadArms ?m0_h_BadArms ?m1_h_BadArms ?m2_h_BadArms ?m3_h_BadArms; (case eC_h_BadArms => k_is); (case ga_h_BadArms => k_is); (case gg_h_BadArms => k_is); (case exC_h_BadArms => k_is); (case hd_h_BadArms => k_is); (case m0_h_BadArms => kernel_rfl); (case m1_h_BadArms => kernel_rfl); (case m2_h_BadArms => kernel_rfl); (case m3_h_BadArms => kernel_rfl))
    (case no_BadArms_index => k_is)
    (case no_BadArms_what => k_is)
    (case x_BadSize => refine' Law.mk_BadSize KX G ?eC_x_BadSize rfl ?iC_x_BadSize ?tI_x_BadSize ?xL_x_BadSize ?hbm_x_BadSize ?sa_x_BadSize ?exC_x_BadSize ?tC_x_BadSize ?kC_x_BadSize ?lk_x_BadSize ?hcd_x_BadSize ?hcode_x_BadSize ?hvs_x_BadSize ?hfile_x_BadSize ?hcell_x_BadSize ?hD_x_BadSize ?hsub_x_BadSize ?hsuper_x_BadSize ?htop_x_BadSize ?hop_x_BadSize ?hsu_x_BadSize ?hB_x_BadSize ?kf_x_BadSize; (case eC_x_BadSize => k_is); (case iC_x_BadSize => k_is); (case tI_x_BadSize => k_is); (case xL_x_BadSize => k_is); (case hbm_x_BadSize => rfl); (case sa_x_BadSize => k_is); (case exC_x_BadSize => k_is); (case tC_x_BadSize => k_is); (case kC_x_BadSize => k_is); (case lk_x_BadSize => k_is); (case hcd_x_BadSize => k_is); (case hcode_x_BadSize => k_is); (case hvs_x_BadSize => rfl); (case hfile_x_BadSize => rfl); (case hcell_x_BadSize => k_is); (case hD_x_BadSize => k_is); (case hsub_x_BadSize => k_is); (case hsuper_x_BadSize => k_is); (case htop_x_BadSize => rfl); (case hop_x_BadSize => k_is); (case hsu_x_BadSize => kernel_rfl); (case hB_x_BadSize => k_is); (case kf_x_BadSize => k_is))
    (case h_BadSize => refine' Law.mkh_BadSize KX G ?eC_h_BadSize ?ga_h_BadSize ?gg_h_BadSize ?exC_h_BadSize ?hd_h_BadSize ?m0_h_BadSize ?m1_h_BadSize ?m2_h_BadSize ?m3_h_BadSize; (case eC_h_BadSize => k_is); (case ga_h_BadSize => k_is); (case gg_h_BadSize => k_is); (case exC_h_BadSize => k_is); (case hd_h_BadSize => k_is); (case m0_h_BadSize => kernel_rfl); (case m1_h_BadSize => kernel_rfl); (case m2_h_BadSize => kernel_rfl); (case m3_h_BadSize => kernel_rfl))
    (case x_BadOrder => refine' Law.mk_BadOrder KX G ?eC_x_BadOrder rfl ?iC_x_BadOrder ?tI_x_BadOrder ?xL_x_BadOrder ?hbm_x_BadOrder ?sa_x_BadOrder ?exC_x_BadOrder ?tC_x_BadOrder ?kC_x_BadOrder ?lk_x_BadOrder ?hcd_x_BadOrder ?hcode_x_BadOrder ?hvs_x_BadOrder ?hfile_x_BadOrder ?hcell_x_BadOrder ?hD_x_BadOrder ?hsub_x_BadOrder ?hsuper_x_BadOrder ?htop_x_BadOrder ?hop_x_BadOrder ?hsu_x_BadOrder ?hB_x_BadOrder ?kf_x_BadOrder; (case eC_x_BadOrder => k_is); (case iC_x_BadOrder => k_is); (case tI_x_BadOrder => k_is); (case xL_x_BadOrder => k_is); (case hbm_x_BadOrder => rfl); (case sa_x_BadOrder => k_is); (case exC_x_BadOrder => k_is); (case tC_x_BadOrder => k_is); (case kC_x_BadOrder => k_is); (case lk_x_BadOrder => k_is); (case hcd_x_BadOrder => k_is); (case hcode_x_BadOrder => k_is); (case hvs_x_BadOrder => rfl); (case hfile_x_BadOrder => rfl); (case hcell_x_BadOrder => k_is); (case hD_x_BadOrder => k_is); (case hsub_x_BadOrder => k_is); (case hsuper_x_BadOrder => k_is); (case htop_x_BadOrder => rfl); (case hop_x_BadOrder => k_is); (case hsu_x_BadOrder => kernel_rfl); (case hB_x_BadOrder => k_is); (case kf_x_BadOrder => k_is))
    (case h_BadOrder => refine' Law.mkh_BadOrder KX G ?eC_h_BadOrder ?ga_h_BadOrder ?gg_h_BadOrder ?exC_h_BadOrder ?hd_h_BadOrder ?m0_h_BadOrder ?m1_h_BadOrder ?m2_h_BadOrder ?m3_h_BadOrder; (case eC_h_BadOrder => k_is); (case ga_h_BadOrder => k_is); (case gg_h_BadOrder => k_is); (case exC_h_BadOrder => k_is); (case hd_h_BadOrder => k_is); (case m0_h_BadOrder => kernel_rfl); (case m1_h_BadOrder => kernel_rfl); (case m2_h_BadOrder => kernel_rfl); (case m3_h_BadOrder => kernel_rfl))
    (case f_law => refine' Fd.fnT0 KX G ?e_f_law ?l_f_law ?c_f_law ?k_f_law; (case e_f_law => k_is); (case l_f_law => k_is); (case c_f_law => k_is); (case k_f_law => k_is))
