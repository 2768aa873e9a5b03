import PyProof.Rows.All
import Wide.All
import OpenK.AllK
import Wide.FinOn
import HandS.ForMost
import HandS.ForExc
import HandS.ExcInit
import HandS.ExcSuper
import HandS.Nested
import KE.KExcSuper
import HandS.RaiseMore
import HandS.ExcField
import HandS.Defaults
import HandS.HeadEnd
import HandS.StrMore
import PyProof.ReprRoads
import HandS.Codes
import HandS.ExcCtx
import HandS.HotCalls
import HandS.Wide
import PyProof.StrOps2
import KE.IntTextLaws
import KE.KIntText
import HandS.Iter
import HandS.Walk
import HandS.More
import HandS.ExcOwn
import HandS.List
import PySem.Challenge.RW_alnage_k02_chains_and_levels
import HandS.Comp
import HandS.Zip
import HandS.Dict
import HandS.Head0
import HandS.Head1
import HandS.Head2
import HandS.HeadHook1
import HandS.HeadHook2
import HandS.HeadHook3
set_option Elab.async false
set_option linter.all false
set_option maxRecDepth 100000
set_option maxHeartbeats 0
namespace Al
open PySem PySem.Spec PyProof.Rows L2 NdefX PySem.W
section
variable {prog : Program} {w : World} {A : Around} {E : Value → Shared → Prop} {h : Heap} {g : Array GenState} {d : Drawn} {t : Nat} {os : OsState}
variable {nm q : Str} {C N : Addr} {bs bm : List Value} {hdct : Bool} {sn : List Str} {sub : List Value} {ab : Bool} {col : Option Bool} {dd : Option Addr} {k0 k1 k2 k3 k5 : Option Value}
/-- the bound ValueError.__init__ called -/
theorem call_bwV {u e t0 : Addr} {rest : List Value} {Q : Value → Shared → Prop}
    (hC : h.get? C = some (excClassObj nm q C N bs bm hdct sn sub ab col dd k0 k1 k2 k3 k5 "ValueError.__new__")) (he : h.get? e = some (HandSPX.excO C t0)) (hu : h.get? u = some (kxs_mw "ValueError.__init__" e)) (hrest : rest.length ≤ sizeLine)
    (hq : ∀ h' t1, (∀ b o, b ≠ e → h.get? b = some o → h'.get? b = some o) → h'.get? e = some (HandSPX.excO C t1) → Q .none ⟨h', g, d, t, os⟩) :
    wpAny (model prog w) A (call (.ref u) rest) Q E ⟨h, g, d, t, os⟩ := by
  refine wpAny_call (codeAny_of_tree ?_)
  show wpAny _ A.in1 (callAny (.ref u) ⟨rest, []⟩) _ _ _
  simp only [callAny]
  refine wpAny_bind (wpAny_load hu ?_)
  simp only [kxs_mw, show (Value.type "method-wrapper" == Value.type "method" || Value.type "method-wrapper" == Value.type "builtin_function_or_method" || Value.type "method-wrapper" == Value.type "method-wrapper") = true by decide, if_true]
  refine W.KFB.if_so (by decide) ?_
  refine wpAny_bind (ESX.check_bound F.excBase_ValueError hC he rfl ?_)
  refine wpAny_bind (wpAny_pure (wpAny_pure ?_))
  refine ⟨Code.quiet_builtin _ (by decide +kernel), codeAny_builtin F.excBase_ValueError.initEntry ?_⟩
  rw [Around.under_plainId F.excBase_ValueError.init.plain _]
  wp_walk
  refine hq _ h.objs.size (fun b o hb ho => ?_) ?_
  · rw [Heap.get?_update_other _ _ (Ne.symm hb)]
    exact Heap.get?_push_of_some _ ho
  · rw [Heap.get?_update_self _ (Heap.get?_push_of_some _ he) rfl]
    rfl
end
/-- the facts about the class at D, whose __init__ says super().__init__(..) -/
structure SupC (K : Frag) (mg : Str → Option Value) (D cda cc : Addr) (P : Program) : Prop where
  ox : OexC K D
  cl : ∃ cd, clsIn K D = some cd
  ms : mroIn K D (.ref D) = some true
  sup : ks_superIn K D D "__init__" = some (some (.builtin "ValueError.__init__"))
  sV : subIn K (.ref D) (.type "ValueError") = some true
  sm : mg "super" = none
  st : nsIn K cStatics "thirdparty.any" = some none
  cell : ∃ cl cld csl, K.lookup cc = some ⟨cl, cld, .cell (some (.ref D)), csl⟩
  code : ∃ ccl cdd vs ccs file tf, K.lookup cda = some ⟨ccl, cdd, .fields vs, ccs⟩ ∧ vs[2]? = some (.str file tf) ∧ ((P.main.file : Str) == file) = true
  top : (P.main.scope.names.lookup ("super" : Str)).isSome = false
section
variable {CX : CXT} {P : Program} {w : World} {K : PySem.W.Frag} {mg : Str → Option Value} {base : Heap} {k : Nat} {f D cda cc : Addr} {name qual : Str} {params : Arguments} {scope : Scope} {kV doc pm ct oc : Value} {an od : Option Addr}
    {osl : Array (Option Value)} {N ps : List Str} {sp : Sp} {ex : Expr} {rest : List Stmt} {p0 p1 pa pc pe : Pos} {ar : Arg}
abbrev supBody (ex : Expr) (rest : List Stmt) (p0 p1 pa pc pe : Pos) : List Stmt := .Expr (.Call (.Attribute (.Call (.Name "super" p0) [] [] p1) "__init__" pa) [ex] [] pc) pe :: rest
abbrev supNF (name qual : Str) (params : Arguments) (body : List Stmt) (scope : Scope) (cc cda : Addr) : NF := ⟨name, qual, params, body, scope, [("__class__", cc)], cda⟩
theorem fn_super (lk : K.lookup f = some ⟨oc, od, .func (ksFn name qual params (supBody ex rest p0 p1 pa pc pe) scope .none kV doc pm an (.ref cda) ct cc), osl⟩)
    (hcd : codeIn K (.ref cda) qual = true) (T : SupC K mg D cda cc P) (S : NScope N ps ["__class__"] scope) (har : (params.posonlyargs ++ params.args).head? = some ar)
    (h0 : N[0]? = some ar.arg) (hsN : scope.names.lookup ("super" : Str) = some .globalImplicit)
    (hsw : ∀ L, swapsWith (.Call (.Attribute (.Call (.Name "super" p0) [] [] p1) "__init__" pa) [ex] [] pc) none pe.line (envF (supNF name qual params (supBody ex rest p0 p1 pa pc pe) scope cc cda) f L) = pure false)
    (hev : ∀ L, ∀ env, env = envF (supNF name qual params (supBody ex rest p0 p1 pa pc pe) scope cc cda) f L → ∃ pl, eval (.Call (.Attribute (.Call (.Name "super" p0) [] [] p1) "__init__" pa) [ex] [] pc) env = (do
      let ov ← attributeBase (.Call (.Name "super" p0) [] [] p1) "__init__" env (eval (.Call (.Name "super" p0) [] [] p1) env)
      standAt pa.atName
      let (f, first) ← holding [ov] (getMethod ov "__init__" pl)
      callWith pc f first (backTo pc (starEach [ex] env)) []))
    (hst : ∀ L, ∀ env, env = envF (supNF name qual params (supBody ex rest p0 p1 pa pc pe) scope cc cda) f L → starEach [ex] env = (false, eval ex env) :: starEach [] env)
    (len : ∀ vs H Q E, sp vs H Q E → vs.length = ps.length)
    (hbody : ∀ (A : Around) (outer : List Env) (s : Shared) (H : Hp) (vs : List V) (Q : VK) (E : XK), Room k (A.deeper (envF (supNF name qual params (supBody ex rest p0 p1 pa pc pe) scope cc cda) f s.heap.objs.size)) → sp vs H Q E →
      ∃ x xs, vs = .ref x :: xs ∧ H x = some (exo x D none) ∧ ∃ ta t, PA (ncx CX P w K mg base N (supNF name qual params (supBody ex rest p0 p1 pa pc pe) scope cc cda) f A outer s H E) [ex] ta ∧
        PSs (ncx CX P w K mg base N (supNF name qual params (supBody ex rest p0 p1 pa pc pe) scope cc cda) f A outer s H E) rest t ∧
        ta (startF N vs [none]) H (fun ws H1 => ws.length ≤ 1000 ∧ H1 x = some (exo x D none) ∧ t { nx := fun _ H' => Q .non H', rt := Q } (startF N vs [none]) H1)) :
    FnOk P w K mg base CX (k + 1) f (ksFn name qual params (supBody ex rest p0 p1 pa pc pe) scope .none kV doc pm an (.ref cda) ct cc) ps sp := by
  refine ⟨len, fun A outer s H args us vs Q E hr e0 hb r hsp => ?_⟩
  have hl := len _ _ _ _ hsp
  have KX : K.In s.heap := e0.mod.kin.keeps fun b o e => (e0.bs b o e).1
  have lim : s.heap.NoLimit := e0.mod.nolimit.keeps fun b o e => (e0.bs b o e).1
  obtain ⟨cl, cld, csl, hcell⟩ := T.cell
  have ccB := e0.mod.kin _ _ hcell
  have CA : CellsAt (supNF name qual params (supBody ex rest p0 p1 pa pc pe) scope cc cda).cl ["__class__"] [none] s.heap H := by
    refine ⟨rfl, fun y c hy => ?_, fun y z c h1 h2 => ?_, fun i y hi => ?_⟩
    · have : c = cc := by
        have h2 : List.lookup y [(("__class__" : Str), cc)] = some c := hy
        rw [List.lookup_cons] at h2
        split at h2
        · exact (Option.some.inj h2).symm
        · simp at h2
      subst this
      exact ⟨(e0.bs _ _ ccB).2, some (.ref D), _, (e0.bs _ _ ccB).1, rfl⟩
    · have h1' : List.lookup y [(("__class__" : Str), cc)] = some c := h1
      have h2' : List.lookup z [(("__class__" : Str), cc)] = some c := h2
      rw [List.lookup_cons] at h1' h2'
      split at h1' <;> rename_i e1
      · split at h2' <;> rename_i e2
        · rw [beq_iff_eq.mp e1, beq_iff_eq.mp e2]
        · simp at h2'
      · simp at h1'
    · match i, hi with
      | 0, hi =>
        have hi : some (("__class__" : Str)) = some y := hi
        have := Option.some.inj hi
        subst this
        exact ⟨cc, rfl, fun v hv => by simp at hv⟩
      | i + 1, hi => simp at hi
  refine ks_codeAny_call_defAt (fd := ksFn name qual params (supBody ex rest p0 p1 pa pc pe) scope .none kV doc pm an (.ref cda) ct cc) (body := supBody ex rest p0 p1 pa pc pe) (binds := ps.zip us) hr.depth (KX _ _ lk) rfl lim (codeRec_of KX hcd) rfl hb S.nocell
    (fun ⟨n, v⟩ hy => S.par n (List.of_mem_zip hy).1) (fun h₁ hns kp => ?_) S.co S.gen S.kind
  obtain ⟨x, xs, rfl, hx, ta, t, hA, hS, hq⟩ := hbody A outer s H vs Q E (hr.deeper _) hsp
  have I : Inv (ncx CX P w K mg base N (supNF name qual params (supBody ex rest p0 p1 pa pc pe) scope cc cda) f A outer s H E) [] (startF N (.ref x :: xs) [none]) H { s with heap := h₁, toks := s.toks + (ps.zip us).length } := inv_startN S hr.hd e0 hl r CA hns kp
  let env := envF (supNF name qual params (supBody ex rest p0 p1 pa pc pe) scope cc cda) f s.heap.objs.size
  let X := ncx CX P w K mg base N (supNF name qual params (supBody ex rest p0 p1 pa pc pe) scope cc cda) f A outer s H E
  have hxC : H x ≠ none := by rw [hx]; exact fun z => nomatch z
  -- the frame's name self
  obtain ⟨m, hn, hlk⟩ := id I.loc
  have hpar : scope.names.lookup ar.arg = some .local := by
    cases ps with
    | nil => simp at hl
    | cons p ps =>
      have q := S.pre
      have e1 : (N.take ((p :: ps).length + 1))[0]? = N[0]? := by
        rw [List.getElem?_take_of_lt (by simp)]
      have q2 : List.take ((p :: ps).length + 1) N = p :: ps ++ [("__class__" : Str)] := q
      rw [q2] at e1
      have e2 : some p = N[0]? := e1
      rw [h0] at e2
      have e3 : p = ar.arg := Option.some.inj e2
      rw [← e3]
      exact S.par p (by simp)
  have hlen0 : 0 < N.length := by
    rcases List.getElem?_eq_some_iff.mp h0 with ⟨z, _⟩
    exact z
  have hself : m ar.arg = some (.ref x) := by
    obtain ⟨u, ru, q⟩ := hlk 0 ar.arg (.ref x) h0 rfl (.inl hpar)
    obtain rfl : u = Value.ref x := ru
    rcases q with ⟨_, e⟩ | ⟨kk, _⟩
    · exact e
    · rcases kk with kk | kk
      · have kk' : scope.names.lookup ar.arg = some .cell := kk
        rw [hpar] at kk'; cases kk'
      · have kk' : scope.names.lookup ar.arg = some .free := kk
        rw [hpar] at kk'; cases kk'
  have hfree : scope.names.lookup ("__class__" : Str) = some .free := S.frk _ (by simp)
  obtain ⟨ccl, cdd, cvs, ccs, file, tf, hcode, hvs, hfile⟩ := T.code
  obtain ⟨cdD, hclD⟩ := T.cl
  show PySem.wpAt (model P w) (A.deeper env) (.func (supBody ex rest p0 p1 pa pc pe) env) (execs (supBody ex rest p0 p1 pa pc pe) env) _ _ _
  refine ks_wpAt_execs_cons (ks_wpAt_Expr_any ?_ (by show interactive env = false; simp [interactive, env, S.kind]) (hsw _))
  obtain ⟨pl, hev⟩ := hev _ env rfl
  refine ks_wpAt_MethodCall (pl := pl) ?_ hev
  have KX1 : K.In h₁ := I.kIn
  obtain ⟨oD, hD1, hD2⟩ : ∃ oD, h₁.get? D = some oD ∧ oD.data = .cls cdD := by
    unfold clsIn at hclD
    split at hclD
    · rename_i c d cd' sl ho
      cases hclD
      exact ⟨_, KX1 _ _ ho, rfl⟩
    · cases hclD
  obtain ⟨t1, hx1⟩ := exo_at I.hok hx
  obtain ⟨mb, hb1, hb2⟩ := I.mod.blt
  have IA : InstAt h₁ x (HandSPX.excO D t1) D none := ⟨hx1, rfl, rfl, trivial⟩
  refine ks_wpAt_super_base (env := env) hsN hfree (by decide) rfl (KX1 _ _ lk) rfl har rfl (KX1 _ _ hcode) rfl hvs hfile T.top ?_
  refine ks_loadName_global S.kind hsN (Calls.loadGlobal_builtin (env := env) (I.mod.glob.keeps I.bk) T.sm (hb1.keeps I.bk) ((hb2 _ (by decide)).trans (by decide +kernel : bootBuiltins "super" = some (.type "super"))) ⟨rfl, ?_⟩)
  refine wpAny_loadName_free S.kind hfree rfl ⟨_, KX1 _ _ hcell, rfl⟩ ?_
  refine wpAny_loadName_local S.kind hpar hn hself ?_
  refine ks_wpAny_isType_cls hD1 hD2 ⟨rfl, ?_⟩
  refine ks_wpAny_call_super hD1 hD2 IA.at_ IA.cls (fun c e => ?_) (looks_mroIn KX1 T.ms) (fun h2 e2 k2 => ?_)
  · have := IA.no
    unfold notCls at this
    rw [e] at this
    exact Bool.noConfusion this
  have I2 : Inv X [] (startF N (.ref x :: xs) [none]) H { s with heap := h2, toks := s.toks + (ps.zip us).length } := I.kept k2
  have KX2 : K.In h2 := I2.kIn
  have IA2 : InstAt h2 x (HandSPX.excO D t1) D none := ⟨k2 _ _ hx1, rfl, rfl, trivial⟩
  have hsup := T.sup
  unfold ks_superIn at hsup
  rw [hclD] at hsup
  refine kxs_getMethod kxs_ValueError e2 (looks_opaque KX2 T.st) (l₀ := cdD.mro) (fun A Q E s k q => wpAny_bind ((looks_clsIn KX2 hclD) A _ E s k (wpAny_pure q))) rfl KX2 hsup
    (IA2.type.andThen (looks_subIn KX2 T.sV)) (ks_ne KX2 IA2 hclD) (by decide) ?_
  have k3 : ∀ b o, h2.get? b = some o → (h2.push (kxs_mw "ValueError.__init__" x)).get? b = some o := fun b o e => Heap.get?_push_of_some _ e
  have I3 : Inv X [] (startF N (.ref x :: xs) [none]) H { s with heap := h2.push (kxs_mw "ValueError.__init__" x), toks := s.toks + (ps.zip us).length + 1 } := I2.kept (t' := s.toks + (ps.zip us).length + 1) k3
  have hu3 : (h2.push (kxs_mw "ValueError.__init__" x)).get? h2.objs.size = some (kxs_mw "ValueError.__init__" x) := Heap.get?_push_at rfl rfl
  have I4 : Inv X [(h2.objs.size, kxs_mw "ValueError.__init__" x)] (startF N (.ref x :: xs) [none]) H { s with heap := h2.push (kxs_mw "ValueError.__init__" x), toks := s.toks + (ps.zip us).length + 1 } := I3.pins_of (by
    intro p hp
    obtain rfl : p = (h2.objs.size, kxs_mw "ValueError.__init__" x) := by simpa using hp
    refine ⟨hu3, I2.hok.fresh (Nat.le_refl _), Nat.ne_of_gt I2.lt, I2.nofs (Nat.le_refl _), fun v z => nomatch z⟩)
  show wpAny _ _ (callWith pc (.ref h2.objs.size) [] (backTo pc (starEach [ex] env)) []) _ _ _
  have hst' := hst _ env rfl
  have hAr := hA.run pc [(h2.objs.size, kxs_mw "ValueError.__init__" x)] _ _ _ _ I4 hq
  have hAr2 : wpAny (model P w) (A.deeper env) (spliced (backTo pc (starEach [ex] env))) _ _ _ := hAr
  rw [hst'] at hAr2 ⊢
  refine kxs_callWith (i := "ValueError.__init__") (x := x) rfl (Calls.evalArgs_plain (wpAny_mono hAr2 (fun ws' s4 h4 => ?_) fun e s' hs => hs))
  obtain ⟨ws, H1, I5, r5, hz, hx5, q5⟩ := h4
  have hpin := (I5.pin (h2.objs.size, kxs_mw "ValueError.__init__" x) (by simp)).1
  refine ⟨hpin, ?_⟩
  obtain ⟨nm, qn, N', bs, bm, sn, sub, ab, col, dd, k0, k1, k2', k3', k5, hC, hbm⟩ := T.ox.cls
  obtain ⟨t5, ho5⟩ := exo_at I5.hok hx5
  obtain ⟨h5, g5, d5, tk5, os5⟩ := s4
  have hlen5 : ws'.length ≤ sizeLine := by
    rw [← Paired.length r5, sizeLine_eq]
    omega
  refine call_bwV (I5.kIn _ _ hC) ho5 hpin hlen5 fun h6 t6 k6 hx6 => ?_
  have J := I5.write (t' := tk5) (x := x) (e := x) (o := exo x D none) (by rw [hx5]; exact True.intro) (.inl rfl) k6 ⟨_, hx6⟩ (exo_ok hx6)
  have eu : upd H1 x (exo x D none) = H1 := by
    funext b
    by_cases hb : b = x
    · rw [hb, upd_same, hx5]
    · rw [upd_ne hb]
  rw [eu] at J
  have J0 : Inv X [] (startF N (.ref x :: xs) [none]) H1 ⟨h6, g5, d5, tk5, os5⟩ := J.pins_of (by intro p hp; simp at hp)
  show PySem.wpAt (model P w) (A.deeper env) _ (execs rest env) _ _ _
  refine PySem.wpAt_of_wpAny ?_
  refine wpAny_mono (hS.run [] _ _ _ _ J0 q5) (fun fl s' hs => ?_) fun e s' hs => hs
  have fin : ∀ {σ' : L2.St} {H' : Hp} {v : V} {u : Value}, Inv X [] σ' H' s' → L2.RelV v u → Q v H' → CE outer P w H s Q u s' :=
    fun {σ' H' v u} J rv q => ⟨v, H', J.os, J.bare, J.base, J.hok, rv, q⟩
  cases fl with
  | ret u =>
    obtain ⟨v, σ', H', J, rv, q⟩ := hs
    exact fin J rv q
  | next =>
    obtain ⟨σ', H', J, q⟩ := hs
    exact fin (v := V.non) (u := Value.none) J rfl q
  | brk =>
    obtain ⟨_, _, _, q⟩ := hs
    exact False.elim q
  | cont =>
    obtain ⟨_, _, _, q⟩ := hs
    exact False.elim q
/-- the promise of an __init__ that keeps one field -/
def spX1 (D : Addr) (f : Str) (C : V → Prop) : Sp := fun vs H Q _ => ∃ x v, vs = [.ref x, v] ∧ C v ∧ H x = some (exo x D none) ∧
  ∀ dx, H dx = none → dx ≠ x → Q .non (upd (upd H dx (exd dx [(f, v)])) x (exo x D (some dx)))
end
end Al
namespace Al
open PySem PySem.Spec PyProof.Rows L2 NdefX PySem.W
/-! ### the law's own def, called from outside: what runs around it is known (no guards: repr needs that) -/
structure FnC (P : Program) (w : World) (K : Frag) (mg : Str → Option Value) (base : Heap) (CX : CXT) (f : Addr) (fd : FuncData) (ps : List Str) (sp : Sp) : Prop where
  go : ∀ (s : Shared) (H : Hp) (args : Args) (us : List Value) (vs : List V) (Q : VK) (E : XK), Env0 P w K mg base callerA [] s H → BindsTo s fd args (ps.zip us) → Vals vs us → sp vs H Q E →
    codeAny (model P w) callerA (.call (.ref f) args) (CR CX [] P w H s Q E) s
section
variable {P : Program} {w : World} {K : Frag} {mg mb : Str → Option Value} {base : Heap} {CX : CXT} {f : Addr} {fd : FuncData} {N ps : List Str} {k : Nat} {sp : Sp}
theorem fnC_of {x qual : Str} {params : Arguments} {body : List Stmt} {scope : Scope} {dvs : List V} {kws : List (Str × V)} (hr : Room (k + 1) callerA) (F : FunD K x qual params body scope dvs kws f fd) (S : FnScope N ps scope)
    (len : ∀ vs H Q E, sp vs H Q E → vs.length = ps.length)
    (hbody : ∀ (cdv : Value) (s : Shared) (H : Hp) (vs : List V) (Q : VK) (E : XK), Room k (callerA.deeper (envOfC qual scope s.heap.objs.size f cdv)) → sp vs H Q E →
      ∃ t, PSs (cxOf CX P w K mg base N qual scope f cdv callerA [] s H E) body t ∧ t { nx := fun _ H' => Q .non H', rt := Q } (start N vs) H) : FnC P w K mg base CX f fd ps sp := by
  obtain ⟨oc, od, dV, kV, doc, pm, an, cdv, ct, osl, rfl, lk, hcd, _, _⟩ := F.ex
  refine ⟨fun s H args us vs Q E e0 hb rv hsp => ?_⟩
  have lenv : vs.length = ps.length := len _ _ _ _ hsp
  have inK : K.In s.heap := e0.mod.kin.keeps fun b o e => (e0.bs b o e).1
  have nolim : s.heap.NoLimit := e0.mod.nolimit.keeps fun b o e => (e0.bs b o e).1
  refine codeAny_call_function hr.depth (inK _ _ lk) rfl S.co S.gen rfl (codeRec_of inK hcd) (hb _ _ _ _ ?_)
  refine wpAny_newFunctionEnv_cells S.kind ?pk fun env he s1 x => ?_
  case pk =>
    rintro ⟨n, v⟩ hy
    have nin : n ∈ ps := (List.of_mem_zip hy).1
    rcases S.par n nin with hl | hc
    · exact .inl hl
    · refine .inr ⟨hc, ?_⟩
      exact cellsFrom_some scope.names _ _ (.inl hc)
  subst he
  refine ⟨nolim.keeps x.toInCall.keep, codeAny_func ?_⟩
  obtain ⟨t, ht, hq⟩ := hbody cdv s H vs Q E (hr.deeper _) hsp
  have I := inv_start (CX := CX) (E := E) S hr.hd e0 lenv rv x
  refine wpAny_mono (ht.run [] s1 (start N vs) H _ I hq) (fun fl s' hs => ?_) (fun e s' hs => hs)
  cases fl with
  | next => exact let ⟨σ', H', J, q⟩ := hs; ⟨V.non, H', J.os, J.bare, J.base, J.hok, rfl, q⟩
  | ret u => exact let ⟨v, σ', H', J, rv, q⟩ := hs; ⟨v, H', J.os, J.bare, J.base, J.hok, rv, q⟩
  | brk => exact let ⟨_, _, _, q⟩ := hs; q.elim
  | cont => exact let ⟨_, _, _, q⟩ := hs; q.elim
theorem law_callC {fa a : Addr} {x : Str} {s₁ : Shared} {vs : List Value} {ns : List Int}
    (KX : K.In s₁.heap) (gl : s₁.heap.Ns mainGlobals mg) (bl : s₁.heap.Ns builtinsNs mb) (bls : ∀ x : Str, x ≠ "__name__" → mb x = bootBuiltins x) (lim : s₁.heap.NoLimit) (gens : s₁.gens = #[])
    (scr : s₁.heap.get? a = some { cls := .type "list", data := .seq vs.toArray }) (areI : IntsAre vs ns) (small : ns.length ≤ sizeLine)
    (F : ∀ base : Heap, K.In base → base.Ns mainGlobals mg → FnC P w K mg base CX fa fd [x] sp) (bind : ∀ (s : Shared) (u : Value), BindsTo s fd ⟨[u], []⟩ [(x, u)])
    (prom : ∀ H : Hp, Only H → SqL K H a (ns.map V.int) → sp [.ref a] H (fun v _ => v = .bl true) fun _ _ _ => False)
    (noexc : ∀ H e s', CX [] H s₁ (fun _ _ _ => False) e s' → False) :
    codeAny (model P w) callerA (.call (.ref fa) ⟨[.ref a], []⟩) (fun r s' => r = .ok (.ret (.bool true)) ∧ OldK s₁.heap s'.heap ∧ s'.os = s₁.os ∧ AllBare s'.gens) s₁ := by
  have rels := vals_ints areI
  have lens := areI.length
  have main : ∀ H : Hp, Only H → SqL K H a (ns.map V.int) → HOk P w H s₁.heap → (∀ b, H b ≠ none → b = a) → (H a ≠ none → K.lookup a = none) →
      codeAny (model P w) callerA (.call (.ref fa) ⟨[.ref a], []⟩) (fun r s' => r = .ok (.ret (.bool true)) ∧ OldK s₁.heap s'.heap ∧ s'.os = s₁.os ∧ AllBare s'.gens) s₁ := by
    intro H only seq ok alone apart
    have notDict : ∀ {b : Addr} {o : Obj} {es : Array DictEntry} {ep : Nat}, s₁.heap.get? b = some o → o.data = .dict es ep → H b = none := by
      intro b o es ep e d
      cases q : H b with
      | none => rfl
      | some u =>
        obtain rfl : b = a := alone b (by rw [q]; intro z; cases z)
        rw [scr] at e
        cases e
        exact nomatch (show Data.seq vs.toArray _ = Data.dict es ep from d)
    have nss : ∀ {b : Addr} {m : Str → Option Value}, s₁.heap.Ns b m → (hidT s₁.heap H).Ns b m := by
      rintro b m ⟨o, es, ep, e, d, r⟩
      exact ⟨o, es, ep, hidT_get e (notDict e d), d, r⟩
    have inB : K.In (hidT s₁.heap H) := by
      intro b o e
      refine hidT_get (KX b o e) ?_
      cases q : H b with
      | none => rfl
      | some u =>
        obtain rfl : b = a := alone b (by rw [q]; intro z; cases z)
        rw [apart (by rw [q]; intro z; cases z)] at e
        cases e
    have md : Mod K mg (hidT s₁.heap H) := by
      obtain ⟨mc, h1, h2⟩ := lim
      exact ⟨inB, nss gl, ⟨mb, nss bl, bls⟩, mc, nss h1, h2⟩
    have env0 : Env0 P w K mg (hidT s₁.heap H) callerA [] s₁ H := by
      refine ⟨rfl, md, fun b o e => of_hidT e, Nat.le_of_eq (hidT_size _ _), trivial, ?_, ok, .of_eq gens⟩
      intro b hb
      exact absurd (show b ∈ ([] : List Addr) from hb) List.not_mem_nil
    refine codeAny_mono ((F _ inB (nss gl)).go s₁ H ⟨[.ref a], []⟩ [.ref a] [.ref a] _ _ env0 (bind s₁ (.ref a)) (.cons rfl .nil) (prom H only seq)) ?_
    intro r s' h
    match r, h with
    | .error e, h => exact (noexc H e s' h).elim
    | .ok .next, h => exact h.elim
    | .ok .brk, h => exact h.elim
    | .ok .cont, h => exact h.elim
    | .ok (.ret u), ⟨v, H', os, bare, un, ok', ru, q⟩ =>
      obtain rfl : v = .bl true := q
      obtain rfl : u = Value.bool true := ru
      refine ⟨rfl, OldK.of_keep ?_, os, bare⟩
      intro b o e
      cases q : H b with
      | none => exact un.keep b o e q (fun z => List.not_mem_nil (show b ∈ ([] : List Addr) from z)) List.not_mem_nil
      | some u =>
        rcases only b with z | ⟨ob, xs, z⟩
        · exact nomatch q.symm.trans z
        · have e1 := (ok b _ z).1
          have e2 := (ok' b _ (un.frzs b ob _ z)).1
          exact e2.trans (e1.symm.trans e)
  cases hk : K.lookup a with
  | some o =>
    have e := (KX a o hk).symm.trans scr
    cases e
    refine main (fun _ => none) (fun _ => .inl rfl) (.inr ⟨_, vs.toArray, _, hk, rfl, rfl, rfl, ?_, ?_⟩) (fun b u z => nomatch (show (none : Option HO) = some u from z)) (fun b z => absurd rfl z) (fun z => absurd rfl z)
    · rw [List.size_toArray, lens]
      exact small
    · simpa using rels
  | none =>
    let H : Hp := fun b => if b = a then some (.frz { cls := .type "list", data := .seq vs.toArray } (.lst (ns.map V.int))) else none
    have at_ : H a = some (.frz { cls := .type "list", data := .seq vs.toArray } (.lst (ns.map V.int))) := if_pos rfl
    have off : ∀ b, b ≠ a → H b = none := fun b hb => if_neg hb
    refine main H (fun b => ?_) (.inl (.inr ⟨_, at_⟩)) (fun b u z => ?_) (fun b z => ?_) (fun _ => hk)
    · by_cases hb : b = a
      · exact .inr ⟨_, _, by rw [hb]; exact at_⟩
      · exact .inl (off b hb)
    · by_cases hb : b = a
      · subst hb
        rw [at_] at z
        cases z
        exact ⟨scr, by rw [List.length_map]; exact small, vs, _, rels, scr⟩
      · rw [off b hb] at z
        cases z
    · by_cases hb : b = a
      · exact hb
      · exact absurd (off b hb) z
end
/-- the end of a law over a head by facts -/
theorem walk_C {l : OpenLaw} {n : Nat} {q : Program} {loose : List Str} {XP : (Str → Option Value) → Heap → Prop} {YP : World → Heap → Prop} {d : DefRec} {CX : CXT} {x : Str}
    (hn : l.most = some n) (hn2 : n ≤ sizeLine) (hdf : d.params.defaults = [])
    (F : ∀ (w : World) (mg : Str → Option Value) (fa : Addr) (h : Heap), YP w h → h.Ns mainGlobals mg → mg d.name = some (.ref fa) →
      ∃ (K : Frag) (fd : FuncData) (sp : Sp), K.In h ∧ (∀ (s : Shared) (u : Value), BindsTo s fd ⟨[u], []⟩ [(x, u)]) ∧
        (∀ (H : Hp) (a : Addr) (ns : List Int), ns.length ≤ n → Only H → SqL K H a (ns.map V.int) → sp [.ref a] H (fun v _ => v = .bl true) fun _ _ _ => False) ∧
        ∀ base : Heap, K.In base → base.Ns mainGlobals mg → FnC l.prog w K mg base CX fa fd [x] sp)
    (noexc : ∀ (H : Hp) (s : Shared) (e : Value) (s' : Shared), CX [] H s (fun _ _ _ => False) e s' → False) :
    WalkO q loose XP YP l.row.toRowW d [] (fun f vs => PySem.call f vs) := by
  refine Att.attach_call hn hdf ?_
  intro w s₀ s₁ mg mb fa o pm cd doc a vs ns G Y ho hd hcd hmg hobj hints hlen hg
  obtain ⟨K, fd, sp, KX, hb, hsp, hF⟩ := F w mg fa _ Y G.T.g hmg
  exact law_callC KX G.T.g G.T.b G.T.builtins G.T.nolimit hg hobj hints (Nat.le_trans hlen hn2) hF hb (fun H o s => hsp H a ns hlen o s) (fun H e s' => noexc H s₁ e s')
end Al
namespace Al
open PySem PySem.Spec PyProof.Rows L2 NdefX PySem.W
section
variable {X : Cx}
/-! ### repr of nested data -/
def rRepr (K : Frag) : List V → Hp → VK → Prop := fun xs H Q => ∃ a d, xs = [.ref a] ∧ Dp K H (.ref a) d ∧ d.showable = true ∧ d.hasDict = false ∧ d.depth ≤ 100 ∧ d.shown.length ≤ sizeLine ∧ Q (.str d.shown) H
theorem call_reprD (hg : X.A.guards = some []) (hu : X.A.units + 110 < cLine) : CallR X (.builtin "repr") (rRepr X.K) := by
  intro pins s σ H vs us Q I rv h
  obtain ⟨a, d, rfl, hd, hs, hn, hdp, hz, q⟩ := h
  cases rv with
  | cons r t =>
    cases t
    cases r
    obtain ⟨as, r⟩ := Dp.reads I d _ _ hd rfl
    exact repr_of_reads' r hs (PyData.noDict_hsm hn) hg (by omega) (fun _ _ e => e) (fun h' u tk k => ⟨.str _, H, I.kept k, ⟨_, rfl⟩, q⟩) hz
/-! ### text * number -/
def timesS (z : Str) (n : Nat) : Str := ⟨((List.replicate n z.cps.toList).flatten).toArray⟩
theorem fold_rep (n : Nat) (a : Array Nat) (b : Array Nat) : (List.replicate n a).foldl (· ++ ·) b = b ++ ((List.replicate n a.toList).flatten).toArray := by
  induction n generalizing b with
  | zero => simp
  | succ n ih =>
    rw [List.replicate_succ, List.foldl_cons, ih, List.replicate_succ, List.flatten_cons]
    apply Array.ext'
    simp
theorem timesS_eq (z : Str) (n : Nat) : (⟨(List.replicate n z.cps).foldl (· ++ ·) #[]⟩ : Str) = timesS z n := by
  unfold timesS
  rw [fold_rep]
  simp
theorem timesS_zero (z : Str) : timesS z 0 = Str.empty := rfl
theorem timesS_one (z : Str) : timesS z 1 = z := by
  unfold timesS
  simp
theorem timesS_nil (z : Str) (n : Nat) (h : z.length = 0) : timesS z n = z := by
  have h2 : z.cps = #[] := Array.size_eq_zero_iff.mp h
  obtain ⟨c⟩ := z
  have h3 : c = #[] := h2
  subst h3
  unfold timesS
  congr 1
  induction n with
  | zero => rfl
  | succ n ih => rw [List.replicate_succ, List.flatten_cons]; simpa using ih
theorem timesS_length (z : Str) (n : Nat) : (timesS z n).length = n * z.length := by
  show ((List.replicate n z.cps.toList).flatten).toArray.size = n * z.cps.size
  simp
def rMulS : R2 := fun x y H Q => ∃ (z : Str) (n : Nat), x = .str z ∧ y = .int (n : Int) ∧ n ≤ 1000000 ∧ z.length * n ≤ 1000000 ∧ Q (.str (timesS z n)) H
theorem op_mulS : OpR X (binaryOp .Mult) rMulS := by
  intro pins s σ H x y v u Q I rx ry h
  obtain ⟨z, n, rfl, rfl, hn, hz, q⟩ := h
  obtain ⟨t, rfl⟩ := rx
  obtain ⟨t', rfl⟩ := ry
  refine PySem.P.mul_str (by simp; omega) (fun h1 h2 => ?_) (fun h1 h2 => ?_) ?_
  · have h3 : (2 ^ 63 - 1) / (n : Int) ≥ 1000000 := by
      rw [ge_iff_le, Int.le_ediv_iff_mul_le (by omega)]
      have : (1000000 : Int) * (n : Int) ≤ 1000000 * 1000000 := Int.mul_le_mul_of_nonneg_left (by omega) (by decide)
      omega
    have h4 : z.length ≤ 1000000 := by
      have : z.length * 1 ≤ z.length * n := Nat.mul_le_mul_left _ (by omega)
      omega
    omega
  · have e : ((n : Int).toNat) = n := by omega
    rw [e]
    unfold Builtin.Str.tooLong
    rw [decide_eq_false_iff_not]
    have := sizeLine_eq
    omega
  · have e : ((n : Int).toNat) = n := by omega
    rw [e, timesS_eq]
    split
    · rename_i h1
      have : n = 0 := by omega
      subst this
      exact ⟨by decide, ⟨.str (timesS z 0), H, I.tok _, ⟨_, rfl⟩, q⟩⟩
    · split
      · rename_i h1 h2
        have e2 : timesS z n = z := by
          rw [Bool.or_eq_true] at h2
          rcases h2 with h2 | h2
          · have : n = 1 := by
              have := beq_iff_eq.mp h2
              omega
            rw [this, timesS_one]
          · exact timesS_nil _ _ (beq_iff_eq.mp h2)
        rw [e2] at q
        exact ⟨.str z, H, I, ⟨_, rfl⟩, q⟩
      · refine ⟨?_, ⟨.str (timesS z n), H, I.tok _, ⟨_, rfl⟩, q⟩⟩
        rw [timesS_length, Nat.mul_comm, sizeLine_eq]
        omega
end

/-! ### defs of the text by name -/
abbrev FnP (K : Frag) (x : Str) (st : Stmt) (f : Addr) (fd : FuncData) : Prop := FunD K x x (defArgs st) (defBody st) (defScope st) [] [] f fd
structure DefAt (K : Frag) (mg : Str → Option Value) (x : Str) (st : Stmt) : Prop where
  ex : ∃ f fd, mg x = some (.ref f) ∧ FnP K x st f fd
structure Cal (P : Program) (w : World) (K : Frag) (mg : Str → Option Value) (base : Heap) (k : Nat) (x : Str) (ps : List Str) (sp : Sp) : Prop where
  ex : ∃ f fd, mg x = some (.ref f) ∧ keepIn K (.ref f) = true ∧ Binds K fd ps [] ∧ FnOk P w K mg base (L2N.CX P w) k f fd ps sp
theorem Cal.mono {P : Program} {w : World} {K : Frag} {mg : Str → Option Value} {base : Heap} {j k : Nat} {x : Str} {ps : List Str} {sp : Sp} (c : Cal P w K mg base j x ps sp) (h : j ≤ k) : Cal P w K mg base k x ps sp := by
  obtain ⟨f, fd, h1, h2, h3, h4⟩ := c.ex
  exact ⟨f, fd, h1, h2, h3, h4.mono h⟩
theorem Cal.imp {P : Program} {w : World} {K : Frag} {mg : Str → Option Value} {base : Heap} {k : Nat} {x : Str} {ps : List Str} {sp sp' : Sp} (c : Cal P w K mg base k x ps sp) (h : ∀ vs H Q E, sp' vs H Q E → sp vs H Q E) : Cal P w K mg base k x ps sp' := by
  obtain ⟨f, fd, h1, h2, h3, h4⟩ := c.ex
  exact ⟨f, fd, h1, h2, h3, h4.imp h⟩
theorem cal_mk {P : Program} {w : World} {K : Frag} {mg : Str → Option Value} {base : Heap} {k : Nat} {x : Str} {st : Stmt} {N ps : List Str} {sp : Sp} (dx : DefAt K mg x st) (S : FnScope N ps (defScope st))
    (hb : ∀ (kV doc pm : Value) (an : Option Addr) (cdv ct : Value) (us : List Value), us.length = ps.length → bindArgs (fnOf x x (defArgs st) (defBody st) (defScope st) .none kV doc pm an cdv ct) ⟨us, []⟩ = pure (ps.zip us))
    (len : ∀ vs H Q E, sp vs H Q E → vs.length = ps.length)
    (hbody : ∀ (f : Addr) (cdv : Value) (A : Around) (outer : List Env) (s : Shared) (H : Hp) (vs : List V) (Q : VK) (E : XK), Room k (A.deeper (envOfC x (defScope st) s.heap.objs.size f cdv)) → sp vs H Q E →
      ∃ t, PSs (cxOf (L2N.CX P w) P w K mg base N x (defScope st) f cdv A outer s H E) (defBody st) t ∧ t { nx := fun _ H' => Q .non H', rt := Q } (start N vs) H) : Cal P w K mg base (k + 1) x ps sp := by
  obtain ⟨f, fd, hm, F⟩ := dx.ex
  exact ⟨f, fd, hm, F.kp, F.bindsN hb, F.ok S len (hbody f)⟩
section
variable {X : Cx}
theorem pe_cal {x : Str} {p pos : Pos} {k : Nat} {ps : List Str} {sp : Sp} {W : WX} {e : Expr} {es : List Expr} {ta : TA} (G : Cal X.prog X.w X.K X.mg X.base k x ps sp) (hr : Room k X.A) (tk : L2N.Takes X W) (ha : PA X (e :: es) ta) (hg : Gl X x := by rfl)
    (hdb : (x == ("__debug__" : Str)) = false := by decide) (he : starEach (e :: es) X.env = (false, eval e X.env) :: starEach es X.env := by rfl) (hpl : (backTo pos (starEach es X.env)).any (·.1) = false := by rfl) :
    PE X (.Call (.Name x p) (e :: es) [] pos) (tCallS sp (WE W) ta) := by
  obtain ⟨f, fd, hm, hk, hb, F⟩ := G.ex
  exact pe_callS F hr hg hm hk hb (fun σ => L2N.passAt tk σ) ha hdb he hpl
end
section
variable {X : Cx}
theorem pe_gint {x : Str} {i : Int} {pos : Pos} (hm : ∃ t, X.mg x = some (.int i t)) (hg : Gl X x := by rfl) (hd : (x == ("__debug__" : Str)) = false := by decide) : PE X (.Name x pos) (tC (.int i)) := by
  obtain ⟨t, h⟩ := hm
  exact pe_glob hg h ⟨t, rfl⟩ hd
theorem pe_gref {x : Str} {a : Addr} {pos : Pos} (hm : X.mg x = some (.ref a)) (hg : Gl X x := by rfl) (hd : (x == ("__debug__" : Str)) = false := by decide) : PE X (.Name x pos) (tC (.ref a)) := pe_glob hg hm rfl hd
end
theorem noexcX {P : Program} {w : World} (H : Hp) (s : Shared) (e : Value) (s' : Shared) (h : L2N.CX P w [] H s (fun _ _ _ => False) e s') : False := by
  obtain ⟨_, _, _, _, _, _, _, _, _, _, _, _, z⟩ := h
  exact z
/-! ### raising an exception that keeps one field -/
structure ExC1 (P : Program) (w : World) (K : Frag) (mg : Str → Option Value) (base : Heap) (x : Str) (D : Addr) (f : Str) (C : V → Prop) : Prop where
  gm : mg x = some (.ref D)
  ox : OexC K D
  fi : ∃ fI fd, findIn K (.ref D) "__init__" = some (some (.ref fI)) ∧ typeIn K (.ref fI) = some (.type "function") ∧ Binds K fd ["self", f] [] ∧ FnOk P w K mg base (L2N.CX P w) 1 fI fd ["self", f] (spX1 D f C)
  xf : XfC K D
  nf : findIn K (.ref D) f = some none
section
variable {X : Cx}
theorem passN : Passes (L2N.CX X.prog X.w) X E0 := by
  rintro _ _ _ _ _ _ _ ⟨_, _, _, _, _, _, _, _, _, _, _, _, z⟩
  exact z.elim
/-- an own exception is made where nothing is handled: its context is None -/
theorem pmk_oexN {x : Str} {e : Expr} {es : List Expr} {ta : TA} {p pos : Pos} {D fI : Addr} {k : Nat} {fd : FuncData} {ps : List Str} {sp : Sp} (T : OexC X.K D) (hi : findIn X.K (.ref D) "__init__" = some (some (.ref fI))) (ht : typeIn X.K (.ref fI) = some (.type "function"))
    (FI : FnOk X.prog X.w X.K X.mg X.base (L2N.CX X.prog X.w) k fI fd ps sp) (hr : Room (k + 1) X.A) (hb : Binds X.K fd ps []) (hg : Gl X x) (hm : X.mg x = some (.ref D)) (ha : PA X (e :: es) ta)
    (hdb : (x == ("__debug__" : Str)) = false) (he : starEach (e :: es) X.env = (false, eval e X.env) :: starEach es X.env) (hpl : (backTo pos (starEach es X.env)).any (·.1) = false) :
    L2N.PMk X (.Call (.Name x p) (e :: es) [] pos) (tMkO D sp [] ta) := by
  intro pins s σ H Q I h
  obtain ⟨nm, qn, ns, bs, bm, sn, sub, ab, col, dd, k0, k1, k2, k3, k5, hD, hbm⟩ := T.cls
  refine wpAny_Call_Name_kw (ld_glob I hg hm (callWith_K (h₀ := X.base) I.ok.mod.kin T.kC ?_ he hpl) hdb)
  refine thn (ha.run pos pins s σ H _ I h) ?_
  rintro us ⟨hp, g, dr, tk, os⟩ ⟨vs, H1, I1, r1, hz, q1⟩
  refine ⟨I1.kIn, ?_⟩
  let a : Addr := hp.objs.size + 1
  let hp' := (hp.push (kdv_tup us)).push (HandSPX.excO D hp.objs.size)
  have above : hp.objs.size ≤ a := Nat.le_succ _
  have promise := q1 a (I1.hok.fresh above)
  have old : ∀ b o, hp.get? b = some o → hp'.get? b = some o := by
    intro b o eb
    exact Heap.get?_push_of_some _ (Heap.get?_push_of_some _ eb)
  have new : hp'.get? a = some (HandSPX.excO D hp.objs.size) := by
    show ((hp.push (kdv_tup us)).push (HandSPX.excO D hp.objs.size)).get? (hp.objs.size + 1) = _
    heap_get
  have I2 : Inv X pins σ (upd H1 a (exo a D none)) ⟨hp', g, dr, tk, os⟩ := I1.laid (t' := tk) old above (exo_ok new)
  have rels : Vals (V.ref a :: (vs ++ [])) (Value.ref a :: us) := by
    rw [List.append_nil]
    exact .cons rfl r1
  have lenp : (Value.ref a :: us).length = ps.length := by
    rw [← rels.length]
    exact FI.len _ _ _ _ promise
  have few : us.length ≤ sizeLine := by
    have := Paired.length r1
    rw [sizeLine_eq]
    omega
  have bound := hb _ (Value.ref a :: us) I2.kIn (by rw [List.append_nil]; exact lenp)
  rw [List.append_nil] at bound
  refine wpAny_call (HandSPX.call_own F.excBase_ValueError (fun Y => HandSPX.refsVE_contains Y bm hbm) (I1.kIn _ _ hD) (looks_findIn I1.kIn hi) (fun self => bind_fn I1.kIn self ht) few ?_)
  refine codeAny_mono (FI.run _ X.stack _ _ ⟨Value.ref a :: us, []⟩ (Value.ref a :: us) _ _ (fun _ _ _ => False) (hr.make D us []) (I2.env0.make D us []) bound rels promise) ?_
  intro r s' hq
  match r, hq with
  | .error er, hq =>
    obtain ⟨_, _, _, _, _, _, _, _, _, _, _, _, z⟩ := hq
    exact z.elim
  | .ok .next, hq => exact hq.elim
  | .ok .brk, hq => exact hq.elim
  | .ok .cont, hq => exact hq.elim
  | .ok (.ret u), ⟨v, H2, os2, bare2, un2, hok2, rv, ev, d, fs, ea, ed, hd1, q2⟩ =>
    subst ev
    obtain ⟨h2, g2, d2, t2, os'⟩ := s'
    obtain ⟨t0, G, J, kG, ge, hoe, na⟩ := mk_end0 (d2 := d2) (t2 := t2) I1 above old un2 hok2 os2 bare2 ea ed hd1
    refine ⟨rv, a, _, _, ⟨G, g2, d2, t2, os'⟩, _, .ref D, some d, rfl, J, kG, ge, hoe, ⟨rfl, rfl, ?_⟩, rfl, rfl, na, rfl, bare2, raises_own T.exC T.tyC, q2⟩
    intro ws ew
    cases ew
    rfl
theorem pmk_x1 {x f : Str} {D : Addr} {C : V → Prop} {e : Expr} {ta : TA} {p pos : Pos} (T : ExC1 X.prog X.w X.K X.mg X.base x D f C) (hr : Room 2 X.A) (ha : PA X [e] ta) (hg : Gl X x := by rfl)
    (hdb : (x == ("__debug__" : Str)) = false := by decide) (he : starEach [e] X.env = (false, eval e X.env) :: starEach [] X.env := by rfl) (hpl : (backTo pos (starEach [] X.env)).any (·.1) = false := by rfl) :
    L2N.PMk X (.Call (.Name x p) [e] [] pos) (tMkO D (spX1 D f C) [] ta) := by
  obtain ⟨fI, fd, h1, h2, h3, h4⟩ := T.fi
  exact pmk_oexN T.ox h1 h2 h4 hr h3 hg T.gm ha hdb he hpl
end
def tRaiseX (W : WX) (t : L2.St → Hp → XK → Prop) : TS := fun _ σ H => t σ H fun cls d H' => W cls d σ H'
theorem ps_raiseX {X : Cx} {W : WX} {e : Expr} {t : L2.St → Hp → XK → Prop} {pos : Pos} (hc : X.calm = true) (tk : L2N.Takes X W) (he : L2N.PMk X e t) : PS X (.Raise (some e) none pos) (tRaiseX W t) := L2N.ps_raise hc tk he
section
variable {D : Addr} {f : Str} {C : V → Prop} {ta : TA} {σ : L2.St} {H H1 : Hp} {Q : XK} {v : V}
theorem r_raiseX {W : WX} {t : L2.St → Hp → XK → Prop} {E : Ends} (h : t σ H fun cls d H' => W cls d σ H') : tRaiseX W t E σ H := h
theorem r_mkO {sp : Sp} (h : ta σ H fun vs H1 => vs.length ≤ 1000 ∧ ∀ a, H1 a = none → sp (.ref a :: (vs ++ [])) (upd H1 a (exo a D none))
  (fun v H2 => v = .non ∧ ∃ (d : Addr) (fs : List (Str × V)), H2 a = some (exo a D (some d)) ∧ H2 d = some (exd d fs) ∧ H1 d = none ∧ Q (.ref D) (some d) (upd (del H2 a) d (.xd fs))) (fun _ _ _ => False)) : tMkO D sp [] ta σ H Q := h
theorem r_mkx (hv : C v) (h : ∀ d H', H1 d = none → Same H1 H' → H' d = some (.xd [(f, v)]) → Q (.ref D) (some d) H') : [v].length ≤ 1000 ∧ ∀ a, H1 a = none → spX1 D f C (.ref a :: ([v] ++ [])) (upd H1 a (exo a D none))
  (fun v H2 => v = .non ∧ ∃ (d : Addr) (fs : List (Str × V)), H2 a = some (exo a D (some d)) ∧ H2 d = some (exd d fs) ∧ H1 d = none ∧ Q (.ref D) (some d) (upd (del H2 a) d (.xd fs))) (fun _ _ _ => False) := by
  refine ⟨by show 1 ≤ 1000; decide, fun a ha => ⟨a, v, rfl, hv, upd_same, fun d hd hda => ⟨rfl, d, [(f, v)], upd_same, ?_, ?_, ?_⟩⟩⟩
  · rw [upd_ne hda, upd_same]
  · rw [upd_ne hda] at hd
    exact hd
  · rw [upd_ne hda] at hd
    refine h d _ hd (fun b o hb => ?_) upd_same
    rw [upd_ne (ne_of_none hb hd), del_ne (ne_of_none hb ha), upd_ne (ne_of_none hb ha), upd_ne (ne_of_none hb hd), upd_ne (ne_of_none hb ha)]
    exact hb
end
/-- the built-in names are still those -/
structure Bl (mg : Str → Option Value) : Prop where
  len : mg "len" = none
  str : mg "str" = none
  int : mg "int" = none
  abs : mg "abs" = none
  min : mg "min" = none
  max : mg "max" = none
  range : mg "range" = none
  repr : mg "repr" = none
  isinstance : mg "isinstance" = none
  dict : mg "dict" = none
  list : mg "list" = none
  tuple : mg "tuple" = none
  sorted : mg "sorted" = none
  any : mg "any" = none
  all : mg "all" = none
  sum : mg "sum" = none
  reversed : mg "reversed" = none
  super : mg "super" = none
  bool : mg "bool" = none
/-! ### readings, one lemma a combinator -/
section
variable {σ : L2.St} {H : Hp} {Q : VK} {v x y z : V} {ta tb te tc : TE} {K : Frag} {D : Ends} {t u : TS} {tt tu : TT} {i : Nat}
theorem r_var (h : σ[i]? = some (some v)) (q : Q v H) : tVar i σ H Q := ⟨v, h, q⟩
theorem r_c (q : Q v H) : tC v σ H Q := q
theorem r_op {r : R2} (h : ta σ H fun x H1 => tb σ H1 fun y H2 => r x y H2 Q) : tOp r ta tb σ H Q := h
theorem r_un {r : V → Hp → VK → Prop} (h : ta σ H fun x H1 => r x H1 Q) : tUn r ta σ H Q := h
theorem r_I0 {g : Int → Int → V} {a b : Int} (q : Q (g a b) H) : rI0 g (.int a) (.int b) H Q := ⟨a, b, rfl, rfl, q⟩
theorem r_I {C : Int → Int → Prop} {g : Int → Int → V} {a b : Int} (c : C a b) (q : Q (g a b) H) : rI C g (.int a) (.int b) H Q := ⟨a, b, rfl, rfl, c, q⟩
theorem r_U {g : Int → V} {a : Int} (q : Q (g a) H) : rU g (.int a) H Q := ⟨a, rfl, q⟩
theorem r_eqI {a b : Int} (q : Q (.bl (decide (a = b))) H) : rEq (.int a) (.int b) H Q := ⟨rfl, by
  have e : decide (V.int a = V.int b) = decide (a = b) := by simp
  rw [e]; exact q⟩
theorem r_neI {a b : Int} (q : Q (.bl (!decide (a = b))) H) : rNe (.int a) (.int b) H Q := ⟨rfl, by
  have e : decide (V.int a = V.int b) = decide (a = b) := by simp
  rw [e]; exact q⟩
theorem r_eqS {a b : Str} (q : Q (.bl (decide (a = b))) H) : rEq (.str a) (.str b) H Q := ⟨rfl, by
  have e : decide (V.str a = V.str b) = decide (a = b) := by simp
  rw [e]; exact q⟩
theorem r_neS {a b : Str} (q : Q (.bl (!decide (a = b))) H) : rNe (.str a) (.str b) H Q := ⟨rfl, by
  have e : decide (V.str a = V.str b) = decide (a = b) := by simp
  rw [e]; exact q⟩
theorem r_eqB {a b : Bool} (q : Q (.bl (decide (a = b))) H) : rEq (.bl a) (.bl b) H Q := ⟨rfl, by
  have e : decide (V.bl a = V.bl b) = decide (a = b) := by simp
  rw [e]; exact q⟩
theorem r_neB {a b : Bool} (q : Q (.bl (!decide (a = b))) H) : rNe (.bl a) (.bl b) H Q := ⟨rfl, by
  have e : decide (V.bl a = V.bl b) = decide (a = b) := by simp
  rw [e]; exact q⟩
theorem r_chain {r r' : R2} (h : ta σ H fun x H1 => tb σ H1 fun y H2 => r x y H2 fun z H3 => ∃ k, z = .bl k ∧ if k = true then tc σ H3 (fun w H4 => r' y w H4 Q) else Q (.bl false) H3) : tChain r r' ta tb tc σ H Q := h
theorem r_test {Q : Bool → Hp → Prop} (h : te σ H fun x H' => ∃ k, x = .bl k ∧ Q k H') : tTest te σ H Q := h
theorem r_B {Q : Bool → Hp → Prop} (h : te σ H fun x H1 => ∃ c, x = .bl c ∧ Q c H1) : tB te σ H Q := h
theorem r_bl {b : Bool} {P : Bool → Prop} (q : P b) : ∃ k, V.bl b = .bl k ∧ P k := ⟨b, rfl, q⟩
theorem r_and {Q : Bool → Hp → Prop} (h : tt σ H fun c H1 => if c = true then tu σ H1 Q else Q false H1) : tAnd tt tu σ H Q := h
theorem r_or {Q : Bool → Hp → Prop} (h : tt σ H fun c H1 => if c = true then Q true H1 else tu σ H1 Q) : tOr tt tu σ H Q := h
theorem r_not {Q : Bool → Hp → Prop} (h : tt σ H fun c H1 => Q (!c) H1) : tNot tt σ H Q := h
theorem r_andV (h : ta σ H fun x H1 => ∃ c, x = .bl c ∧ if c = true then tb σ H1 Q else Q (.bl false) H1) : tAndV ta tb σ H Q := h
theorem r_orV (h : ta σ H fun x H1 => ∃ c, x = .bl c ∧ if c = true then Q (.bl true) H1 else tb σ H1 Q) : tOrV ta tb σ H Q := h
theorem r_notV (h : ta σ H fun x H1 => ∃ c, x = .bl c ∧ Q (.bl (!c)) H1) : tNotV ta σ H Q := h
theorem r_if (h : tt σ H fun c H1 => if c = true then ta σ H1 Q else tb σ H1 Q) : tIf tt ta tb σ H Q := h
theorem r_nil {Q : List V → Hp → Prop} (q : Q [] H) : tNil σ H Q := q
theorem r_cons {tr : TA} {Q : List V → Hp → Prop} (h : ta σ H fun x H1 => tr σ H1 fun xs H2 => Q (x :: xs) H2) : tCons ta tr σ H Q := h
theorem r_cb {r : List V → Hp → VK → Prop} {tr : TA} (h : tr σ H fun vs H1 => r vs H1 Q) : tCB r tr σ H Q := h
theorem r_call {sp : Sp} {E : XK} {tr : TA} (h : tr σ H fun vs H1 => sp (vs ++ []) H1 Q E) : tCall sp [] E tr σ H Q := h
theorem r_callS {sp : Sp} {E : L2.St → XK} {tr : TA} (h : tr σ H fun vs H1 => sp vs H1 Q (E σ)) : tCallS sp E tr σ H Q := h
theorem r_tup {tr : TA} (h : tr σ H fun xs H1 => xs.length ≤ sizeLine ∧ ∀ p, H1 p = none → Q (.ref p) (upd H1 p (.tup xs))) : tTup tr σ H Q := h
theorem r_lst {tr : TA} (h : tr σ H fun xs H1 => xs.length ≤ sizeLine ∧ ∀ p, H1 p = none → Q (.ref p) (upd H1 p (.lst xs))) : tLst tr σ H Q := h
theorem r_seq (h : t { D with nx := u D } σ H) : tSeq t u D σ H := h
theorem r_next (h : D.nx σ H) : tNext D σ H := h
theorem r_asg {g : TG} (h : te σ H fun x H1 => g x σ H1 D.nx) : tAsg te g D σ H := h
theorem r_name {q : L2.St → Hp → Prop} (h : q (σ.set i (some v)) H) : gName i v σ H q := h
theorem r_ifS (h : tt σ H fun b H1 => if b = true then t D σ H1 else u D σ H1) : tIfS tt t u D σ H := h
theorem r_ret (h : te σ H D.rt) : tRet te D σ H := h
theorem r_retN (h : D.rt .non H) : tRetN D σ H := h
theorem r_drop (h : te σ H fun _ H1 => D.nx σ H1) : tDrop te D σ H := h
theorem r_brk (h : D.bk σ H) : tBreak D σ H := h
theorem r_ct (h : D.ct σ H) : tCont D σ H := h
theorem r_sl {r : V → Option Int → Option Int → Hp → VK → Prop} {tl th : TO} (h : te σ H fun x H1 => tl σ H1 fun l H2 => th σ H2 fun u H3 => r x l u H3 Q) : tSl r te tl th σ H Q := h
theorem r_part {Q : Option Int → Hp → Prop} (h : te σ H fun x H1 => ∃ i, x = .int i ∧ Q (some i) H1) : tPart te σ H Q := h
theorem r_nopart {Q : Option Int → Hp → Prop} (h : Q none H) : tNoPart σ H Q := h
theorem r_int {a : Int} {P : Int → Prop} (q : P a) : ∃ k, V.int a = .int k ∧ P k := ⟨a, rfl, q⟩
theorem r_slS {z : Str} {lo hi : Option Int} (hz : z.length ≤ sizeLine) (q : Q (.str (cutS z lo hi)) H) : rSlS (.str z) lo hi H Q := ⟨z, rfl, hz, q⟩
theorem r_bm {T : String} {r : V → List V → Hp → VK → Prop} {tr : TA} (h : te σ H fun x H1 => tyV K T x H1 ∧ tr σ H1 fun xs H2 => r x xs H2 Q) : tBM K T r te tr σ H Q := h
theorem r_bm0 {T : String} {r : V → List V → Hp → VK → Prop} (h : te σ H fun x H1 => tyV K T x H1 ∧ r x [] H1 Q) : tBM0 K T r te σ H Q := h
theorem r_ite {b : Bool} {A B : Prop} (h1 : b = true → A) (h2 : b = false → B) : if b = true then A else B := by
  cases b with
  | true => exact h1 rfl
  | false => exact h2 rfl
end
section
variable {H : Hp} {Q : VK}
theorem r_ch {z : Str} {n c : Nat} {R : Nat → Prop} (hc : z.cps.toList[n]? = some c) (hz : z.length ≤ 1000000) (q : R c) :
    ∃ z' i c, V.str z = .str z' ∧ V.int (n : Int) = .int i ∧ 0 ≤ i ∧ i < 2 ^ 63 ∧ i < z'.length ∧ z'.cps[i.toNat]? = some c ∧ R c := by
  have h1 : n < z.cps.toList.length := (List.getElem?_eq_some_iff.mp hc).1
  rw [Array.length_toList] at h1
  have h2 : z.cps.size ≤ 1000000 := hz
  refine ⟨z, n, c, rfl, rfl, by omega, by omega, ?_, ?_, q⟩
  · show (n : Int) < (z.cps.size : Int)
    omega
  · rw [Int.toNat_natCast, ← Array.getElem?_toList]
    exact hc
theorem r_si {P : Str → Int → Prop} {a : Str} {i : Int} (q : P a i) : ∃ x y, V.str a = .str x ∧ V.int i = .int y ∧ P x y := ⟨a, i, rfl, rfl, q⟩
end
theorem r_int1 {R : Int → Prop} {S : Bool → Prop} {a : Int} (q : R a) : (∃ i, [V.int a] = [.int i] ∧ R i) ∨ (∃ k, [V.int a] = [.bl k] ∧ S k) := .inl ⟨a, rfl, q⟩
theorem r_int1b {R : Int → Prop} {S : Bool → Prop} {b : Bool} (q : S b) : (∃ i, [V.bl b] = [.int i] ∧ R i) ∨ (∃ k, [V.bl b] = [.bl k] ∧ S k) := .inr ⟨b, rfl, q⟩
theorem r_mod {g : Int → Int → V} {C : Int → Int → Prop} {a b : Int} {H : Hp} {Q : VK} (c : C a b) (q : Q (g a b) H) : rI C g (.int a) (.int b) H Q := ⟨a, b, rfl, rfl, c, q⟩
theorem r_ixL {K : Frag} {H : Hp} {p : Addr} {xs : List V} {n : Nat} {v : V} {Q : VK} (h : SqL K H p xs) (hv : xs[n]? = some v) (q : Q v H) : rIxL K (.ref p) (.int (n : Int)) H Q := ⟨p, xs, n, v, rfl, rfl, h, atI_nat hv, q⟩
theorem r_ixT {K : Frag} {H : Hp} {p : Addr} {xs : List V} {n : Nat} {v : V} {Q : VK} (h : SqT K H p xs) (hv : xs[n]? = some v) (q : Q v H) : rIxT K (.ref p) (.int (n : Int)) H Q := ⟨p, xs, n, v, rfl, rfl, h, atI_nat hv, q⟩
theorem r_isT {K : Frag} {H : Hp} {p : Addr} {xs : List V} {x : V} {Q : VK} (h : SqT K H p xs) (hx : flatV x = true) (hf : xs.all flatV = true) (q : Q (.bl (inV x xs)) H) : rIn K false x (.ref p) H Q := ⟨p, xs, rfl, .inr h, hx, hf, q⟩
theorem r_mulS {z : Str} {n : Nat} {H : Hp} {Q : VK} (h1 : n ≤ 1000000) (h2 : z.length * n ≤ 1000000) (q : Q (.str (timesS z n)) H) : rMulS (.str z) (.int (n : Int)) H Q := ⟨z, n, rfl, rfl, h1, h2, q⟩
theorem hotC_of {X : Cx} {a : Addr} {oe : Obj} {cls : Value} {d : Option Addr} {pn : List (Addr × Obj)} (hz : L2N.Zn cls d oe) (hf : ∃ vs, oe.data = .fields vs) : L2H.HotC (X.suite a ((a, oe) :: pn)) := by
  obtain ⟨vs, e⟩ := hf
  exact ⟨(a, oe), ⟨rfl, vs, e, hz.2.2 vs e⟩, List.mem_cons_self⟩
/-- a def that is called while an exception is handled -/
structure CalH (P : Program) (w : World) (K : Frag) (mg : Str → Option Value) (base : Heap) (k : Nat) (x : Str) (ps : List Str) (sp : Sp) : Prop where
  ex : ∃ f fd, mg x = some (.ref f) ∧ keepIn K (.ref f) = true ∧ Binds K fd ps [] ∧ L2H.FnH P w K mg base (L2N.CX P w) k f fd ps sp
theorem calH_mk {P : Program} {w : World} {K : Frag} {mg : Str → Option Value} {base : Heap} {k : Nat} {x : Str} {st : Stmt} {N ps : List Str} {sp : Sp} (dx : DefAt K mg x st) (S : FnScope N ps (defScope st))
    (hb : ∀ (kV doc pm : Value) (an : Option Addr) (cdv ct : Value) (us : List Value), us.length = ps.length → bindArgs (fnOf x x (defArgs st) (defBody st) (defScope st) .none kV doc pm an cdv ct) ⟨us, []⟩ = pure (ps.zip us))
    (len : ∀ vs H Q E, sp vs H Q E → vs.length = ps.length)
    (hbody : ∀ (f : Addr) (cdv : Value) (A : Around) (outer : List Env) (s : Shared) (H : Hp) (vs : List V) (Q : VK) (E : XK) (p : Addr × Obj), L2H.Hot1 A p → L2H.RoomH k (A.deeper (envOfC x (defScope st) s.heap.objs.size f cdv)) → sp vs H Q E →
      ∃ t, PSs (L2H.cxH (L2N.CX P w) P w K mg base N x (defScope st) f cdv A outer s H E p) (defBody st) t ∧ t { nx := fun _ H' => Q .non H', rt := Q } (start N vs) H) : CalH P w K mg base (k + 1) x ps sp := by
  obtain ⟨f, fd, hm, FD⟩ := dx.ex
  have hbn := FD.bindsN hb
  have hkp := FD.kp
  obtain ⟨oc, od, dV, kV, doc, pm, an, cdv, ct, osl, rfl, lk, hcd, _, _⟩ := FD.ex
  exact ⟨f, _, hm, hkp, hbn, L2H.fn_ofH lk hcd S len fun A outer s H vs Q E p hot hr hsp => hbody f cdv A outer s H vs Q E p hot hr hsp⟩
section
variable {X : Cx}
theorem pe_calH {x : Str} {p pos : Pos} {k : Nat} {ps : List Str} {sp : Sp} {e : Expr} {es : List Expr} {ta : TA} (G : CalH X.prog X.w X.K X.mg X.base k x ps sp) (hr : L2H.RoomH k X.A) (hc : L2H.HotC X) (ha : PA X (e :: es) ta) (hg : Gl X x := by rfl)
    (hdb : (x == ("__debug__" : Str)) = false := by decide) (he : starEach (e :: es) X.env = (false, eval e X.env) :: starEach es X.env := by rfl) (hpl : (backTo pos (starEach es X.env)).any (·.1) = false := by rfl) :
    PE X (.Call (.Name x p) (e :: es) [] pos) (tCallS sp (fun _ => E0) ta) := by
  obtain ⟨f, fd, hm, hk, hb, FH⟩ := G.ex
  refine L2H.pe_callH FH hr hc hg hm hk hb (fun σ => ?_) ha hdb he hpl
  rintro _ _ _ _ _ _ ⟨_, _, _, _, _, _, _, _, _, _, _, _, z⟩
  exact z.elim
end
theorem r_sz {a : Nat} {B : Prop} (h : a ≤ 1000000) (q : B) : a ≤ sizeLine ∧ B := ⟨Nat.le_trans h (by decide), q⟩
/-! ### data of tuples, texts, numbers: never changed -/
mutual
inductive Tp (H : Hp) : V → PyData → Prop
  | non : Tp H .non .none
  | bl (b : Bool) : Tp H (.bl b) (.bool b)
  | int (i : Int) : Tp H (.int i) (.int i)
  | str (x : Str) : Tp H (.str x) (.str x)
  | tup {a : Addr} {xs : List V} {ds : List PyData} : H a = some (.tup xs) → TpAll H xs ds → Tp H (.ref a) (.tuple ds)
inductive TpAll (H : Hp) : List V → List PyData → Prop
  | nil : TpAll H [] []
  | cons {v : V} {vs : List V} {d : PyData} {ds : List PyData} : Tp H v d → TpAll H vs ds → TpAll H (v :: vs) (d :: ds)
end
def Keep (H H' : Hp) : Prop := ∀ a xs, H a = some (.tup xs) → H' a = some (.tup xs)
theorem Same.keep {H H' : Hp} (h : Same H H') : Keep H H' := fun a xs e => h a _ e
theorem Keep.trans {H H1 H2 : Hp} (a : Keep H H1) (b : Keep H1 H2) : Keep H H2 := fun x xs e => b x xs (a x xs e)
theorem Keep.refl (H : Hp) : Keep H H := fun _ _ e => e
theorem Keep.new {H : Hp} {p : Addr} {o : HO} (h : H p = none) : Keep H (upd H p o) := fun a xs e => by
  rw [upd_ne (ne_of_none e h)]; exact e
theorem Keep.mut {H : Hp} {p : Addr} {o u : HO} (h : H p = some u) (hu : ∀ xs, u ≠ .tup xs) : Keep H (upd H p o) := fun a xs e => by
  rw [upd_ne (ne_of e h (Ne.symm (hu xs)))]; exact e
theorem Same.new {H : Hp} {p : Addr} {o : HO} (h : H p = none) : Same H (upd H p o) := fun a u e => by
  rw [upd_ne (ne_of_none e h)]; exact e
theorem Same.mut {H H' : Hp} {p : Addr} {o : HO} (s : Same H H') (h : H p = none) : Same H (upd H' p o) := fun a u e => by
  rw [upd_ne (ne_of_none e h)]; exact s a u e
mutual
theorem Tp.keep {H H' : Hp} (k : Keep H H') : ∀ {v : V} {d : PyData}, Tp H v d → Tp H' v d
  | _, _, .non => .non
  | _, _, .bl b => .bl b
  | _, _, .int i => .int i
  | _, _, .str x => .str x
  | _, _, .tup h t => .tup (k _ _ h) (TpAll.keep k t)
theorem TpAll.keep {H H' : Hp} (k : Keep H H') : ∀ {vs : List V} {ds : List PyData}, TpAll H vs ds → TpAll H' vs ds
  | _, _, .nil => .nil
  | _, _, .cons h t => .cons (Tp.keep k h) (TpAll.keep k t)
end
mutual
theorem Tp.dp {K : Frag} {H : Hp} : ∀ {v : V} {d : PyData}, Tp H v d → Dp K H v d
  | _, _, .non => .non
  | _, _, .bl b => .bl b
  | _, _, .int i => .int i
  | _, _, .str x => .str x
  | _, _, .tup h t => .tup (SqT.of h) (TpAll.dp t)
theorem TpAll.dp {K : Frag} {H : Hp} : ∀ {vs : List V} {ds : List PyData}, TpAll H vs ds → DpAll K H vs ds
  | _, _, .nil => .nil
  | _, _, .cons h t => .cons (Tp.dp h) (TpAll.dp t)
end
theorem TpAll.app {H : Hp} : ∀ {vs us : List V} {ds es : List PyData}, TpAll H vs ds → TpAll H us es → TpAll H (vs ++ us) (ds ++ es)
  | _, _, _, _, .nil, h => h
  | _, _, _, _, .cons a b, h => .cons a (TpAll.app b h)
theorem TpAll.len {H : Hp} : ∀ {vs : List V} {ds : List PyData}, TpAll H vs ds → vs.length = ds.length
  | _, _, .nil => rfl
  | _, _, .cons _ b => congrArg (· + 1) (TpAll.len b)
theorem TpAll.get {H : Hp} : ∀ {vs : List V} {ds : List PyData} {i : Nat} {d : PyData}, TpAll H vs ds → ds[i]? = some d → ∃ v, vs[i]? = some v ∧ Tp H v d
  | _, _, _, _, .nil, h => by simp at h
  | _, _, 0, _, .cons a _, h => by
    simp at h; subst h; exact ⟨_, rfl, a⟩
  | _, _, i + 1, _, .cons _ b, h => by
    obtain ⟨v, h1, h2⟩ := TpAll.get (i := i) b (by simpa using h)
    exact ⟨v, by simpa using h1, h2⟩
end Al
namespace Al
open PySem PySem.Spec PyProof.Rows L2 NdefX PySem.W
/-! ### the lexer in plain Lean, over lists of code points -/
def isLetter (c : Nat) : Bool := (decide (97 ≤ c) && decide (c ≤ 122)) || (decide (65 ≤ c) && decide (c ≤ 90))
def isDigit (c : Nat) : Bool := decide (48 ≤ c) && decide (c ≤ 57)
def inName (c : Nat) : Bool := isLetter c || (isDigit c || decide (c = 95))
def notNl (c : Nat) : Bool := !decide (c = 10)
def spanEnd (p : Nat → Bool) (l : List Nat) (n : Nat) : Nat := n + ((l.drop n).takeWhile p).length
theorem spanEnd_go {p : Nat → Bool} {l : List Nat} {n c : Nat} (h : l[n]? = some c) (hp : p c = true) : spanEnd p l (n + 1) = spanEnd p l n := by
  unfold spanEnd
  obtain ⟨h1, h2⟩ := List.getElem?_eq_some_iff.mp h
  have e : l.drop n = c :: l.drop (n + 1) := by rw [List.drop_eq_getElem_cons h1, h2]
  rw [e, List.takeWhile_cons, if_pos hp, List.length_cons]
  omega
theorem spanEnd_stop {p : Nat → Bool} {l : List Nat} {n c : Nat} (h : l[n]? = some c) (hp : p c = false) : spanEnd p l n = n := by
  unfold spanEnd
  obtain ⟨h1, h2⟩ := List.getElem?_eq_some_iff.mp h
  have e : l.drop n = c :: l.drop (n + 1) := by rw [List.drop_eq_getElem_cons h1, h2]
  rw [e, List.takeWhile_cons, if_neg (by rw [hp]; decide)]
  simp
theorem spanEnd_end {p : Nat → Bool} {l : List Nat} {n : Nat} (h : l.length ≤ n) : spanEnd p l n = n := by
  unfold spanEnd
  rw [List.drop_eq_nil_of_le h]
  simp
theorem spanEnd_le {p : Nat → Bool} {l : List Nat} {n : Nat} (h : n ≤ l.length) : spanEnd p l n ≤ l.length := by
  unfold spanEnd
  have h1 : ((l.drop n).takeWhile p).length ≤ (l.drop n).length := (List.takeWhile_sublist _).length_le
  rw [List.length_drop] at h1
  omega
theorem spanEnd_ge {p : Nat → Bool} {l : List Nat} {n : Nat} : n ≤ spanEnd p l n := Nat.le_add_right _ _
def uS (l : List Nat) : Str := ⟨l.toArray⟩
def lS (s : Str) : List Nat := s.cps.toList
theorem uS_lS (s : Str) : uS (lS s) = s := rfl
theorem lS_uS (l : List Nat) : lS (uS l) = l := rfl
def RES : List Str := ["and", "base", "else", "false", "from", "fun", "if", "in", "iterate", "let", "not", "or", "show", "then", "true", "unit"]
def SIG : List Str := ["<=", "==", "=", "<", "+", "-", "*", "/", "^", ",", ";", ":", "(", ")", "[", "]"]
inductive Tk where
  | word (s : Str)
  | name (s : Str)
  | num (top bot : Nat)
  | sign (s : Str)
  deriving DecidableEq
def Tk.kind : Tk → Str
  | .word _ => "word"
  | .name _ => "name"
  | .num _ _ => "number"
  | .sign _ => "sign"
def Tk.val : Tk → PyData
  | .word s => .str s
  | .name s => .str s
  | .num a b => .tuple [.int (a : Int), .int (b : Int)]
  | .sign s => .str s
def tokD (t : Tk × Nat) : PyData := .tuple [.str t.1.kind, t.1.val, .int (t.2 : Int)]
/-- the value of digits -/
abbrev digV (l : List Nat) : Nat := NumText.digitsVal l
def wordTok (s : List Nat) : Option (Tk × Nat) :=
  if uS (s.takeWhile inName) ∈ RES then some (.word (uS (s.takeWhile inName)), (s.takeWhile inName).length)
  else if (s.takeWhile inName).length > 16 then none
  else some (.name (uS (s.takeWhile inName)), (s.takeWhile inName).length)
/-- the digits behind a point -/
def partOf (r : List Nat) : List Nat := match r with
  | c :: d :: r => if c = 46 ∧ isDigit d = true then (d :: r).takeWhile isDigit else []
  | _ => []
def nextIn (r : List Nat) : Bool := match r with
  | c :: _ => inName c
  | [] => false
def numLen (s : List Nat) : Nat := (s.takeWhile isDigit).length + (if partOf (s.drop (s.takeWhile isDigit).length) = [] then 0 else 1 + (partOf (s.drop (s.takeWhile isDigit).length)).length)
def numTok (s : List Nat) : Option (Tk × Nat) :=
  if (s.takeWhile isDigit).length > 6 ∨ (partOf (s.drop (s.takeWhile isDigit).length)).length > 4 ∨ nextIn (s.drop (numLen s)) = true then none
  else some (.num (digV (s.takeWhile isDigit ++ partOf (s.drop (s.takeWhile isDigit).length))) (10 ^ (partOf (s.drop (s.takeWhile isDigit).length)).length), numLen s)
def signTok (s : List Nat) : Option (Tk × Nat) := match SIG.find? (fun g => (lS g).isPrefixOf s) with
  | some g => some (.sign g, (lS g).length)
  | none => none
def tok1 (s : List Nat) : Option (Tk × Nat) := match s with
  | [] => none
  | c :: _ => if isLetter c = true then wordTok s else if isDigit c = true then numTok s else signTok s
def isSp (c : Nat) : Bool := decide (c = 32) || (decide (c = 9) || decide (c = 10))
/-- from the index i on, the rest s: the tokens, then the end (none) or a bad piece's index -/
inductive Lex : Nat → List Nat → List (Tk × Nat) → Option Nat → Prop
  | nil {i : Nat} : Lex i [] [] none
  | sp {i c : Nat} {s : List Nat} {ts : List (Tk × Nat)} {e : Option Nat} : isSp c = true → Lex (i + 1) s ts e → Lex i (c :: s) ts e
  | com {i : Nat} {s : List Nat} {ts : List (Tk × Nat)} {e : Option Nat} : Lex (i + (1 + (s.takeWhile notNl).length)) (s.drop (s.takeWhile notNl).length) ts e → Lex i (35 :: s) ts e
  | tok {i c k : Nat} {s : List Nat} {t : Tk} {ts : List (Tk × Nat)} {e : Option Nat} : isSp c = false → c ≠ 35 → tok1 (c :: s) = some (t, k) → Lex (i + k) ((c :: s).drop k) ts e → Lex i (c :: s) ((t, i) :: ts) e
  | bad {i c : Nat} {s : List Nat} : isSp c = false → c ≠ 35 → tok1 (c :: s) = none → Lex i (c :: s) [] (some i)
/-! ### one sign compared -/
theorem lt1 (a b : Nat) : decide ([a] < [b]) = decide (a < b) := by
  by_cases h : a < b
  · rw [decide_eq_true h, decide_eq_true (List.cons_lt_cons_iff.mpr (.inl h))]
  · rw [decide_eq_false h, decide_eq_false]
    intro z
    rcases List.cons_lt_cons_iff.mp z with z | ⟨_, z⟩
    · exact h z
    · exact absurd z (by simp)
theorem le1 (a b : Nat) : (!decide ([a] < [b])) = decide (b ≤ a) := by
  rw [lt1]
  by_cases h : a < b
  · rw [decide_eq_true h, decide_eq_false (by omega)] <;> rfl
  · rw [decide_eq_false h, decide_eq_true (by omega)] <;> rfl
theorem eq1 (a b : Nat) : decide ((⟨#[a]⟩ : Str) = ⟨#[b]⟩) = decide (a = b) := by simp
theorem leA (c : Nat) (x : Str) (a : Nat) (hx : x = ⟨#[a]⟩) : (!decide ((⟨#[c]⟩ : Str).cps.toList < x.cps.toList)) = decide (a ≤ c) := by subst hx; exact le1 c a
theorem leB (c : Nat) (x : Str) (a : Nat) (hx : x = ⟨#[a]⟩) : (!decide (x.cps.toList < (⟨#[c]⟩ : Str).cps.toList)) = decide (c ≤ a) := by subst hx; exact le1 a c
theorem eqA (c : Nat) (x : Str) (a : Nat) (hx : x = ⟨#[a]⟩) : decide ((⟨#[c]⟩ : Str) = x) = decide (c = a) := by subst hx; exact eq1 c a
theorem log_ok {n : Nat} (h : n ≤ 1000000) : ((n : Int)).natAbs.log2 < 1920 := by
  rw [Int.natAbs_natCast]
  by_cases h0 : n = 0
  · subst h0; decide
  · rw [Nat.log2_lt h0]
    exact Nat.lt_of_le_of_lt h (Nat.lt_of_lt_of_le (by decide : 1000000 < 2 ^ 20) (Nat.pow_le_pow_right (by decide) (by decide)))
theorem sIx_nat {N d n : Nat} (h : n ≤ N) : HT.sIx N d (some (n : Int)) = n := by
  rw [HT.sIx_nat]
  omega
theorem cutS_nat {z : Str} {n m : Nat} (h1 : n ≤ z.length) (h2 : m ≤ z.length) : cutS z (some (n : Int)) (some (m : Int)) = uS (((lS z).drop n).take (m - n)) := by
  unfold cutS
  rw [sIx_nat h1, sIx_nat h2] <;> rfl
theorem take_tw (p : Nat → Bool) : ∀ l : List Nat, l.take (l.takeWhile p).length = l.takeWhile p
  | [] => rfl
  | c :: l => by
    rw [List.takeWhile_cons]
    split
    · rw [List.length_cons, List.take_succ_cons, take_tw p l]
    · rfl
theorem cut_span {z : Str} {n : Nat} (p : Nat → Bool) (h1 : n ≤ z.length) : cutS z (some (n : Int)) (some ((spanEnd p (lS z) n : Nat) : Int)) = uS (((lS z).drop n).takeWhile p) := by
  have hl : (lS z).length = z.length := Array.length_toList
  rw [cutS_nat h1 (by rw [← hl]; exact spanEnd_le (by omega))]
  congr 1
  have e : spanEnd p (lS z) n - n = (((lS z).drop n).takeWhile p).length := by unfold spanEnd; omega
  rw [e, take_tw]
theorem inV_str (x : Str) : ∀ l : List Str, inV (.str x) (l.map V.str) = decide (x ∈ l)
  | [] => by simp [inV]
  | y :: l => by
    have ih := inV_str x l
    simp only [inV, List.map_cons, List.any_cons, List.mem_cons] at ih ⊢
    rw [ih]
    by_cases h : x = y
    · subst h; simp [eqV]
    · have h' : ¬ y = x := fun e => h e.symm
      simp [eqV, h, h']
theorem flat_strs : ∀ l : List Str, (l.map V.str).all flatV = true
  | [] => rfl
  | y :: l => by
    rw [List.map_cons, List.all_cons, flat_strs l]
    rfl
theorem starts_iff {x y : Str} {n : Nat} (h : n ≤ x.length) : Txt.startswith3 x y (n : Int) = (lS y).isPrefixOf ((lS x).drop n) := by
  have e1 : PySem.fromIndex x.length (n : Int) = n := by
    unfold PySem.fromIndex
    rw [if_neg (by omega)]
    omega
  have hx : (lS x).length = x.length := Array.length_toList
  have hy : (lS y).length = y.length := Array.length_toList
  have e2 : Builtin.Str.subAt x y n = TL.pre (lS y) ((lS x).drop n) := by
    have := PySem.StrLaws.subAt_eq x y n
    rw [this]
    show (((lS x).drop n).take y.length == lS y) = (((lS x).drop n).take (lS y).length == lS y)
    rw [hy]
  unfold Txt.startswith3
  rw [e1, e2]
  unfold TL.pre
  have e3 : (lS y).isPrefixOf ((lS x).drop n) = true ↔ (lS y) <+: ((lS x).drop n) := List.isPrefixOf_iff_prefix
  cases hp : (lS y).isPrefixOf ((lS x).drop n) with
  | true =>
    have hq := e3.mp hp
    have hlen := hq.length_le
    rw [List.length_drop] at hlen
    have ht := List.prefix_iff_eq_take.mp hq
    by_cases h0 : (lS y).length = 0
    · have : lS y = [] := List.length_eq_zero_iff.mp h0
      rw [Bool.and_eq_true]
      refine ⟨decide_eq_true (by omega), by rw [this]; rfl⟩
    · rw [Bool.and_eq_true]
      exact ⟨decide_eq_true (by omega), beq_iff_eq.mpr ht.symm⟩
  | false =>
    rw [Bool.and_eq_false_iff]
    right
    rw [beq_eq_false_iff_ne]
    intro e
    have : (lS y) <+: ((lS x).drop n) := List.prefix_iff_eq_take.mpr e.symm
    rw [e3.mpr this] at hp
    cases hp
theorem drop_cons {l : List Nat} {n c : Nat} (h : l[n]? = some c) : l.drop n = c :: l.drop (n + 1) := by
  obtain ⟨h1, h2⟩ := List.getElem?_eq_some_iff.mp h
  rw [List.drop_eq_getElem_cons h1, h2]
theorem partOf_yes {l : List Nat} {e d : Nat} (h1 : l[e]? = some 46) (h2 : l[e + 1]? = some d) (h3 : isDigit d = true) : partOf (l.drop e) = (l.drop (e + 1)).takeWhile isDigit := by
  rw [drop_cons h1, drop_cons h2]
  show (if 46 = 46 ∧ isDigit d = true then _ else _) = _
  rw [if_pos ⟨rfl, h3⟩]
theorem partOf_ne {l : List Nat} {e d : Nat} (h1 : l[e]? = some 46) (h2 : l[e + 1]? = some d) (h3 : isDigit d = true) : partOf (l.drop e) ≠ [] := by
  rw [partOf_yes h1 h2 h3, drop_cons h2, List.takeWhile_cons, if_pos h3]
  exact List.cons_ne_nil _ _
theorem partOf_no {l : List Nat} {e : Nat} (h : ¬ (l[e]? = some 46 ∧ ∃ d, l[e + 1]? = some d ∧ isDigit d = true)) : partOf (l.drop e) = [] := by
  cases hc : l[e]? with
  | none =>
    rw [List.drop_eq_nil_of_le (List.getElem?_eq_none_iff.mp hc)]
    rfl
  | some c =>
    rw [drop_cons hc]
    cases hd : l[e + 1]? with
    | none =>
      rw [List.drop_eq_nil_of_le (List.getElem?_eq_none_iff.mp hd)]
      rfl
    | some d =>
      rw [drop_cons hd]
      show (if c = 46 ∧ isDigit d = true then _ else _) = _
      rw [if_neg]
      rintro ⟨rfl, h3⟩
      exact h ⟨hc, d, hd, h3⟩
theorem partOf_digits (r : List Nat) : ∀ c ∈ partOf r, isDigit c = true := by
  intro c hc
  unfold partOf at hc
  split at hc
  · split at hc
    · exact List.all_eq_true.mp (List.all_takeWhile (l := _ :: _) (p := isDigit)) c hc
    · simp at hc
  · simp at hc
theorem isDigit_ok {c : Nat} (h : isDigit c = true) : 48 ≤ c ∧ c ≤ 57 := by
  unfold isDigit at h
  rw [Bool.and_eq_true] at h
  exact ⟨of_decide_eq_true h.1, of_decide_eq_true h.2⟩
theorem uS_app (a b : List Nat) : uS a ++ uS b = uS (a ++ b) := by
  show (⟨a.toArray ++ b.toArray⟩ : Str) = ⟨(a ++ b).toArray⟩
  simp
theorem nextIn_drop {l : List Nat} {e c : Nat} (h : l[e]? = some c) : nextIn (l.drop e) = inName c := by
  rw [drop_cons h] <;> rfl
theorem nextIn_end {l : List Nat} {e : Nat} (h : l.length ≤ e) : nextIn (l.drop e) = false := by
  rw [List.drop_eq_nil_of_le h] <;> rfl
theorem tok_match {o : Option (Tk × Nat)} {S : Tk → Nat → Prop} {N : Prop} (h1 : ∀ t k, o = some (t, k) → S t k) (h2 : o = none → N) : match o with | some (t, k) => S t k | none => N := by
  match o, h1, h2 with
  | some (t, k), h1, _ => exact h1 t k rfl
  | none, _, h2 => exact h2 rfl
theorem isp_in (c : Nat) : inV (.str ⟨#[c]⟩) [.str " ", .str "\t", .str "\n"] = isSp c := by
  have e := inV_str ⟨#[c]⟩ [" ", "\t", "\n"]
  refine Eq.trans e ?_
  unfold isSp
  have h1 := eqA c " " 32 (by decide +kernel)
  have h2 := eqA c "\t" 9 (by decide +kernel)
  have h3 := eqA c "\n" 10 (by decide +kernel)
  rw [← h1, ← h2, ← h3]
  simp [List.mem_cons]
theorem tw_le (p : Nat → Bool) (s : List Nat) : (s.takeWhile p).length ≤ s.length := (List.takeWhile_sublist p).length_le
theorem partOf_lt : ∀ r : List Nat, partOf r ≠ [] → 1 + (partOf r).length ≤ r.length
  | [], h => absurd rfl h
  | [_], h => absurd rfl h
  | a :: d :: r, h => by
    have e : partOf (a :: d :: r) = if a = 46 ∧ isDigit d = true then (d :: r).takeWhile isDigit else [] := rfl
    rw [e] at h ⊢
    split at h
    · rename_i hh
      rw [if_pos hh]
      have := tw_le isDigit (d :: r)
      rw [List.length_cons (a := a)]; omega
    · exact absurd rfl h
theorem tok1_len {c : Nat} {s : List Nat} {t : Tk} {k : Nat} (h : tok1 (c :: s) = some (t, k)) : 1 ≤ k ∧ k ≤ (c :: s).length := by
  have h : (if isLetter c = true then wordTok (c :: s) else if isDigit c = true then numTok (c :: s) else signTok (c :: s)) = some (t, k) := h
  have hw : ∀ p : Nat → Bool, p c = true → 1 ≤ ((c :: s).takeWhile p).length := fun p hp => by
    rw [List.takeWhile_cons, if_pos hp, List.length_cons]; omega
  split at h
  · rename_i hc
    unfold wordTok at h
    have h1 := hw inName (by unfold inName; rw [hc]; rfl)
    have h2 := tw_le inName (c :: s)
    split at h
    · cases h; exact ⟨h1, h2⟩
    · split at h
      · cases h
      · cases h; exact ⟨h1, h2⟩
  · split at h
    · rename_i hc
      unfold numTok at h
      have h1 := hw isDigit hc
      split at h
      · cases h
      · injection h with h
        injection h with _ h
        subst h
        unfold numLen
        have h2 := tw_le isDigit (c :: s)
        generalize ((c :: s).takeWhile isDigit).length = n at *
        refine ⟨by split <;> omega, ?_⟩
        split
        · omega
        · rename_i hp
          have h3 : 1 + (partOf ((c :: s).drop n)).length ≤ ((c :: s).drop n).length := by
            exact partOf_lt _ hp
          rw [List.length_drop] at h3
          omega
    · unfold signTok at h
      split at h
      · rename_i g hg
        cases h
        have hp := List.find?_some hg
        have hm := List.mem_of_find?_eq_some hg
        have h1 : ∀ g ∈ SIG, 1 ≤ (lS g).length := by decide +kernel
        exact ⟨h1 g hm, (List.isPrefixOf_iff_prefix.mp hp).length_le⟩
      · cases h
/-! ### promises -/
def spCh (g : Nat → Bool) : Sp := fun vs H Q _ => ∃ c : Nat, vs = [.str ⟨#[c]⟩] ∧ Q (.bl (g c)) H
def spSpan (p : Nat → Bool) : Sp := fun vs H Q _ => ∃ (z : Str) (n : Nat), vs = [.str z, .int n] ∧ z.length ≤ 20000 ∧ n ≤ z.length ∧ Q (.int (spanEnd p (lS z) n)) H
def spTok (DM : Addr) (p : Nat → Bool) (g : List Nat → Option (Tk × Nat)) : Sp := fun vs H Q E => ∃ (z : Str) (n : Nat), vs = [.str z, .int n] ∧ z.length ≤ 20000 ∧ n < z.length ∧ (∃ c, (lS z)[n]? = some c ∧ p c = true) ∧
  match g ((lS z).drop n) with
  | some (t, k) => ∀ p v H', Same H H' → H' p = some (.tup [v, .int ((n + k : Nat) : Int)]) → Tp H' v (tokD (t, n)) → Q (.ref p) H'
  | none => ∀ d H', Same H H' → H' d = some (.xd [("at", .int n)]) → E (.ref DM) (some d) H'
def spTokens (DM DO : Addr) : Sp := fun vs H Q E => ∃ (z : Str), vs = [.str z] ∧ z.length ≤ 20000 ∧
  ((12000 < z.length ∧ ∀ d H', Same H H' → H' d = some (.xd [("limit", .str "text")]) → E (.ref DO) (some d) H') ∨
    ∃ ts e, z.length ≤ 12000 ∧ Lex 0 (lS z) ts e ∧ match e with
    | none => ∀ p vs H', Same H H' → H p = none → H' p = some (.lst vs) → TpAll H' vs (ts.map tokD) → Q (.ref p) H'
    | some i => ∀ d H', Same H H' → H' d = some (.xd [("at", .int (i : Int))]) → E (.ref DM) (some d) H')
def CMal (v : V) : Prop := ∃ i : Int, v = .int i ∧ i.natAbs.log2 < 1920
def COver (v : V) : Prop := ∃ x : Str, v = .str x
/-- the constants of the lexer -/
structure LexC (K : Frag) (mg : Str → Option Value) : Prop where
  res : ∃ a, mg "RESERVED" = some (.ref a) ∧ ∀ H, SqT K H a (RES.map V.str)
  sig : ∃ a, mg "SIGNS" = some (.ref a) ∧ ∀ H, SqT K H a (SIG.map V.str)
  gMT : ∃ t, mg "MAX_TEXT" = some (.int 12000 t)
  gMN : ∃ t, mg "MAX_NAME" = some (.int 16 t)
end Al
namespace Al
open PySem PySem.Spec PyProof.Rows L2 NdefX PySem.W
/-! ### data that repr can show -/
structure ShowOk (d : PyData) (w dp : Nat) : Prop where
  sh : d.showable = true
  nd : d.hasDict = false
  lv : d.leavesShort 13 = true
  wt : d.weight ≤ w
  dp : d.depth ≤ dp
theorem ShowOk.fits {d : PyData} {w dp : Nat} (h : ShowOk d w dp) (hw : w ≤ 1000000) : d.shown.length ≤ sizeLine :=
  PyData.shown_fits (B := 13) (by decide) (by decide) h.lv (Nat.le_trans h.wt (Nat.le_trans hw (by decide)))
theorem ShowOk.mono {d : PyData} {w w' dp dp' : Nat} (h : ShowOk d w dp) (hw : w ≤ w') (hd : dp ≤ dp') : ShowOk d w' dp' := ⟨h.sh, h.nd, h.lv, Nat.le_trans h.wt hw, Nat.le_trans h.dp hd⟩
theorem ShowOk.none : ShowOk .none 0 0 := ⟨rfl, rfl, rfl, Nat.le_refl _, Nat.le_refl _⟩
theorem ShowOk.bool (b : Bool) : ShowOk (.bool b) 0 0 := ⟨rfl, rfl, rfl, Nat.le_refl _, Nat.le_refl _⟩
def Plain (x : Str) : Prop := ∀ c ∈ lS x, c < 16 ^ 8
theorem ShowOk.str {x : Str} (h : Plain x) : ShowOk (.str x) x.length 0 := by
  refine ⟨rfl, rfl, ?_, Nat.le_refl _, Nat.le_refl _⟩
  show (x.cps.toList.all fun c => decide (c < 16 ^ 8)) = true
  rw [List.all_eq_true]
  intro c hc
  exact decide_eq_true (h c hc)
theorem ShowOk.int {i : Int} (h : i.natAbs < 10 ^ 12) : ShowOk (.int i) 41 0 := by
  have hl : i.natAbs.log2 < 40 := by
    by_cases h0 : i.natAbs = 0
    · rw [h0]; decide
    · rw [Nat.log2_lt h0]
      exact Nat.lt_of_lt_of_le h (by decide)
  refine ⟨?_, rfl, ?_, ?_, Nat.le_refl _⟩
  · show decide (i.natAbs.log2 < 1920) = true
    exact decide_eq_true (by omega)
  · show decide (((PyData.int i).shown).length ≤ 13) = true
    exact decide_eq_true (PyData.shown_int_le h)
  · show (if (i == 0) = true then 0 else i.natAbs.log2 + 1) ≤ 41
    split <;> omega
theorem showAll {w dp : Nat} : ∀ {ds : List PyData}, (∀ d ∈ ds, ShowOk d w dp) → PyData.showableAll ds = true ∧ PyData.hasDictAll ds = false ∧ PyData.leavesShortAll 13 ds = true ∧ PyData.weightAll ds ≤ ds.length * (w + 1) ∧ PyData.depthAll ds ≤ dp
  | [], _ => ⟨rfl, rfl, rfl, Nat.zero_le _, Nat.zero_le _⟩
  | d :: ds, h => by
    obtain ⟨h1, h2, h3, h4, h5⟩ := showAll fun e he => h e (List.mem_cons_of_mem _ he)
    have hd := h d List.mem_cons_self
    refine ⟨?_, ?_, ?_, ?_, ?_⟩
    · simp only [PyData.showableAll, hd.sh, h1, Bool.and_self]
    · simp only [PyData.hasDictAll, hd.nd, h2, Bool.or_self]
    · simp only [PyData.leavesShortAll, hd.lv, h3, Bool.and_self]
    · simp only [PyData.weightAll, List.length_cons]
      have := hd.wt
      have e : (ds.length + 1) * (w + 1) = ds.length * (w + 1) + (w + 1) := Nat.succ_mul _ _
      omega
    · simp only [PyData.depthAll]
      exact Nat.max_le.mpr ⟨hd.dp, h5⟩
theorem ShowOk.list {ds : List PyData} {w dp : Nat} (h : ∀ d ∈ ds, ShowOk d w dp) : ShowOk (.list ds) (ds.length * (w + 1)) (dp + 1) := by
  obtain ⟨h1, h2, h3, h4, h5⟩ := showAll h
  exact ⟨by simpa [PyData.showable] using h1, by simpa [PyData.hasDict] using h2, by simpa [PyData.leavesShort] using h3, by simpa [PyData.weight] using h4, by simp only [PyData.depth]; omega⟩
theorem ShowOk.tuple {ds : List PyData} {w dp : Nat} (h : ∀ d ∈ ds, ShowOk d w dp) : ShowOk (.tuple ds) (ds.length * (w + 1)) (dp + 1) := by
  obtain ⟨h1, h2, h3, h4, h5⟩ := showAll h
  exact ⟨by simpa [PyData.showable] using h1, by simpa [PyData.hasDict] using h2, by simpa [PyData.leavesShort] using h3, by simpa [PyData.weight] using h4, by simp only [PyData.depth]; omega⟩
/-- tokens of which repr is asked -/
def Tk.ok : Tk → Prop
  | .word s => Plain s ∧ s.length ≤ 16
  | .name s => Plain s ∧ s.length ≤ 16
  | .num a b => a < 10 ^ 12 ∧ b < 10 ^ 12
  | .sign s => Plain s ∧ s.length ≤ 16
theorem tok_show {t : Tk × Nat} (h : t.1.ok) (hi : t.2 < 10 ^ 12) : ShowOk (tokD t) 303 2 := by
  obtain ⟨t, i⟩ := t
  have hk : ShowOk (.str t.kind) 100 1 := by
    have : Plain t.kind ∧ t.kind.length ≤ 100 := by
      have k4 : ∀ x ∈ (["word", "name", "number", "sign"] : List Str), Plain x ∧ x.length ≤ 100 := by unfold Plain; decide +kernel
      cases t <;> exact k4 _ (by simp [Tk.kind])
    exact (ShowOk.str this.1).mono this.2 (by decide)
  have hv : ShowOk t.val 100 1 := by
    cases t with
    | word s => exact (ShowOk.str h.1).mono (Nat.le_trans h.2 (by decide)) (by decide)
    | name s => exact (ShowOk.str h.1).mono (Nat.le_trans h.2 (by decide)) (by decide)
    | sign s => exact (ShowOk.str h.1).mono (Nat.le_trans h.2 (by decide)) (by decide)
    | num a b =>
      refine (ShowOk.tuple (ds := [.int (a : Int), .int (b : Int)]) (w := 41) (dp := 0) ?_).mono (by show 2 * 42 ≤ 100; decide) (by decide)
      intro d hd
      rcases List.mem_cons.mp hd with rfl | hd
      · exact ShowOk.int h.1
      · rcases List.mem_cons.mp hd with rfl | hd
        · exact ShowOk.int h.2
        · cases hd
  refine (ShowOk.tuple (ds := [.str t.kind, t.val, .int (i : Int)]) (w := 100) (dp := 1) ?_).mono (by show 3 * 101 ≤ 303; decide) (by decide)
  intro d hd
  rcases List.mem_cons.mp hd with rfl | hd
  · exact hk
  · rcases List.mem_cons.mp hd with rfl | hd
    · exact hv
    · rcases List.mem_cons.mp hd with rfl | hd
      · exact (ShowOk.int (i := (i : Int)) hi).mono (by decide) (by decide)
      · cases hd
end Al
namespace Al
open PySem PySem.Spec PyProof.Rows L2 NdefX PySem.W
/-! ### methods and classes by name, over the layer with exceptions -/
structure MetX (P : Program) (w : World) (K : Frag) (mg : Str → Option Value) (base : Heap) (k : Nat) (C : Addr) (m : Str) (ps : List Str) (sp : Sp) : Prop where
  ex : ∃ (f : Addr) (fd : FuncData), Cls K C ∧ Meth K C m f ∧ Binds K fd ps [] ∧ FnOk P w K mg base (L2N.CX P w) k f fd ps sp
structure MakX (P : Program) (w : World) (K : Frag) (mg : Str → Option Value) (base : Heap) (k : Nat) (x : Str) (C : Addr) (ps : List Str) (sp : Sp) : Prop where
  ex : ∃ (f : Addr) (fd : FuncData), mg x = some (.ref C) ∧ Mk K C f ∧ Binds K fd ps [] ∧ FnOk P w K mg base (L2N.CX P w) k f fd ps sp
/-- where a method's def stands -/
structure MetAt (K : Frag) (C : Addr) (m q : Str) (st : Stmt) : Prop where
  ex : ∃ f fd, Cls K C ∧ Meth K C m f ∧ FunD K m q (defArgs st) (defBody st) (defScope st) [] [] f fd
structure MakAt (K : Frag) (mg : Str → Option Value) (x q : Str) (C : Addr) (st : Stmt) : Prop where
  ex : ∃ f fd, mg x = some (.ref C) ∧ Mk K C f ∧ FunD K "__init__" q (defArgs st) (defBody st) (defScope st) [] [] f fd
section
variable {P : Program} {w : World} {K : Frag} {mg : Str → Option Value} {base : Heap} {k : Nat} {x m q : Str} {C : Addr} {st : Stmt} {N ps : List Str} {sp : Sp}
theorem met_mk (dx : MetAt K C m q st) (S : FnScope N ps (defScope st))
    (hb : ∀ (kV doc pm : Value) (an : Option Addr) (cdv ct : Value) (us : List Value), us.length = ps.length → bindArgs (fnOf m q (defArgs st) (defBody st) (defScope st) .none kV doc pm an cdv ct) ⟨us, []⟩ = pure (ps.zip us))
    (len : ∀ vs H Q E, sp vs H Q E → vs.length = ps.length)
    (hbody : ∀ (f : Addr) (cdv : Value) (A : Around) (outer : List Env) (s : Shared) (H : Hp) (vs : List V) (Q : VK) (E : XK), Room k (A.deeper (envOfC q (defScope st) s.heap.objs.size f cdv)) → sp vs H Q E →
      ∃ t, PSs (cxOf (L2N.CX P w) P w K mg base N q (defScope st) f cdv A outer s H E) (defBody st) t ∧ t { nx := fun _ H' => Q .non H', rt := Q } (start N vs) H) : MetX P w K mg base (k + 1) C m ps sp := by
  obtain ⟨f, fd, hc, hm, F⟩ := dx.ex
  exact ⟨f, fd, hc, hm, F.bindsN hb, F.ok S len (hbody f)⟩
theorem mak_mk (dx : MakAt K mg x q C st) (S : FnScope N ps (defScope st))
    (hb : ∀ (kV doc pm : Value) (an : Option Addr) (cdv ct : Value) (us : List Value), us.length = ps.length → bindArgs (fnOf "__init__" q (defArgs st) (defBody st) (defScope st) .none kV doc pm an cdv ct) ⟨us, []⟩ = pure (ps.zip us))
    (len : ∀ vs H Q E, sp vs H Q E → vs.length = ps.length)
    (hbody : ∀ (f : Addr) (cdv : Value) (A : Around) (outer : List Env) (s : Shared) (H : Hp) (vs : List V) (Q : VK) (E : XK), Room k (A.deeper (envOfC q (defScope st) s.heap.objs.size f cdv)) → sp vs H Q E →
      ∃ t, PSs (cxOf (L2N.CX P w) P w K mg base N q (defScope st) f cdv A outer s H E) (defBody st) t ∧ t { nx := fun _ H' => Q .non H', rt := Q } (start N vs) H) : MakX P w K mg base (k + 1) x C ps sp := by
  obtain ⟨f, fd, hc, hm, F⟩ := dx.ex
  exact ⟨f, fd, hc, hm, F.bindsN hb, F.ok S len (hbody f)⟩
end
def tMetS (C : Addr) (m : Str) (sp : Sp) (E : L2.St → XK) (ta : TE) (t : TA) : TE := fun σ H Q => ta σ H fun x H1 => ∃ a dx fs, x = .ref a ∧ H1 a = some (.ins C dx fs) ∧ fs.lookup m = none ∧ t σ H1 fun vs H2 => sp (x :: vs) H2 Q (E σ)
def tMakS (C : Addr) (sp : Sp) (E : L2.St → XK) (t : TA) : TE := fun σ H Q => t σ H fun vs H1 => ∀ x dx, H1 x = none → H1 dx = none → dx ≠ x → sp (.ref x :: vs) (upd (upd H1 dx (.own x)) x (.ins C dx [])) (fun v H2 => v = .non ∧ Q (.ref x) H2) (E σ)
section
variable {X : Cx} {k : Nat} {C : Addr} {x m : Str} {ps : List Str} {sp : Sp} {W : WX} {p pos apos : Pos} {e o : Expr} {es : List Expr} {ta : TE} {t : TA}
theorem pe_metX {pl : Sem Bool} (G : MetX X.prog X.w X.K X.mg X.base k C m ps sp) (hr : Room k X.A) (tk : L2N.Takes X W) (he : PE X o ta) (ha : PA X (e :: es) t)
    (hst : starEach (e :: es) X.env = (false, eval e X.env) :: starEach es X.env := by rfl) (hpl : (backTo pos (starEach es X.env)).any (·.1) = false := by rfl)
    (ht : eval (.Call (.Attribute o m apos) (e :: es) [] pos) X.env = (do
      let ov ← eval o X.env
      standAt apos.atName
      let (f, first) ← holding [ov] (getMethod ov m pl)
      callWith pos f first (backTo pos (starEach (e :: es) X.env)) (backToKw pos (keywordEach [] X.env))) := by rfl) :
    PE X (.Call (.Attribute o m apos) (e :: es) [] pos) (tMetS C m sp (WE W) ta t) := by
  obtain ⟨f, fd, c, hm, hb, F⟩ := G.ex
  refine ⟨fun pins s σ H Q I h => ?_⟩
  refine PySem.W.methodCall_KW (pl := pl) (thn (he.run pins s σ H _ I h) fun u s1 ⟨x, H1, I1, rx, a, dx, fs, ex, ea, l, q⟩ => ?_) ht
  subst ex
  obtain rfl : u = Value.ref a := rx
  refine getmeth_ok I1 ea c hm l ?_
  refine PySem.W.callWith_K (first := [.ref a]) (h₀ := X.base) I.ok.mod.kin hm.kp (thn (ha.run pos pins s1 σ H1 _ I1 q) fun us s2 ⟨vs, H2, I2, r, q2⟩ => ⟨I2.kIn, ?_⟩) hst hpl
  exact run_fnS (us := .ref a :: us) (vs := .ref a :: vs) F hr hb (L2N.passAt tk σ) I2 (.cons rfl r) q2
theorem pe_metX0 {pl : Sem Bool} (G : MetX X.prog X.w X.K X.mg X.base k C m ps sp) (hr : Room k X.A) (tk : L2N.Takes X W) (he : PE X o ta)
    (ht : eval (.Call (.Attribute o m apos) [] [] pos) X.env = (do
      let ov ← eval o X.env
      standAt apos.atName
      let (f, first) ← holding [ov] (getMethod ov m pl)
      callWith pos f first (backTo pos (starEach [] X.env)) (backToKw pos (keywordEach [] X.env))) := by rfl) :
    PE X (.Call (.Attribute o m apos) [] [] pos) (tMetS C m sp (WE W) ta tNil) := by
  obtain ⟨f, fd, c, hm, hb, F⟩ := G.ex
  refine ⟨fun pins s σ H Q I h => ?_⟩
  refine PySem.W.methodCall_KW (pl := pl) (thn (he.run pins s σ H _ I h) fun u s1 ⟨x, H1, I1, rx, a, dx, fs, ex, ea, l, q⟩ => ?_) ht
  subst ex
  obtain rfl : u = Value.ref a := rx
  refine getmeth_ok I1 ea c hm l ?_
  exact PySem.W.callWith_K0 I1.kIn hm.kp (run_fnS (us := [.ref a]) (vs := [.ref a]) F hr hb (L2N.passAt tk σ) I1 (.cons rfl .nil) q)
theorem pe_makX (G : MakX X.prog X.w X.K X.mg X.base k x C ps sp) (hr : Room (k + 1) X.A) (tk : L2N.Takes X W) (ha : PA X (e :: es) t) (hg : Gl X x := by rfl)
    (hdb : (x == ("__debug__" : Str)) = false := by decide) (he : starEach (e :: es) X.env = (false, eval e X.env) :: starEach es X.env := by rfl) (hpl : (backTo pos (starEach es X.env)).any (·.1) = false := by rfl) :
    PE X (.Call (.Name x p) (e :: es) [] pos) (tMakS C sp (WE W) t) := by
  obtain ⟨f, fd, hm, M, hb, F⟩ := G.ex
  refine ⟨fun pins s σ H Q I h => ?_⟩
  refine wpAny_Call_Name_kw (ld_glob I hg hm ?_ hdb)
  refine PySem.W.callWith_K (h₀ := X.base) I.ok.mod.kin M.kp (thn (ha.run pos pins s σ H _ I h) fun us s1 ⟨vs, H1, I1, r, q⟩ => ⟨I1.kIn, ?_⟩) he hpl
  have hq := q (s1.heap.objs.size + 1) s1.heap.objs.size (I1.hok.fresh (Nat.le_succ _)) (I1.hok.fresh (Nat.le_refl _)) (Nat.ne_of_lt (Nat.lt_succ_self _))
  have I2 := Inv.made (C := C) I1
  have r2 : Vals (V.ref (s1.heap.objs.size + 1) :: vs) (Value.ref (s1.heap.objs.size + 1) :: us) := .cons rfl r
  have hl : (Value.ref (s1.heap.objs.size + 1) :: us).length = ps.length := by
    have e := r2.length
    rw [F.len _ _ _ _ hq] at e
    exact e.symm
  have b := hb _ (Value.ref (s1.heap.objs.size + 1) :: us) I2.kIn (by rw [List.append_nil]; exact hl)
  rw [List.append_nil] at b
  refine wpAny_call (make_map (f := f) I1.kIn M.makes M.init (beq_iff_eq.mp M.fn) (codeAny_mono (F.run _ X.stack _ _ ⟨Value.ref (s1.heap.objs.size + 1) :: us, []⟩ (Value.ref (s1.heap.objs.size + 1) :: us) _ _ (WE W σ) (hr.make C us [])
    (I2.env0.make C us []) b r2 hq) fun r s' hq' => ?_))
  cases r with
  | error e => exact L2N.passAt tk σ pins _ _ e s' I2 hq'
  | ok fl =>
    cases fl with
    | ret u =>
      obtain ⟨v, H', I3, rv, ev, q3⟩ := I2.after hq'
      subst ev
      exact ⟨rv, ⟨V.ref (s1.heap.objs.size + 1), H', I3, rfl, q3⟩⟩
    | next => exact False.elim hq'
    | brk => exact False.elim hq'
    | cont => exact False.elim hq'
end
/-! ### for over a dict of the module (texts as keys) -/
def KKeys (K : Frag) (d : Addr) (ks : List Str) : Prop := (d == sysModules) = false ∧ ∃ es n, K.lookup d = some ⟨.type "dict", none, .dict es n, #[]⟩ ∧ es.size = ks.length ∧ ∀ (i : Nat) (z : Str), ks[i]? = some z → ∃ (en : DictEntry) (t : Tok), es[i]? = some en ∧ en.key = Value.str z t
def Ikk (ks : List Str) : It := ⟨fun i _ => i < ks.length, fun i H x H' => H' = H ∧ ∃ z, ks[i]? = some z ∧ x = .str z, fun i _ => ks.length ≤ i⟩
theorem walk_kk {ks : List Str} : Walk (Ikk ks) ks.length (fun _ => True) (fun i H x H' => H' = H ∧ ∃ z, ks[i]? = some z ∧ x = .str z) :=
  ⟨fun _ _ hi _ => hi, fun _ _ => Nat.le_refl _, fun _ _ _ _ _ _ y => y⟩
section
variable {P : Program} {w : World} {K : Frag} {tg : Expr} {d : Addr} {ks : List Str}
theorem turn_kk (it : Addr) {es : Array DictEntry} {ep : Nat} (hk : K.lookup d = some ⟨.type "dict", none, .dict es ep, #[]⟩) (hsz : es.size = ks.length) (hen : ∀ (i : Nat) (z : Str), ks[i]? = some z → ∃ (en : DictEntry) (t : Tok), es[i]? = some en ∧ en.key = Value.str z t) :
    Turn P w K tg (Ikk ks) [it] it (fun i h => h.IsKeyIter it d i ks.length ep) where
  mem := by simp
  obj := fun i h st b hb => by
    have e : b = it := by simpa using hb
    subst e
    obtain ⟨oi, e, c, dd⟩ := st
    exact ⟨oi, e, fun v z => by rw [dd] at z; cases z⟩
  keep := fun i h h' st k => st.at fun oi e => k it (by simp) oi e
  item := by
    intro X hP hw hK hc i pins s σ H E I hf st hg
    subst hP hw hK
    have hi : i < ks.length := hg
    obtain ⟨f0, f1, f2, f3, f4, f5⟩ := hf it (by simp)
    have hgd := I.kIn _ _ hk
    obtain ⟨en, t, he, hkey⟩ := hen i ks[i] (List.getElem?_eq_getElem hi)
    refine next_key_item st hgd rfl hsz he fun h' st' sb => ?_
    have I1 : Inv X pins σ H { s with heap := h' } := I.turned (t' := s.toks) (fun b ob hb e => (sb.2 b hb).trans e) f0 f1 f3 f4 f5
    obtain ⟨oi, e, c, dd⟩ := id st'
    refine ⟨en.key, rfl, go_of (s := { s with heap := h' }) e c dd (by decide) ⟨.str ks[i], H, I1, by rw [hkey]; exact ⟨t, rfl⟩, ⟨rfl, ks[i], List.getElem?_eq_getElem hi, rfl⟩, st', fun b hb => (hf b hb).1⟩⟩
  done := by
    intro X hP hw hK hc i pins s σ H E I hf st hg
    subst hP hw hK
    obtain ⟨f0, f1, f2, f3, f4, f5⟩ := hf it (by simp)
    exact next_key_end (I.ok.hd hc) st (I.kIn _ _ hk) rfl hsz hg fun h' eb => ⟨rfl, I.turned (t' := s.toks) (fun b ob hb e => eb b ob hb e) f0 f1 f3 f4 f5⟩
  self := fun A i s Q E st h => wpAny_pyIter_keyiter st h
end
def iKK (K : Frag) (td : TE) : TI := fun σ H R => td σ H fun x H1 => ∃ d ks, x = .ref d ∧ KKeys K d ks ∧ R (Ikk ks) H1
theorem pi_kk {X : Cx} {tg e : Expr} {td : TE} (he : PE X e td) : PI X tg e (iKK X.K td) := by
  refine ⟨fun pins s σ H R I h => ?_⟩
  refine thn (he.run pins s σ H _ I h) fun u s1 ⟨x, H1, I1, rx, d, ks, ex, ⟨hs, es, n, hk, hsz, hen⟩, q⟩ => ?_
  subst ex
  obtain rfl : u = Value.ref d := rx
  refine iter_keys hs (I1.kIn _ _ hk) ⟨rfl, rfl, rfl⟩ rfl (pi_one (tk := s1.toks) I1 _ (turn_kk _ hk hsz hen) ⟨_, Heap.get?_push_size _ rfl, rfl, ?_⟩ q)
  rw [hsz]; rfl
end Al
namespace Al
open PySem PySem.Spec PyProof.Rows L2 NdefX PySem.W
/-! ### the parser in plain Lean: the state is what is left of the tokens; n levels are left -/
abbrev TS1 : Type := List (Tk × Nat)
inductive PErr where
  | mal (i : Nat)
  | over
abbrev Pr (α : Type) : Type := StateT TS1 (ExceptT PErr Option) α
theorem bind_run {α β : Type} (x : Pr α) (k : α → Pr β) (ts : TS1) : (x >>= k) ts = (match x ts with
  | some (.ok (a, ts')) => k a ts'
  | some (.error e) => some (.error e)
  | none => none) := by
  show (x ts >>= fun (p : α × TS1) => k p.1 p.2 : ExceptT PErr Option (β × TS1)) = _
  cases h : x ts with
  | none => rfl
  | some o => cases o with
    | ok a => rfl
    | error e => rfl
def Tk.txt : Tk → Str
  | .word s => s
  | .name s => s
  | .num _ _ => ""
  | .sign s => s
def seesB (ts : TS1) (k v : Str) : Bool := match ts with
  | t :: _ => decide (t.1.kind = k) && decide (t.1.txt = v)
  | [] => false
def kindB (ts : TS1) (k : Str) : Bool := match ts with
  | t :: _ => decide (t.1.kind = k)
  | [] => false
def atP (L : Nat) (ts : TS1) : Nat := match ts with
  | t :: _ => t.2
  | [] => L
def headV (ts : TS1) : PyData := match ts with
  | t :: _ => t.1.val
  | [] => .none
def pSees (k v : Str) : Pr Bool := fun ts => some (.ok (seesB ts k v, ts))
def pAcc (k v : Str) : Pr Bool := fun ts => if seesB ts k v = true then some (.ok (true, ts.tail)) else some (.ok (false, ts))
def pKind (k : Str) : Pr Bool := fun ts => some (.ok (kindB ts k, ts))
def pAt (L : Nat) : Pr Nat := fun ts => some (.ok (atP L ts, ts))
def pExp (L : Nat) (k v : Str) : Pr Unit := fun ts => if seesB ts k v = true then some (.ok ((), ts.tail)) else some (.error (.mal (atP L ts)))
def pRead (L : Nat) (k : Str) : Pr PyData := fun ts => if kindB ts k = true then some (.ok (headV ts, ts.tail)) else some (.error (.mal (atP L ts)))
def pWhole (L lim : Nat) : Pr Int := fun ts => match ts with
  | (.num a b, i) :: r => if b ≠ 1 ∨ lim < a then some (.error (.mal i)) else some (.ok ((a : Int), r))
  | _ => some (.error (.mal (atP L ts)))
def pDeep (n : Nat) : Pr Nat := match n with
  | 0 => throw .over
  | n + 1 => pure n
def pPower (L : Nat) : Pr Int := do
  if ← pAcc "sign" "-" then
    let a ← pWhole L 9
    return -a
  else pWhole L 9
def pProdL (L : Nat) (acc : List PyData) : Pr PyData := do
  if ← pAcc "sign" "]" then return .tuple acc
  else
    let at_ ← pAt L
    let name ← pRead L "name"
    if ← pAcc "sign" "^" then
      let p ← pPower L
      pProdL L (acc ++ [.tuple [name, .int p, .int (at_ : Int)]])
    else pProdL L (acc ++ [.tuple [name, .int 1, .int (at_ : Int)]])
partial_fixpoint
def pProd (L : Nat) : Pr PyData := do
  pExp L "sign" "["
  pProdL L []
def heads : List (Str × Str) := [("+", "add"), ("-", "sub"), ("*", "mul"), ("/", "div"), ("<", "lt"), ("<=", "le"), ("==", "eq")]
def cmps : List (Str × Str) := [("<", "lt"), ("<=", "le"), ("==", "eq")]
def headOf (s : PyData) : Str := match s with
  | .str z => (heads.lookup z).getD ""
  | _ => ""
mutual
def pArgs (L n : Nat) (acc : List PyData) : Pr PyData := do
  if ← pAcc "sign" "," then
    let m ← pDeep n
    let a ← pExpr L m
    pArgs L n (acc ++ [a])
  else
    pExp L "sign" ")"
    return .tuple acc
partial_fixpoint
def pCall (L n : Nat) : Pr PyData := do
  pExp L "sign" "("
  if ← pAcc "sign" ")" then return .tuple []
  else
    let m ← pDeep n
    let a ← pExpr L m
    pArgs L n [a]
partial_fixpoint
def pPrim (L n : Nat) : Pr PyData := do
  let at_ ← pAt L
  if ← pAcc "word" "true" then return .tuple [.str "bool", .bool true]
  else if ← pAcc "word" "false" then return .tuple [.str "bool", .bool false]
  else if ← pAcc "sign" "(" then
    let m ← pDeep n
    let a ← pExpr L m
    pExp L "sign" ")"
    return a
  else if ← pAcc "word" "iterate" then
    let name ← pRead L "name"
    let c ← pWhole L 20
    pExp L "word" "from"
    let m ← pDeep n
    let a ← pPrim L m
    return .tuple [.str "iterate", name, .int c, a, .int (at_ : Int)]
  else if ← pKind "number" then
    let v ← pRead L "number"
    if ← pSees "sign" "[" then
      let u ← pProd L
      return .tuple [.str "number", v, u, .int (at_ : Int)]
    else return .tuple [.str "number", v, .tuple [], .int (at_ : Int)]
  else
    let name ← pRead L "name"
    if ← pSees "sign" "(" then
      let u ← pCall L n
      return .tuple [.str "call", name, u, .int (at_ : Int)]
    else return .tuple [.str "var", name, .int (at_ : Int)]
partial_fixpoint
def pPowL (L n : Nat) (a : PyData) : Pr PyData := do
  if ← pSees "sign" "^" then
    let at_ ← pAt L
    pExp L "sign" "^"
    let m ← pDeep n
    let p ← pPower L
    pPowL L m (.tuple [.str "power", a, .int p, .int (at_ : Int)])
  else return a
partial_fixpoint
def pPowers (L n : Nat) : Pr PyData := do
  let a ← pPrim L n
  pPowL L n a
partial_fixpoint
def pFacL (L n : Nat) (a : PyData) : Pr PyData := do
  if ← pSees "sign" "*" then
    let at_ ← pAt L
    let s ← pRead L "sign"
    let m ← pDeep n
    let b ← pPowers L m
    pFacL L m (.tuple [.str (headOf s), a, b, .int (at_ : Int)])
  else if ← pSees "sign" "/" then
    let at_ ← pAt L
    let s ← pRead L "sign"
    let m ← pDeep n
    let b ← pPowers L m
    pFacL L m (.tuple [.str (headOf s), a, b, .int (at_ : Int)])
  else return a
partial_fixpoint
def pFactors (L n : Nat) : Pr PyData := do
  let a ← pPowers L n
  pFacL L n a
partial_fixpoint
def pTermL (L n : Nat) (a : PyData) : Pr PyData := do
  if ← pSees "sign" "+" then
    let at_ ← pAt L
    let s ← pRead L "sign"
    let m ← pDeep n
    let b ← pFactors L m
    pTermL L m (.tuple [.str (headOf s), a, b, .int (at_ : Int)])
  else if ← pSees "sign" "-" then
    let at_ ← pAt L
    let s ← pRead L "sign"
    let m ← pDeep n
    let b ← pFactors L m
    pTermL L m (.tuple [.str (headOf s), a, b, .int (at_ : Int)])
  else return a
partial_fixpoint
def pTerms (L n : Nat) : Pr PyData := do
  let a ← pFactors L n
  pTermL L n a
partial_fixpoint
def pPlain (L n : Nat) : Pr PyData := do
  let at_ ← pAt L
  if ← pAcc "word" "not" then
    let m ← pDeep n
    let a ← pPlain L m
    return .tuple [.str "not", a, .int (at_ : Int)]
  else
    let a ← pTerms L n
    pCmp L n a cmps
partial_fixpoint
def pCmp (L n : Nat) (a : PyData) (ops : List (Str × Str)) : Pr PyData := do
  match ops with
  | [] => return a
  | (z, hd) :: r =>
    let at2 ← pAt L
    if ← pAcc "sign" z then
      let m ← pDeep n
      let b ← pTerms L m
      return .tuple [.str hd, a, b, .int (at2 : Int)]
    else pCmp L n a r
partial_fixpoint
def pBothL (L n : Nat) (a : PyData) : Pr PyData := do
  if ← pSees "word" "and" then
    let at_ ← pAt L
    pExp L "word" "and"
    let m ← pDeep n
    let b ← pPlain L m
    pBothL L m (.tuple [.str "and", a, b, .int (at_ : Int)])
  else return a
partial_fixpoint
def pBoth (L n : Nat) : Pr PyData := do
  let a ← pPlain L n
  pBothL L n a
partial_fixpoint
def pOrL (L n : Nat) (at_ : Nat) (a : PyData) : Pr PyData := do
  if ← pSees "word" "or" then
    let at2 ← pAt L
    pExp L "word" "or"
    let m ← pDeep n
    let b ← pBoth L m
    pOrL L m at_ (.tuple [.str "or", a, b, .int (at2 : Int)])
  else return a
partial_fixpoint
def pExpr (L n : Nat) : Pr PyData := do
  let at_ ← pAt L
  if ← pAcc "word" "if" then
    let m ← pDeep n
    let c ← pExpr L m
    pExp L "word" "then"
    let m2 ← pDeep n
    let a ← pExpr L m2
    pExp L "word" "else"
    let m3 ← pDeep n
    let b ← pExpr L m3
    return .tuple [.str "if", c, a, b, .int (at_ : Int)]
  else if ← pAcc "word" "let" then
    let name ← pRead L "name"
    pExp L "sign" "="
    let m ← pDeep n
    let a ← pExpr L m
    pExp L "word" "in"
    let m2 ← pDeep n
    let b ← pExpr L m2
    return .tuple [.str "let", name, a, b, .int (at_ : Int)]
  else
    let a ← pBoth L n
    pOrL L n at_ a
partial_fixpoint
end
def pParL (L : Nat) (acc : List PyData) : Pr PyData := do
  let name ← pRead L "name"
  let u ← (do if ← pAcc "sign" ":" then pProd L else return .none : Pr PyData)
  if ← pAcc "sign" "," then pParL L (acc ++ [.tuple [name, u]])
  else
    pExp L "sign" ")"
    return .tuple (acc ++ [.tuple [name, u]])
partial_fixpoint
def pPars (L : Nat) : Pr PyData := do
  pExp L "sign" "("
  if ← pAcc "sign" ")" then return .tuple []
  else pParL L []
def pSemi (L : Nat) (l : PyData) : Pr PyData := do
  pExp L "sign" ";"
  return l
def pLine (L : Nat) : Pr PyData := do
  let at_ ← pAt L
  if ← pAcc "word" "base" then
    let name ← pRead L "name"
    pSemi L (.tuple [.str "base", name, .int (at_ : Int)])
  else if ← pAcc "word" "unit" then
    let name ← pRead L "name"
    pExp L "sign" "="
    let v ← pRead L "number"
    let u ← pProd L
    pSemi L (.tuple [.str "unit", name, v, u, .int (at_ : Int)])
  else if ← pAcc "word" "fun" then
    let name ← pRead L "name"
    let ps ← pPars L
    let u ← (do if ← pAcc "sign" ":" then pProd L else return .none : Pr PyData)
    pExp L "sign" "="
    let e ← pExpr L 23
    pSemi L (.tuple [.str "fun", name, ps, u, e, .int (at_ : Int)])
  else
    pExp L "word" "show"
    let e ← pExpr L 23
    let u ← (do if ← pAcc "word" "in" then pProd L else return .none : Pr PyData)
    pSemi L (.tuple [.str "show", e, u, .int (at_ : Int)])
def pEnd : Pr Bool := fun ts => some (.ok (ts.isEmpty, ts))
def pLines (L : Nat) (acc : List PyData) : Pr (List PyData) := do
  if ← pEnd then return acc
  else
    let l ← pLine L
    pLines L (acc ++ [l])
partial_fixpoint
/-! ### one step of it -/
section
variable {α β : Type} {ts : TS1} {L : Nat} {k v : Str} {out : Except PErr (β × TS1)}
theorem b_accT {A B : Pr β} (e : seesB ts k v = true) (h : (pAcc k v >>= fun b => if b = true then A else B) ts = some out) : A ts.tail = some out := by
  rw [bind_run] at h
  unfold pAcc at h
  rw [if_pos e] at h
  exact h
theorem b_accF {A B : Pr β} (e : seesB ts k v = false) (h : (pAcc k v >>= fun b => if b = true then A else B) ts = some out) : B ts = some out := by
  rw [bind_run] at h
  unfold pAcc at h
  rw [if_neg (by rw [e]; decide)] at h
  exact h
theorem b_seesT {A B : Pr β} (e : seesB ts k v = true) (h : (pSees k v >>= fun b => if b = true then A else B) ts = some out) : A ts = some out := by
  rw [bind_run] at h
  unfold pSees at h
  rw [e] at h
  exact h
theorem b_seesF {A B : Pr β} (e : seesB ts k v = false) (h : (pSees k v >>= fun b => if b = true then A else B) ts = some out) : B ts = some out := by
  rw [bind_run] at h
  unfold pSees at h
  rw [e] at h
  exact h
theorem b_kindT {A B : Pr β} (e : kindB ts k = true) (h : (pKind k >>= fun b => if b = true then A else B) ts = some out) : A ts = some out := by
  rw [bind_run] at h
  unfold pKind at h
  rw [e] at h
  exact h
theorem b_kindF {A B : Pr β} (e : kindB ts k = false) (h : (pKind k >>= fun b => if b = true then A else B) ts = some out) : B ts = some out := by
  rw [bind_run] at h
  unfold pKind at h
  rw [e] at h
  exact h
theorem b_at {f : Nat → Pr β} (h : (pAt L >>= f) ts = some out) : f (atP L ts) ts = some out := by
  rw [bind_run] at h
  exact h
theorem b_expT {f : Unit → Pr β} (e : seesB ts k v = true) (h : (pExp L k v >>= f) ts = some out) : f () ts.tail = some out := by
  rw [bind_run] at h
  unfold pExp at h
  rw [if_pos e] at h
  exact h
theorem b_expF {f : Unit → Pr β} (e : seesB ts k v = false) (h : (pExp L k v >>= f) ts = some out) : out = .error (.mal (atP L ts)) := by
  rw [bind_run] at h
  unfold pExp at h
  rw [if_neg (by rw [e]; decide)] at h
  exact (Option.some.inj h).symm
theorem b_readT {f : PyData → Pr β} (e : kindB ts k = true) (h : (pRead L k >>= f) ts = some out) : f (headV ts) ts.tail = some out := by
  rw [bind_run] at h
  unfold pRead at h
  rw [if_pos e] at h
  exact h
theorem b_readF {f : PyData → Pr β} (e : kindB ts k = false) (h : (pRead L k >>= f) ts = some out) : out = .error (.mal (atP L ts)) := by
  rw [bind_run] at h
  unfold pRead at h
  rw [if_neg (by rw [e]; decide)] at h
  exact (Option.some.inj h).symm
theorem b_deep {f : Nat → Pr β} {n : Nat} (h : (pDeep n >>= f) ts = some out) : (n = 0 ∧ out = .error .over) ∨ ∃ m, n = m + 1 ∧ f m ts = some out := by
  rw [bind_run] at h
  cases n with
  | zero => exact .inl ⟨rfl, (Option.some.inj h).symm⟩
  | succ m => exact .inr ⟨m, rfl, h⟩
theorem b_ret {a : β} (h : (pure a : Pr β) ts = some out) : out = .ok (a, ts) := (Option.some.inj h).symm
theorem b_bind {g : Pr α} {f : α → Pr β} (h : (g >>= f) ts = some out) : ∃ o, g ts = some o ∧ (∀ e, o = .error e → out = .error e) ∧ ∀ a ts', o = .ok (a, ts') → f a ts' = some out := by
  rw [bind_run] at h
  cases q : g ts with
  | none =>
    rw [q] at h
    cases h
  | some o =>
    rw [q] at h
    cases o with
    | ok a => exact ⟨_, rfl, (by intro _ e; cases e), fun a ts' e => by cases e; exact h⟩
    | error e => exact ⟨_, rfl, fun e' z => by cases z; exact (Option.some.inj h).symm, (by intro _ _ z; cases z)⟩
end
end Al
namespace Al
open PySem PySem.Spec PyProof.Rows L2 NdefX PySem.W
def top (i : Nat) : Stmt := PySem.Challenge.pw_alnage_k02_chains_and_levels.main.body.getD i (.Pass ⟨0, 0, 0, 0⟩)
local macro_rules | `(tactic| walk_at "rd1") => `(tactic| with_reducible first
  | (show tVar _ _ _ _; refine r_var (by with_unfolding_all rfl) ?_) | refine r_c ?_ | refine r_op ?_ | refine r_I0 ?_ | refine r_un ?_ | refine r_U ?_
  | (show rI _ _ _ _ _ _; refine r_I (by with_unfolding_all first | exact ⟨by decide, by decide⟩ | (show (0 : Int) < _; decide)) ?_)
  | refine r_eqI ?_ | refine r_neI ?_ | refine r_eqS ?_ | refine r_neS ?_ | refine r_eqB ?_ | refine r_neB ?_ | refine r_chain ?_
  | refine r_test ?_ | refine r_B ?_ | refine r_bl ?_ | refine r_int ?_ | refine r_and ?_ | refine r_or ?_ | refine r_not ?_ | refine r_andV ?_ | refine r_orV ?_ | refine r_notV ?_
  | refine r_if ?_ | refine r_nil ?_ | refine r_cons ?_ | refine r_cb ?_ | refine r_call ?_ | refine r_callS ?_ | refine r_tup ?_ | refine r_lst ?_ | refine r_seq ?_ | refine r_next ?_ | refine r_asg ?_
  | refine r_name ?_ | refine r_ifS ?_ | refine r_ret ?_ | refine r_retN ?_ | refine r_drop ?_ | refine r_brk ?_ | refine r_ct ?_ | refine r_sl ?_ | refine r_part ?_ | refine r_nopart ?_
  | refine r_bm ?_ | refine r_bm0 ?_ | refine r_raiseX ?_ | refine r_mkO ?_ | refine iteF ?_ | refine iteT ?_ | refine r_int1 ?_ | refine r_int1b ?_ | (show _ ≤ sizeLine ∧ _; refine r_sz (by with_unfolding_all first | omega | (simp only [List.length_cons, List.length_nil]; omega)) ?_)
  | (show ∃ _, _; refine ⟨_, rfl, ?_⟩) | (show ∃ _, _; refine ⟨_, _, rfl, rfl, ?_⟩) | (show ∃ _, _; refine ⟨_, _, rfl, ?_⟩))
local macro_rules | `(tactic| walk_at "rd") => `(tactic| repeat (walk_at "rd1"))

section
variable {P : Program} {w : World} {K : Frag} {mg : Str → Option Value} {base : Heap}
abbrev s_is_letter : Stmt := top 9
theorem sc_is_letter : FnScope ["char"] ["char"] (defScope s_is_letter) := ⟨rfl, rfl, rfl, by decide +kernel, rfl, by decide +kernel, by decide +kernel⟩
theorem cal_is_letter (dx : DefAt K mg "is_letter" s_is_letter) : Cal P w K mg base 1 "is_letter" ["char"] (spCh isLetter) := by
  refine cal_mk dx sc_is_letter (fun _ _ _ _ _ _ us hl => match us, hl with | [_], _ => rfl) (fun vs H Q E h => ?_) (fun f cdv A outer s H vs Q E hr h => ?_)
  · obtain ⟨c, rfl, _⟩ := h
    rfl
  · obtain ⟨c, rfl, k⟩ := h
    refine ⟨_, (pss_one (ps_ret (pe_or (pe_chain op_le_str op_le_str pe_str (pv 0) pe_str) (pe_one (pe_chain op_le_str op_le_str pe_str (pv 0) pe_str))))), ?_⟩
    walk_at "rd"
    rw [leA c "a" 97 (by decide +kernel)]
    refine r_ite (fun h1 => ?_) (fun h1 => ?_) <;> walk_at "rd"
    · rw [leB c "z" 122 (by decide +kernel)]
      refine r_ite (fun h2 => ?_) (fun h2 => ?_) <;> walk_at "rd"
      · have e : isLetter c = true := by simp [isLetter, h1, h2]
        rw [e] at k; exact k
      · rw [leA c "A" 65 (by decide +kernel), decide_eq_true (by have := of_decide_eq_true h1; omega : 65 ≤ c)]
        walk_at "rd"
        rw [leB c "Z" 90 (by decide +kernel)]
        have e : isLetter c = decide (c ≤ 90) := by have := of_decide_eq_true h1; simp [isLetter, h1, h2]; omega
        rw [e] at k; exact k
    · rw [leA c "A" 65 (by decide +kernel)]
      refine r_ite (fun h2 => ?_) (fun h2 => ?_) <;> walk_at "rd"
      · rw [leB c "Z" 90 (by decide +kernel)]
        have e : isLetter c = decide (c ≤ 90) := by simp [isLetter, h1, h2]
        rw [e] at k; exact k
      · have e : isLetter c = false := by simp [isLetter, h1, h2]
        rw [e] at k; exact k
abbrev s_is_digit : Stmt := top 10
theorem sc_is_digit : FnScope ["char"] ["char"] (defScope s_is_digit) := ⟨rfl, rfl, rfl, by decide +kernel, rfl, by decide +kernel, by decide +kernel⟩
theorem cal_is_digit (dx : DefAt K mg "is_digit" s_is_digit) : Cal P w K mg base 1 "is_digit" ["char"] (spCh isDigit) := by
  refine cal_mk dx sc_is_digit (fun _ _ _ _ _ _ us hl => match us, hl with | [_], _ => rfl) (fun vs H Q E h => ?_) (fun f cdv A outer s H vs Q E hr h => ?_)
  · obtain ⟨c, rfl, _⟩ := h
    rfl
  · obtain ⟨c, rfl, k⟩ := h
    refine ⟨_, (pss_one (ps_ret (pe_chain op_le_str op_le_str pe_str (pv 0) pe_str))), ?_⟩
    walk_at "rd"
    rw [leA c "0" 48 (by decide +kernel)]
    refine r_ite (fun h1 => ?_) (fun h1 => ?_) <;> walk_at "rd"
    · rw [leB c "9" 57 (by decide +kernel)]
      have e : isDigit c = decide (c ≤ 57) := by simp [isDigit, h1]
      rw [e] at k; exact k
    · have e : isDigit c = false := by simp [isDigit, h1]
      rw [e] at k; exact k
abbrev s_in_name : Stmt := top 11
theorem sc_in_name : FnScope ["char"] ["char"] (defScope s_in_name) := ⟨rfl, rfl, rfl, by decide +kernel, rfl, by decide +kernel, by decide +kernel⟩
theorem cal_in_name (dx : DefAt K mg "in_name" s_in_name) (G_is_letter : Cal P w K mg base 1 "is_letter" ["char"] (spCh isLetter)) (G_is_digit : Cal P w K mg base 1 "is_digit" ["char"] (spCh isDigit)) :
    Cal P w K mg base 2 "in_name" ["char"] (spCh inName) := by
  refine cal_mk dx sc_in_name (fun _ _ _ _ _ _ us hl => match us, hl with | [_], _ => rfl) (fun vs H Q E h => ?_) (fun f cdv A outer s H vs Q E hr h => ?_)
  · obtain ⟨c, rfl, _⟩ := h
    rfl
  · obtain ⟨c, rfl, k⟩ := h
    have tk : L2N.Takes (cxOf (L2N.CX P w) P w K mg base ["char"] "in_name" (defScope s_in_name) f cdv A outer s H E) (fun cls d _ H => E cls d H) := L2N.takes_of rfl rfl rfl rfl
    refine ⟨_, (pss_one (ps_ret (pe_or (pe_cal G_is_letter (hr.mono (by first | decide | omega)) tk (pa_cons (pv 0) pa_nil)) (pe_or (pe_cal G_is_digit (hr.mono (by first | decide | omega)) tk (pa_cons (pv 0) pa_nil)) (pe_one (pe_cmpR op_eq (pv 0) pe_str (nomark _))))))), ?_⟩
    walk_at "rd"
    refine ⟨c, rfl, ?_⟩
    walk_at "rd"
    refine r_ite (fun h1 => ?_) (fun h1 => ?_) <;> walk_at "rd"
    · have e : inName c = true := by simp [inName, h1]
      rw [e] at k; exact k
    · refine ⟨c, rfl, ?_⟩
      walk_at "rd"
      refine r_ite (fun h2 => ?_) (fun h2 => ?_) <;> walk_at "rd"
      · have e : inName c = true := by simp [inName, h2]
        rw [e] at k; exact k
      · rw [eqA c "_" 95 (by decide +kernel)]
        have e : inName c = decide (c = 95) := by simp [inName, h1, h2]
        rw [e] at k; exact k
abbrev s_run_end : Stmt := top 12
theorem sc_run_end : FnScope ["text", "at"] ["text", "at"] (defScope s_run_end) := ⟨rfl, rfl, rfl, by decide +kernel, rfl, by decide +kernel, by decide +kernel⟩
theorem cal_run_end (dx : DefAt K mg "run_end" s_run_end) (B : Bl mg) (G_in_name : Cal P w K mg base 2 "in_name" ["char"] (spCh inName)) : Cal P w K mg base 3 "run_end" ["text", "at"] (spSpan inName) := by
  refine cal_mk dx sc_run_end (fun _ _ _ _ _ _ us hl => match us, hl with | [_, _], _ => rfl) (fun vs H Q E h => ?_) (fun f cdv A outer s H vs Q E hr h => ?_)
  · obtain ⟨z, n, rfl, _⟩ := h
    rfl
  · obtain ⟨z, n, rfl, hz, hn, k⟩ := h
    have tk : L2N.Takes (cxOf (L2N.CX P w) P w K mg base ["text", "at"] "run_end" (defScope s_run_end) f cdv A outer s H E) (fun cls d _ H => E cls d H) := L2N.takes_of rfl rfl rfl rfl
    refine ⟨_, (pss_cons (ps_while (passes_of rfl) (PW.pt (pw_and (pt_cmpR op_lt (pv 1) (pe_callB call_len_str (by rfl) B.len PySem.boot_len (pa_cons (pv 0) pa_nil)) (nomark _)) (pw_and1 (pt_val (pe_cal G_in_name (hr.mono (by first | decide | omega)) tk (pa_cons (pe_item_str (pv 0) (pv 1) (fun _ _ => rfl)) pa_nil))))))
      (pss_one (ps_set (i := 1) sc_run_end.nd rfl (Or.inl rfl) (pe_op op_add (pv 1) pe_int))))
      (pss_one (ps_ret (pv 1)))), ?_⟩
    walk_at "rd"
    refine ⟨fun m σ' H' => ∃ i : Nat, σ' = [some (.str z), some (.int (i : Int))] ∧ H = H' ∧ i ≤ z.length ∧ spanEnd inName (lS z) i = spanEnd inName (lS z) n ∧ m = z.length - i, ⟨_, n, rfl, rfl, hn, rfl, rfl⟩, ?_⟩
    rintro m σ' H' ⟨i, rfl, rfl, h2, h3, rfl⟩
    walk_at "rd"
    refine r_ite (fun h1 => ?_) (fun h1 => ?_) <;> walk_at "rd"
    · have hi : i < (lS z).length := by have := of_decide_eq_true h1; show i < z.cps.toList.length; rw [Array.length_toList]; show i < z.length; omega
      refine r_ch (List.getElem?_eq_getElem hi) (by omega) ?_
      walk_at "rd"
      refine ⟨_, rfl, ?_⟩
      walk_at "rd"
      refine r_ite (fun h4 => ?_) (fun h4 => ?_)
      · refine ⟨fun σ' H' => ∃ m', m' < z.length - i ∧ ∃ i : Nat, σ' = [some (.str z), some (.int (i : Int))] ∧ H = H' ∧ i ≤ z.length ∧ spanEnd inName (lS z) i = spanEnd inName (lS z) n ∧ m' = z.length - i, fun _ _ h => h, ?_⟩
        walk_at "rd"
        refine ⟨z.length - (i + 1), ?_, i + 1, rfl, rfl, ?_, ?_, rfl⟩
        · have := of_decide_eq_true h1; omega
        · have := of_decide_eq_true h1; omega
        · rw [spanEnd_go (List.getElem?_eq_getElem hi) h4, h3]
      · walk_at "rd"
        rw [spanEnd_stop (List.getElem?_eq_getElem hi) h4] at h3
        rw [h3]; exact k
    · have hi : (lS z).length ≤ i := by have := of_decide_eq_false h1; show z.cps.toList.length ≤ i; rw [Array.length_toList]; show z.length ≤ i; omega
      rw [spanEnd_end hi] at h3
      rw [h3]; exact k
abbrev s_digits_end : Stmt := top 13
theorem sc_digits_end : FnScope ["text", "at"] ["text", "at"] (defScope s_digits_end) := ⟨rfl, rfl, rfl, by decide +kernel, rfl, by decide +kernel, by decide +kernel⟩
theorem cal_digits_end (dx : DefAt K mg "digits_end" s_digits_end) (B : Bl mg) (G_is_digit : Cal P w K mg base 1 "is_digit" ["char"] (spCh isDigit)) : Cal P w K mg base 2 "digits_end" ["text", "at"] (spSpan isDigit) := by
  refine cal_mk dx sc_digits_end (fun _ _ _ _ _ _ us hl => match us, hl with | [_, _], _ => rfl) (fun vs H Q E h => ?_) (fun f cdv A outer s H vs Q E hr h => ?_)
  · obtain ⟨z, n, rfl, _⟩ := h
    rfl
  · obtain ⟨z, n, rfl, hz, hn, k⟩ := h
    have tk : L2N.Takes (cxOf (L2N.CX P w) P w K mg base ["text", "at"] "digits_end" (defScope s_digits_end) f cdv A outer s H E) (fun cls d _ H => E cls d H) := L2N.takes_of rfl rfl rfl rfl
    refine ⟨_, (pss_cons (ps_while (passes_of rfl) (PW.pt (pw_and (pt_cmpR op_lt (pv 1) (pe_callB call_len_str (by rfl) B.len PySem.boot_len (pa_cons (pv 0) pa_nil)) (nomark _)) (pw_and1 (pt_val (pe_cal G_is_digit (hr.mono (by first | decide | omega)) tk (pa_cons (pe_item_str (pv 0) (pv 1) (fun _ _ => rfl)) pa_nil))))))
      (pss_one (ps_set (i := 1) sc_digits_end.nd rfl (Or.inl rfl) (pe_op op_add (pv 1) pe_int))))
      (pss_one (ps_ret (pv 1)))), ?_⟩
    walk_at "rd"
    refine ⟨fun m σ' H' => ∃ i : Nat, σ' = [some (.str z), some (.int (i : Int))] ∧ H = H' ∧ i ≤ z.length ∧ spanEnd isDigit (lS z) i = spanEnd isDigit (lS z) n ∧ m = z.length - i, ⟨_, n, rfl, rfl, hn, rfl, rfl⟩, ?_⟩
    rintro m σ' H' ⟨i, rfl, rfl, h2, h3, rfl⟩
    walk_at "rd"
    refine r_ite (fun h1 => ?_) (fun h1 => ?_) <;> walk_at "rd"
    · have hi : i < (lS z).length := by have := of_decide_eq_true h1; show i < z.cps.toList.length; rw [Array.length_toList]; show i < z.length; omega
      refine r_ch (List.getElem?_eq_getElem hi) (by omega) ?_
      walk_at "rd"
      refine ⟨_, rfl, ?_⟩
      walk_at "rd"
      refine r_ite (fun h4 => ?_) (fun h4 => ?_)
      · refine ⟨fun σ' H' => ∃ m', m' < z.length - i ∧ ∃ i : Nat, σ' = [some (.str z), some (.int (i : Int))] ∧ H = H' ∧ i ≤ z.length ∧ spanEnd isDigit (lS z) i = spanEnd isDigit (lS z) n ∧ m' = z.length - i, fun _ _ h => h, ?_⟩
        walk_at "rd"
        refine ⟨z.length - (i + 1), ?_, i + 1, rfl, rfl, ?_, ?_, rfl⟩
        · have := of_decide_eq_true h1; omega
        · have := of_decide_eq_true h1; omega
        · rw [spanEnd_go (List.getElem?_eq_getElem hi) h4, h3]
      · walk_at "rd"
        rw [spanEnd_stop (List.getElem?_eq_getElem hi) h4] at h3
        rw [h3]; exact k
    · have hi : (lS z).length ≤ i := by have := of_decide_eq_false h1; show z.cps.toList.length ≤ i; rw [Array.length_toList]; show z.length ≤ i; omega
      rw [spanEnd_end hi] at h3
      rw [h3]; exact k
abbrev s_comment_end : Stmt := top 14
theorem sc_comment_end : FnScope ["text", "at"] ["text", "at"] (defScope s_comment_end) := ⟨rfl, rfl, rfl, by decide +kernel, rfl, by decide +kernel, by decide +kernel⟩
theorem cal_comment_end (dx : DefAt K mg "comment_end" s_comment_end) (B : Bl mg)  : Cal P w K mg base 1 "comment_end" ["text", "at"] (spSpan notNl) := by
  refine cal_mk dx sc_comment_end (fun _ _ _ _ _ _ us hl => match us, hl with | [_, _], _ => rfl) (fun vs H Q E h => ?_) (fun f cdv A outer s H vs Q E hr h => ?_)
  · obtain ⟨z, n, rfl, _⟩ := h
    rfl
  · obtain ⟨z, n, rfl, hz, hn, k⟩ := h
    have tk : L2N.Takes (cxOf (L2N.CX P w) P w K mg base ["text", "at"] "comment_end" (defScope s_comment_end) f cdv A outer s H E) (fun cls d _ H => E cls d H) := L2N.takes_of rfl rfl rfl rfl
    refine ⟨_, (pss_cons (ps_while (passes_of rfl) (PW.pt (pw_and (pt_cmpR op_lt (pv 1) (pe_callB call_len_str (by rfl) B.len PySem.boot_len (pa_cons (pv 0) pa_nil)) (nomark _)) (pw_and1 (pt_cmpR op_ne (pe_item_str (pv 0) (pv 1) (fun _ _ => rfl)) pe_str (nomark _)))))
      (pss_one (ps_set (i := 1) sc_comment_end.nd rfl (Or.inl rfl) (pe_op op_add (pv 1) pe_int))))
      (pss_one (ps_ret (pv 1)))), ?_⟩
    walk_at "rd"
    refine ⟨fun m σ' H' => ∃ i : Nat, σ' = [some (.str z), some (.int (i : Int))] ∧ H = H' ∧ i ≤ z.length ∧ spanEnd notNl (lS z) i = spanEnd notNl (lS z) n ∧ m = z.length - i, ⟨_, n, rfl, rfl, hn, rfl, rfl⟩, ?_⟩
    rintro m σ' H' ⟨i, rfl, rfl, h2, h3, rfl⟩
    walk_at "rd"
    refine r_ite (fun h1 => ?_) (fun h1 => ?_) <;> walk_at "rd"
    · have hi : i < (lS z).length := by have := of_decide_eq_true h1; show i < z.cps.toList.length; rw [Array.length_toList]; show i < z.length; omega
      refine r_ch (List.getElem?_eq_getElem hi) (by omega) ?_
      walk_at "rd"
      rw [show (!decide ((⟨#[(lS z)[i]]⟩ : Str) = "\n")) = notNl (lS z)[i] from congrArg not (eqA _ "\n" 10 (by decide +kernel))]
      refine r_ite (fun h4 => ?_) (fun h4 => ?_)
      · refine ⟨fun σ' H' => ∃ m', m' < z.length - i ∧ ∃ i : Nat, σ' = [some (.str z), some (.int (i : Int))] ∧ H = H' ∧ i ≤ z.length ∧ spanEnd notNl (lS z) i = spanEnd notNl (lS z) n ∧ m' = z.length - i, fun _ _ h => h, ?_⟩
        walk_at "rd"
        refine ⟨z.length - (i + 1), ?_, i + 1, rfl, rfl, ?_, ?_, rfl⟩
        · have := of_decide_eq_true h1; omega
        · have := of_decide_eq_true h1; omega
        · rw [spanEnd_go (List.getElem?_eq_getElem hi) h4, h3]
      · walk_at "rd"
        rw [spanEnd_stop (List.getElem?_eq_getElem hi) h4] at h3
        rw [h3]; exact k
    · have hi : (lS z).length ≤ i := by have := of_decide_eq_false h1; show z.cps.toList.length ≤ i; rw [Array.length_toList]; show z.length ≤ i; omega
      rw [spanEnd_end hi] at h3
      rw [h3]; exact k
abbrev s_read_word : Stmt := top 15
theorem sc_read_word : FnScope ["text", "at", "end", "word"] ["text", "at"] (defScope s_read_word) := ⟨rfl, rfl, rfl, by decide +kernel, rfl, by decide +kernel, by decide +kernel⟩
theorem cal_read_word {DM : Addr} (dx : DefAt K mg "read_word" s_read_word) (B : Bl mg) (L : LexC K mg) (XMalformed : ExC1 P w K mg base "Malformed" DM "at" CMal) (G_run_end : Cal P w K mg base 3 "run_end" ["text", "at"] (spSpan inName)) :
    Cal P w K mg base 4 "read_word" ["text", "at"] (spTok DM (fun _ => true) wordTok) := by
  refine cal_mk dx sc_read_word (fun _ _ _ _ _ _ us hl => match us, hl with | [_, _], _ => rfl) (fun vs H Q E h => ?_) (fun f cdv A outer s H vs Q E hr h => ?_)
  · obtain ⟨z, n, rfl, _⟩ := h
    rfl
  · obtain ⟨z, n, rfl, hz, hn, hc, k⟩ := h
    obtain ⟨aR, gRES, hRES⟩ := L.res
    have tk : L2N.Takes (cxOf (L2N.CX P w) P w K mg base ["text", "at", "end", "word"] "read_word" (defScope s_read_word) f cdv A outer s H E) (fun cls d _ H => E cls d H) := L2N.takes_of rfl rfl rfl rfl
    refine ⟨_, (pss_cons (ps_set (i := 2) sc_read_word.nd rfl (Or.inl rfl) (pe_cal G_run_end (hr.mono (by first | decide | omega)) tk (pa_cons (pv 0) (pa_cons (pv 1) pa_nil))))
      (pss_cons (ps_set (i := 3) sc_read_word.nd rfl (Or.inl rfl) (pe_slice sl_str (pv 0) (po_some (pv 1)) (po_some (pv 2))))
      (pss_cons (ps_if (pt_cmpR op_in_seq (pv 3) (pe_gref gRES) (by rfl))
      (pss_one (ps_ret (pe_tup (pa_cons (pe_tup (pa_cons pe_str (pa_cons (pv 3) (pa_cons (pv 1) pa_nil)))) (pa_cons (pv 2) pa_nil)))))
      pss_nil)
      (pss_cons (ps_if (pt_cmpR op_gt (pe_callB call_len_str (by rfl) B.len PySem.boot_len (pa_cons (pv 3) pa_nil)) (pe_gint L.gMN) (nomark _))
      (pss_one (ps_raiseX rfl tk (pmk_x1 XMalformed (hr.mono (by decide)) (pa_cons (pv 1) pa_nil))))
      pss_nil)
      (pss_one (ps_ret (pe_tup (pa_cons (pe_tup (pa_cons pe_str (pa_cons (pv 3) (pa_cons (pv 1) pa_nil)))) (pa_cons (pv 2) pa_nil))))))))), ?_⟩
    walk_at "rd"
    refine ⟨z, n, rfl, hz, by omega, ?_⟩
    walk_at "rd"
    refine r_slS (by rw [sizeLine_eq]; omega) ?_
    rw [cut_span inName (by omega)]
    walk_at "rd"
    refine ⟨aR, RES.map V.str, rfl, .inr (hRES _), rfl, flat_strs _, ?_⟩
    walk_at "rd"
    rw [inV_str]
    have hse : spanEnd inName (lS z) n = n + (((lS z).drop n).takeWhile inName).length := rfl
    unfold wordTok at k
    generalize hw : ((lS z).drop n).takeWhile inName = wd at *
    have hlw : (uS wd).length = wd.length := rfl
    rw [hse]
    have hwl : wd.length ≤ 20000 := by
      rw [← hw]
      have h1 := (List.takeWhile_sublist (l := (lS z).drop n) inName).length_le
      rw [List.length_drop] at h1
      have h2 : (lS z).length = z.length := Array.length_toList
      omega
    refine r_ite (fun h1 => ?_) (fun h1 => ?_)
    · have h1' : uS wd ∈ RES := of_decide_eq_true h1
      rw [if_pos h1'] at k
      walk_at "rd"
      intro p hp
      walk_at "rd"
      intro q hq
      have pq : p ≠ q := fun e => by rw [e] at hq; rw [upd_same] at hq; cases hq
      refine k q _ _ (fun b o hb => ?_) upd_same (.tup (a := p) (xs := [V.str "word", V.str (uS wd), V.int n]) ?_ (.cons (.str _) (.cons (.str _) (.cons (.int _) .nil))))
      · exact Same.new hq _ _ (Same.new hp _ _ hb)
      · rw [upd_ne pq, upd_same]
    · have h1' : ¬ uS wd ∈ RES := of_decide_eq_false h1
      rw [if_neg h1'] at k
      walk_at "rd"
      rw [hlw]
      refine r_ite (fun h2 => ?_) (fun h2 => ?_)
      · have h2' : wd.length > 16 := by have := of_decide_eq_true h2; omega
        rw [if_pos h2'] at k
        walk_at "rd"
        refine r_mkx ⟨_, rfl, log_ok (by omega)⟩ fun d H' hd hs he => k d H' hs he
      · have h2' : ¬ wd.length > 16 := by have := of_decide_eq_false h2; omega
        rw [if_neg h2'] at k
        walk_at "rd"
        intro p hp
        walk_at "rd"
        intro q hq
        have pq : p ≠ q := fun e => by rw [e] at hq; rw [upd_same] at hq; cases hq
        refine k q _ _ (fun b o hb => ?_) upd_same (.tup (a := p) (xs := [V.str "name", V.str (uS wd), V.int n]) ?_ (.cons (.str _) (.cons (.str _) (.cons (.int _) .nil))))
        · exact Same.new hq _ _ (Same.new hp _ _ hb)
        · rw [upd_ne pq, upd_same]
abbrev s_read_sign : Stmt := top 17
theorem sc_read_sign : FnScope ["text", "at", "sign"] ["text", "at"] (defScope s_read_sign) := ⟨rfl, rfl, rfl, by decide +kernel, rfl, by decide +kernel, by decide +kernel⟩
theorem cal_read_sign {DM : Addr} (dx : DefAt K mg "read_sign" s_read_sign) (B : Bl mg) (L : LexC K mg) (XMalformed : ExC1 P w K mg base "Malformed" DM "at" CMal) :
    Cal P w K mg base 3 "read_sign" ["text", "at"] (spTok DM (fun _ => true) signTok) := by
  refine cal_mk dx sc_read_sign (fun _ _ _ _ _ _ us hl => match us, hl with | [_, _], _ => rfl) (fun vs H Q E h => ?_) (fun f cdv A outer s H vs Q E hr h => ?_)
  · obtain ⟨z, n, rfl, _⟩ := h
    rfl
  · obtain ⟨z, n, rfl, hz, hn, hc, k⟩ := h
    obtain ⟨aS, gSIG, hSIG⟩ := L.sig
    have tk : L2N.Takes (cxOf (L2N.CX P w) P w K mg base ["text", "at", "sign"] "read_sign" (defScope s_read_sign) f cdv A outer s H E) (fun cls d _ H => E cls d H) := L2N.takes_of rfl rfl rfl rfl
    refine ⟨_, (pss_cons (ps_for (passes_of rfl) rfl (pi_tup (pe_gref gSIG)) (pg_name (i := 2) sc_read_sign.nd rfl (Or.inl rfl))
      (pss_one (ps_if (pt_val (pe_bm PySem.F.plainAttrs_str PySem.F.slot_str_startswith PySem.F.type_str_startswith mt_startswith3 (pv 0) (pa_cons (pv 2) (pa_cons (pv 1) pa_nil))))
      (pss_one (ps_ret (pe_tup (pa_cons (pe_tup (pa_cons pe_str (pa_cons (pv 2) (pa_cons (pv 1) pa_nil)))) (pa_cons (pe_op op_add (pv 1) (pe_callB call_len_str (by rfl) B.len PySem.boot_len (pa_cons (pv 2) pa_nil))) pa_nil)))))
      pss_nil)))
      (pss_one (ps_raiseX rfl tk (pmk_x1 XMalformed (hr.mono (by decide)) (pa_cons (pv 1) pa_nil))))), ?_⟩
    walk_at "rd"
    refine ⟨aS, rfl, ⟨_, hSIG _⟩, for_tup (K := K) (a := aS) (xs := SIG.map V.str) (fun i σ' H' => H = H' ∧ (∃ v, σ' = [some (.str z), some (.int (n : Int)), v]) ∧ i ≤ SIG.length ∧ ∀ g ∈ SIG.take i, (lS g).isPrefixOf ((lS z).drop n) = false)
      ⟨rfl, ⟨none, rfl⟩, Nat.zero_le _, fun g hg => by simp at hg⟩ (fun i σ' H' _ _ => hSIG _) ?_ ?_⟩
    · rintro i x σ' H' hi ⟨rfl, ⟨v, rfl⟩, hle, hpre⟩
      rw [List.getElem?_map] at hi
      obtain ⟨g, hg, rfl⟩ := Option.map_eq_some_iff.mp hi
      walk_at "rd"
      refine ⟨rfl, ?_⟩
      walk_at "rd"
      refine ⟨_, _, _, rfl, rfl, ?_⟩
      rw [starts_iff (by omega)]
      walk_at "rd"
      obtain ⟨hlt, hg2⟩ := List.getElem?_eq_some_iff.mp hg
      refine r_ite (fun h1 => ?_) (fun h1 => ?_)
      · have hf : SIG.find? (fun g => (lS g).isPrefixOf ((lS z).drop n)) = some g := by
          rw [List.find?_eq_some_iff_getElem]
          refine ⟨h1, i, hlt, hg2, fun j hj => ?_⟩
          have := hpre SIG[j] (List.mem_take_iff_getElem.mpr ⟨j, by omega, rfl⟩)
          rw [this] <;> rfl
        have hs : signTok ((lS z).drop n) = some (.sign g, (lS g).length) := by unfold signTok; rw [hf]
        rw [hs] at k
        walk_at "rd"
        intro p hp
        walk_at "rd"
        have hgl : g.length ≤ 2 := by
          have : ∀ g ∈ SIG, g.length ≤ 2 := by decide +kernel
          exact this g (List.mem_of_getElem? hg)
        refine r_sz (by omega) ?_
        walk_at "rd"
        intro q hq
        have pq : p ≠ q := fun e => by rw [e] at hq; rw [upd_same] at hq; cases hq
        refine k q _ _ (fun b o hb => ?_) upd_same (.tup (a := p) (xs := [V.str "sign", V.str g, V.int n]) ?_ (.cons (.str _) (.cons (.str _) (.cons (.int _) .nil))))
        · exact Same.new hq _ _ (Same.new hp _ _ hb)
        · rw [upd_ne pq, upd_same]
      · walk_at "rd"
        refine ⟨rfl, ⟨_, rfl⟩, by omega, fun g' hg' => ?_⟩
        rw [List.take_succ, hg] at hg'
        rcases List.mem_append.mp hg' with h | h
        · exact hpre g' h
        · simp at h; subst h; exact h1
    · rintro σ' H' ⟨rfl, ⟨v, rfl⟩, hle, hpre⟩
      have hs : signTok ((lS z).drop n) = none := by
        have : SIG.find? (fun g => (lS g).isPrefixOf ((lS z).drop n)) = none := by
          rw [List.find?_eq_none]
          intro g hg
          rw [List.length_map, List.take_length] at hpre
          rw [hpre g hg]; decide
        unfold signTok; rw [this]
      rw [hs] at k
      walk_at "rd"
      exact r_mkx ⟨_, rfl, log_ok (by omega)⟩ fun d H' hd hs he => k d H' hs he
abbrev s_read_number : Stmt := top 16
theorem sc_read_number : FnScope ["text", "at", "end", "whole", "part", "last", "worth", "_"] ["text", "at"] (defScope s_read_number) := ⟨rfl, rfl, rfl, by decide +kernel, rfl, by decide +kernel, by decide +kernel⟩
theorem cal_read_number {DM : Addr} (dx : DefAt K mg "read_number" s_read_number) (B : Bl mg) (XMalformed : ExC1 P w K mg base "Malformed" DM "at" CMal)
    (G_digits_end : Cal P w K mg base 2 "digits_end" ["text", "at"] (spSpan isDigit)) (G_is_digit : Cal P w K mg base 1 "is_digit" ["char"] (spCh isDigit)) (G_in_name : Cal P w K mg base 2 "in_name" ["char"] (spCh inName)) :
    Cal P w K mg base 4 "read_number" ["text", "at"] (spTok DM isDigit numTok) := by
  refine cal_mk dx sc_read_number (fun _ _ _ _ _ _ us hl => match us, hl with | [_, _], _ => rfl) (fun vs H Q E h => ?_) (fun f cdv A outer s H vs Q E hr h => ?_)
  · obtain ⟨z, n, rfl, _⟩ := h
    rfl
  · obtain ⟨z, n, rfl, hz, hn, hc, k⟩ := h
    have tk : L2N.Takes (cxOf (L2N.CX P w) P w K mg base ["text", "at", "end", "whole", "part", "last", "worth", "_"] "read_number" (defScope s_read_number) f cdv A outer s H E) (fun cls d _ H => E cls d H) := L2N.takes_of rfl rfl rfl rfl
    refine ⟨_, (pss_cons (ps_set (i := 2) sc_read_number.nd rfl (Or.inl rfl) (pe_cal G_digits_end (hr.mono (by first | decide | omega)) tk (pa_cons (pv 0) (pa_cons (pv 1) pa_nil))))
      (pss_cons (ps_set (i := 3) sc_read_number.nd rfl (Or.inl rfl) (pe_slice sl_str (pv 0) (po_some (pv 1)) (po_some (pv 2))))
      (pss_cons (ps_set (i := 4) sc_read_number.nd rfl (Or.inl rfl) pe_str)
      (C8.pss_cut (ps_if (PW.pt (pw_and (pt_cmpR op_lt (pe_op op_add (pv 2) pe_int) (pe_callB call_len_str (by rfl) B.len PySem.boot_len (pa_cons (pv 0) pa_nil)) (nomark _)) (pw_and (pt_cmpR op_eq (pe_item_str (pv 0) (pv 2) (fun _ _ => rfl)) pe_str (nomark _)) (pw_and1 (pt_val (pe_cal G_is_digit (hr.mono (by first | decide | omega)) tk (pa_cons (pe_item_str (pv 0) (pe_op op_add (pv 2) pe_int) (fun _ _ => rfl)) pa_nil)))))))
      (pss_cons (ps_set (i := 5) sc_read_number.nd rfl (Or.inl rfl) (pe_cal G_digits_end (hr.mono (by first | decide | omega)) tk (pa_cons (pv 0) (pa_cons (pe_op op_add (pv 2) pe_int) pa_nil))))
      (pss_cons (ps_set (i := 4) sc_read_number.nd rfl (Or.inl rfl) (pe_slice sl_str (pv 0) (po_some (pe_op op_add (pv 2) pe_int)) (po_some (pv 5))))
      (pss_one (ps_set (i := 2) sc_read_number.nd rfl (Or.inl rfl) (pv 5)))))
      pss_nil)
      (C8.pss_cut (ps_if (PW.pt (pw_or (pt_cmpR op_gt (pe_callB call_len_str (by rfl) B.len PySem.boot_len (pa_cons (pv 3) pa_nil)) pe_int (nomark _)) (pw_or (pt_cmpR op_gt (pe_callB call_len_str (by rfl) B.len PySem.boot_len (pa_cons (pv 4) pa_nil)) pe_int (nomark _)) (pw_or1 (PW.pt (pw_and (pt_cmpR op_lt (pv 2) (pe_callB call_len_str (by rfl) B.len PySem.boot_len (pa_cons (pv 0) pa_nil)) (nomark _)) (pw_and1 (pt_val (pe_cal G_in_name (hr.mono (by first | decide | omega)) tk (pa_cons (pe_item_str (pv 0) (pv 2) (fun _ _ => rfl)) pa_nil))))))))))
      (pss_one (ps_raiseX rfl tk (pmk_x1 XMalformed (hr.mono (by decide)) (pa_cons (pv 1) pa_nil))))
      pss_nil)
      (pss_cons (ps_set (i := 6) sc_read_number.nd rfl (Or.inl rfl) pe_int)
      (pss_cons (ps_for (passes_of rfl) rfl (pi_range1 (by rfl) B.range (pa_cons (pe_callB call_len_str (by rfl) B.len PySem.boot_len (pa_cons (pv 4) pa_nil)) pa_nil)) (pg_name (i := 7) sc_read_number.nd rfl (Or.inl rfl))
      (pss_one (ps_set (i := 6) sc_read_number.nd rfl (Or.inl rfl) (pe_op op_mulW (pv 6) pe_int))))
      (pss_one (ps_ret (pe_tup (pa_cons (pe_tup (pa_cons pe_str (pa_cons (pe_tup (pa_cons (pe_callTy call_int_str (by rfl) B.int (by decide +kernel) (pa_cons (pe_op op_add_str (pv 3) (pv 4)) pa_nil)) (pa_cons (pv 6) pa_nil))) (pa_cons (pv 1) pa_nil)))) (pa_cons (pv 2) pa_nil)))))))))))), ?_⟩
    have hl : (lS z).length = z.length := Array.length_toList
    walk_at "rd"
    refine ⟨z, n, rfl, hz, by omega, ?_⟩
    walk_at "rd"
    refine r_slS (by rw [sizeLine_eq]; omega) ?_
    rw [cut_span isDigit (by omega)]
    walk_at "rd"
    have hse : spanEnd isDigit (lS z) n = n + (((lS z).drop n).takeWhile isDigit).length := rfl
    rw [hse]
    unfold numTok numLen at k
    rw [List.drop_drop] at k
    generalize hd : ((lS z).drop n).takeWhile isDigit = ds at *
    have hdl : n + ds.length ≤ z.length := by
      have h1 := (List.takeWhile_sublist (l := (lS z).drop n) isDigit).length_le
      rw [List.length_drop, hd] at h1
      omega
    have hdd : ∀ c ∈ ds, isDigit c = true := by rw [← hd]; exact fun c hc => List.all_eq_true.mp List.all_takeWhile c hc
    generalize hp : partOf ((lS z).drop (n + ds.length)) = pt at *
    have hpd : ∀ c ∈ pt, isDigit c = true := by rw [← hp]; exact partOf_digits _
    generalize hk : (ds.length + if pt = [] then 0 else 1 + pt.length) = kk at *
    refine ⟨fun σ' H' => H = H' ∧ n + kk ≤ z.length ∧ pt.length ≤ 20000 ∧ ∃ v, σ' = [some (.str z), some (.int (n : Int)), some (.int ((n + kk : Nat) : Int)), some (.str (uS ds)), some (.str (uS pt)), v, none, none], ?_, ?_⟩
    · -- the digits behind a point
      have no : ¬ ((lS z)[n + ds.length]? = some 46 ∧ ∃ d, (lS z)[n + ds.length + 1]? = some d ∧ isDigit d = true) → pt = [] := fun h => by rw [← hp]; exact partOf_no h
      have nofin : pt = [] → H = H ∧ n + kk ≤ z.length ∧ pt.length ≤ 20000 ∧ ∃ v, [some (V.str z), some (V.int (n : Int)), some (V.int ((n + ds.length : Nat) : Int)), some (V.str (uS ds)), some (V.str ""), none, none, none] = [some (.str z), some (.int (n : Int)), some (.int ((n + kk : Nat) : Int)), some (.str (uS ds)), some (.str (uS pt)), v, none, none] := fun h => by
        subst h
        rw [if_pos rfl] at hk
        rw [← hk]
        exact ⟨rfl, by omega, by simp, _, rfl⟩
      walk_at "rd"
      refine r_ite (fun h1 => ?_) (fun h1 => ?_) <;> walk_at "rd"
      · have h1' : n + ds.length + 1 < z.length := by have := of_decide_eq_true h1; omega
        refine r_ch (List.getElem?_eq_getElem (by rw [show z.cps.toList = lS z from rfl]; omega)) (by omega) ?_
        walk_at "rd"
        rw [show decide ((⟨#[z.cps.toList[n + ds.length]'(by rw [show z.cps.toList = lS z from rfl]; omega)]⟩ : Str) = ".") = _ from eqA _ "." 46 (by decide +kernel)]
        refine r_ite (fun h2 => ?_) (fun h2 => ?_)
        · have h2' := of_decide_eq_true h2
          have g1 : (lS z)[n + ds.length]? = some 46 := by rw [List.getElem?_eq_getElem (by omega)]; exact congrArg some h2'
          walk_at "rd"
          have e1 : ((n + ds.length : Nat) : Int) + 1 = ((n + ds.length + 1 : Nat) : Int) := by omega
          rw [e1]
          refine r_ch (List.getElem?_eq_getElem (by rw [show z.cps.toList = lS z from rfl]; omega)) (by omega) ?_
          walk_at "rd"
          refine ⟨_, rfl, ?_⟩
          walk_at "rd"
          have g2 : (lS z)[n + ds.length + 1]? = some ((lS z)[n + ds.length + 1]'(by omega)) := List.getElem?_eq_getElem (by omega)
          refine r_ite (fun h3 => ?_) (fun h3 => ?_)
          · walk_at "rd"
            rw [e1]
            refine ⟨z, n + ds.length + 1, rfl, hz, by omega, ?_⟩
            walk_at "rd"
            rw [e1]
            refine r_slS (by rw [sizeLine_eq]; omega) ?_
            rw [cut_span isDigit (by omega)]
            have e2 : ((lS z).drop (n + ds.length + 1)).takeWhile isDigit = pt := by rw [← hp, partOf_yes g1 g2 h3]
            have e3 : pt ≠ [] := by rw [← hp]; exact partOf_ne g1 g2 h3
            rw [if_neg e3] at hk
            have e4 : spanEnd isDigit (lS z) (n + ds.length + 1) = n + kk := by unfold spanEnd; rw [e2]; omega
            have e5 := spanEnd_le (p := isDigit) (l := lS z) (n := n + ds.length + 1) (by omega)
            rw [e4, e2]
            walk_at "rd"
            exact ⟨rfl, by omega, by omega, _, rfl⟩
          · walk_at "rd"
            refine nofin (no ?_)
            rintro ⟨_, d, hd1, hd2⟩
            rw [g2] at hd1
            cases hd1
            have h3' : isDigit ((lS z)[n + ds.length + 1]'(by omega)) = false := h3
            rw [h3'] at hd2
            cases hd2
        · walk_at "rd"
          refine nofin (no ?_)
          rintro ⟨g1, _⟩
          rw [List.getElem?_eq_getElem (by omega)] at g1
          have := of_decide_eq_false h2
          exact this (Option.some.inj g1)
      · refine nofin (no ?_)
        rintro ⟨_, d, hd1, _⟩
        have := (List.getElem?_eq_some_iff.mp hd1).1
        have := of_decide_eq_false h1
        omega
    · -- the rest
      rintro σ' H' ⟨rfl, hkz, hpz, v, rfl⟩
      have hdz : ds.length ≤ 20000 := by omega
      have lu : ∀ l : List Nat, (uS l).length = l.length := fun _ => rfl
      have bad : (ds.length > 6 ∨ pt.length > 4 ∨ nextIn ((lS z).drop (n + kk)) = true) → tRaiseX (fun cls d _ H => E cls d H) (tMkO DM (spX1 DM "at" CMal) [] (tCons (tVar 1) tNil)) { nx := fun _ _ => True, rt := Q } [some (V.str z), some (V.int (n : Int)), some (V.int ((n + kk : Nat) : Int)), some (V.str (uS ds)), some (V.str (uS pt)), v, none, none] H := fun hb => by
        rw [List.drop_drop, if_pos hb] at k
        walk_at "rd"
        exact r_mkx ⟨_, rfl, log_ok (by omega)⟩ fun d H' hd hs he => k d H' hs he
      have good : ¬ (ds.length > 6 ∨ pt.length > 4 ∨ nextIn ((lS z).drop (n + kk)) = true) → ∀ p v H', Same H H' → H' p = some (.tup [v, .int ((n + kk : Nat) : Int)]) → Tp H' v (tokD (.num (digV (ds ++ pt)) (10 ^ pt.length), n)) → Q (.ref p) H' := fun hb => by
        rw [List.drop_drop, if_neg hb] at k
        exact k
      have l1 : (uS ds).length = ds.length := rfl
      have l2 : (uS pt).length = pt.length := rfl
      have l3 : (uS (ds ++ pt)).length = ds.length + pt.length := List.length_append
      have fin : ¬ (ds.length > 6 ∨ pt.length > 4 ∨ nextIn ((lS z).drop (n + kk)) = true) → ds.length ≤ 6 ∧ pt.length ≤ 4 := fun h => by
        constructor
        · exact Nat.le_of_not_lt fun z => h (.inl z)
        · exact Nat.le_of_not_lt fun z => h (.inr (.inl z))
      refine ⟨fun σ' H' => H = H' ∧ ¬ (ds.length > 6 ∨ pt.length > 4 ∨ nextIn ((lS z).drop (n + kk)) = true) ∧ σ' = [some (.str z), some (.int (n : Int)), some (.int ((n + kk : Nat) : Int)), some (.str (uS ds)), some (.str (uS pt)), v, none, none], ?_, ?_⟩
      · walk_at "rd"
        refine r_ite (fun h1 => ?_) (fun h1 => ?_) <;> walk_at "rd"
        · have h1' := of_decide_eq_true h1
          have hb : ds.length > 6 ∨ pt.length > 4 ∨ nextIn ((lS z).drop (n + kk)) = true := .inl (by omega)
          rw [List.drop_drop, if_pos hb] at k
          exact r_mkx ⟨_, rfl, log_ok (by omega)⟩ fun d H' hd hs he => k d H' hs he
        refine r_ite (fun h2 => ?_) (fun h2 => ?_) <;> walk_at "rd"
        · have h2' := of_decide_eq_true h2
          have hb : ds.length > 6 ∨ pt.length > 4 ∨ nextIn ((lS z).drop (n + kk)) = true := .inr (.inl (by omega))
          rw [List.drop_drop, if_pos hb] at k
          exact r_mkx ⟨_, rfl, log_ok (by omega)⟩ fun d H' hd hs he => k d H' hs he
        have h1' := of_decide_eq_false h1
        have h2' := of_decide_eq_false h2
        refine r_ite (fun h3 => ?_) (fun h3 => ?_) <;> walk_at "rd"
        · have h3' := of_decide_eq_true h3
          have g := List.getElem?_eq_getElem (l := z.cps.toList) (i := n + kk) (by rw [show z.cps.toList = lS z from rfl]; omega)
          refine r_ch g (by omega) ?_
          walk_at "rd"
          refine ⟨_, rfl, ?_⟩
          walk_at "rd"
          have gn := nextIn_drop g
          refine r_ite (fun h4 => ?_) (fun h4 => ?_) <;> walk_at "rd"
          · have hb : ds.length > 6 ∨ pt.length > 4 ∨ nextIn ((lS z).drop (n + kk)) = true := .inr (.inr (gn.trans h4))
            rw [List.drop_drop, if_pos hb] at k
            exact r_mkx ⟨_, rfl, log_ok (by omega)⟩ fun d H' hd hs he => k d H' hs he
          · refine ⟨rfl, ?_, rfl⟩
            rintro (hb | hb | hb)
            · omega
            · omega
            · rw [show (lS z).drop (n + kk) = z.cps.toList.drop (n + kk) from rfl, gn, h4] at hb
              cases hb
        · have h3' := of_decide_eq_false h3
          refine ⟨rfl, ?_, rfl⟩
          rintro (hb | hb | hb)
          · omega
          · omega
          · rw [nextIn_end (by omega)] at hb
            cases hb
      · rintro σ' H' ⟨rfl, hb, rfl⟩
        obtain ⟨f1, f2⟩ := fin hb
        have k2 := good hb
        walk_at "rd"
        refine ⟨_, rfl, _, rfl, (by show pt.length ≤ sizeLine; rw [sizeLine_eq]; omega), _, rfl, (by rw [l2]; omega), (by rw [l2]; omega), for_range (lo := 0) (n := pt.length) (fun i σ' H' => H = H' ∧ ∃ v7, σ' = [some (.str z), some (.int (n : Int)), some (.int ((n + kk : Nat) : Int)), some (.str (uS ds)), some (.str (uS pt)), v, some (.int ((10 ^ i : Nat) : Int)), v7]) ⟨rfl, none, rfl⟩ ?_ ?_⟩
        · rintro i σ' H' hi ⟨rfl, v7, rfl⟩
          walk_at "rd"
          have hi4 : i ≤ 4 := by omega
          refine r_I ?_ ?_
          · have : (10 ^ i : Nat) ≤ 10 ^ 4 := Nat.pow_le_pow_right (by decide) hi4
            exact wide_mul (a := 20) (b := 20) (by rw [Int.natAbs_natCast]; exact Nat.lt_of_le_of_lt this (by decide)) (by decide) (by decide) (by decide) (by decide)
          · walk_at "rd"
            refine ⟨rfl, some (.int (0 + (i : Int))), ?_⟩
            have e : ((10 ^ i : Nat) : Int) * 10 = ((10 ^ (i + 1) : Nat) : Int) := by
              rw [Nat.pow_succ]; omega
            rw [e]
            rfl
        · rintro σ' H' ⟨rfl, v7, rfl⟩
          walk_at "rd"
          rw [uS_app]
          walk_at "rd"
          have hne : ds ≠ [] := by
            obtain ⟨c, hc1, hc2⟩ := hc
            rw [← hd, drop_cons hc1, List.takeWhile_cons, if_pos hc2]
            exact List.cons_ne_nil _ _
          refine ⟨uS (ds ++ pt), (digV (ds ++ pt) : Nat), rfl, intText_digits (x := uS (ds ++ pt)) (fun c hcm => ?_) ?_ (by omega), by omega, ?_⟩
          · rcases List.mem_append.mp hcm with h | h
            · exact isDigit_ok (hdd c h)
            · exact isDigit_ok (hpd c h)
          · show ds ++ pt ≠ []
            simp [hne]
          walk_at "rd"
          intro p1 hp1
          walk_at "rd"
          intro p2 hp2
          walk_at "rd"
          intro p3 hp3
          have n12 : p1 ≠ p2 := fun e => by rw [e] at hp2; rw [upd_same] at hp2; cases hp2
          have n13 : p1 ≠ p3 := fun e => by rw [← e, upd_ne n12, upd_same] at hp3; cases hp3
          have n23 : p2 ≠ p3 := fun e => by rw [e] at hp3; rw [upd_same] at hp3; cases hp3
          refine k2 p3 (.ref p2) _ (fun b o hb => Same.new hp3 _ _ (Same.new hp2 _ _ (Same.new hp1 _ _ hb))) upd_same ?_
          refine .tup (a := p2) (xs := [V.str "number", V.ref p1, V.int n]) ?_ (.cons (.str _) (.cons (.tup (a := p1) (xs := [V.int (digV (ds ++ pt) : Nat), V.int ((10 ^ pt.length : Nat) : Int)]) ?_ (.cons (.int _) (.cons (.int _) .nil))) (.cons (.int _) .nil)))
          · rw [upd_ne n23, upd_same]
          · rw [upd_ne n13, upd_ne n12, upd_same]
abbrev s_tokens : Stmt := top 18
theorem sc_tokens : FnScope ["text", "result", "at", "token"] ["text"] (defScope s_tokens) := ⟨rfl, rfl, rfl, by decide +kernel, rfl, by decide +kernel, by decide +kernel⟩
theorem cal_tokens {DM DO : Addr} (dx : DefAt K mg "tokens" s_tokens) (B : Bl mg) (L : LexC K mg) (XMalformed : ExC1 P w K mg base "Malformed" DM "at" CMal) (XOversized : ExC1 P w K mg base "Oversized" DO "limit" COver)
    (G_comment_end : Cal P w K mg base 1 "comment_end" ["text", "at"] (spSpan notNl)) (G_is_letter : Cal P w K mg base 1 "is_letter" ["char"] (spCh isLetter)) (G_is_digit : Cal P w K mg base 1 "is_digit" ["char"] (spCh isDigit))
    (G_read_word : Cal P w K mg base 4 "read_word" ["text", "at"] (spTok DM (fun _ => true) wordTok)) (G_read_number : Cal P w K mg base 4 "read_number" ["text", "at"] (spTok DM isDigit numTok)) (G_read_sign : Cal P w K mg base 3 "read_sign" ["text", "at"] (spTok DM (fun _ => true) signTok)) :
    Cal P w K mg base 5 "tokens" ["text"] (spTokens DM DO) := by
  refine cal_mk dx sc_tokens (fun _ _ _ _ _ _ us hl => match us, hl with | [_], _ => rfl) (fun vs H Q E h => ?_) (fun f cdv A outer s H vs Q E hr h => ?_)
  · obtain ⟨z, rfl, _⟩ := h
    rfl
  · obtain ⟨z, rfl, hz, k⟩ := h
    have tk : L2N.Takes (cxOf (L2N.CX P w) P w K mg base ["text", "result", "at", "token"] "tokens" (defScope s_tokens) f cdv A outer s H E) (fun cls d _ H => E cls d H) := L2N.takes_of rfl rfl rfl rfl
    refine ⟨_, (pss_cons (ps_if (pt_cmpR op_gt (pe_callB call_len_str (by rfl) B.len PySem.boot_len (pa_cons (pv 0) pa_nil)) (pe_gint L.gMT) (nomark _))
      (pss_one (ps_raiseX rfl tk (pmk_x1 XOversized (hr.mono (by decide)) (pa_cons pe_str pa_nil))))
      pss_nil)
      (pss_cons (ps_set (i := 1) sc_tokens.nd rfl (Or.inl rfl) (pe_lst pa_nil))
      (pss_cons (ps_set (i := 2) sc_tokens.nd rfl (Or.inl rfl) pe_int)
      (pss_cons (ps_while (passes_of rfl) (pt_cmpR op_lt (pv 2) (pe_callB call_len_str (by rfl) B.len PySem.boot_len (pa_cons (pv 0) pa_nil)) (nomark _))
      (pss_one (ps_if (pt_cmpR op_in_seq (pe_item_str (pv 0) (pv 2) (fun _ _ => rfl)) (pe_tup (pa_cons pe_str (pa_cons pe_str (pa_cons pe_str pa_nil)))) (by rfl))
      (pss_one (ps_set (i := 2) sc_tokens.nd rfl (Or.inl rfl) (pe_op op_add (pv 2) pe_int)))
      (pss_one (ps_if (pt_cmpR op_eq (pe_item_str (pv 0) (pv 2) (fun _ _ => rfl)) pe_str (nomark _))
      (pss_one (ps_set (i := 2) sc_tokens.nd rfl (Or.inl rfl) (pe_cal G_comment_end (hr.mono (by first | decide | omega)) tk (pa_cons (pv 0) (pa_cons (pv 2) pa_nil)))))
      (C8.pss_cut (ps_if (pt_val (pe_cal G_is_letter (hr.mono (by first | decide | omega)) tk (pa_cons (pe_item_str (pv 0) (pv 2) (fun _ _ => rfl)) pa_nil)))
      (pss_one (ps_asg (pe_cal G_read_word (hr.mono (by first | decide | omega)) tk (pa_cons (pv 0) (pa_cons (pv 2) pa_nil))) (pg_tup rfl (pgs_cons (pg_name (i := 3) sc_tokens.nd rfl (Or.inl rfl)) (pgs_cons (pg_name (i := 2) sc_tokens.nd rfl (Or.inl rfl)) pgs_nil)))))
      (pss_one (ps_if (pt_val (pe_cal G_is_digit (hr.mono (by first | decide | omega)) tk (pa_cons (pe_item_str (pv 0) (pv 2) (fun _ _ => rfl)) pa_nil)))
      (pss_one (ps_asg (pe_cal G_read_number (hr.mono (by first | decide | omega)) tk (pa_cons (pv 0) (pa_cons (pv 2) pa_nil))) (pg_tup rfl (pgs_cons (pg_name (i := 3) sc_tokens.nd rfl (Or.inl rfl)) (pgs_cons (pg_name (i := 2) sc_tokens.nd rfl (Or.inl rfl)) pgs_nil)))))
      (pss_one (ps_asg (pe_cal G_read_sign (hr.mono (by first | decide | omega)) tk (pa_cons (pv 0) (pa_cons (pv 2) pa_nil))) (pg_tup rfl (pgs_cons (pg_name (i := 3) sc_tokens.nd rfl (Or.inl rfl)) (pgs_cons (pg_name (i := 2) sc_tokens.nd rfl (Or.inl rfl)) pgs_nil))))))))
      (pss_one (ps_expr (pe_bm PySem.F.plainAttrs_list PySem.F.slot_list_append PySem.F.type_list_append mt_append (pv 1) (pa_cons (pv 3) pa_nil))))))))))
      (pss_one (ps_ret (pv 1))))))), ?_⟩
    have hl : (lS z).length = z.length := Array.length_toList
    walk_at "rd"
    refine r_ite (fun h1 => ?_) (fun h1 => ?_) <;> walk_at "rd"
    · have h1' := of_decide_eq_true h1
      rcases k with ⟨_, k⟩ | ⟨_, _, hk, _⟩
      · exact r_mkx ⟨_, rfl⟩ fun d H' hd hs he => k d H' hs he
      · omega
    · have h1' := of_decide_eq_false h1
      rcases k with ⟨hk, _⟩ | ⟨ts, e, _, hlex, k⟩
      · omega
      intro p hp
      walk_at "rd"
      refine ⟨fun m σ' H' => ∃ (i : Nat) (ts1 ts2 : List (Tk × Nat)) (us : List V) (v3 : Option V), σ' = [some (.str z), some (.ref p), some (.int (i : Int)), v3] ∧ Same H H' ∧ H' p = some (.lst us) ∧ TpAll H' us (ts1.map tokD) ∧ Lex i ((lS z).drop i) ts2 e ∧ ts = ts1 ++ ts2 ∧ i ≤ z.length ∧ us.length ≤ i ∧ m = z.length - i,
        ⟨_, 0, [], ts, [], none, rfl, Same.new hp, upd_same, .nil, hlex, rfl, Nat.zero_le _, Nat.le_refl _, rfl⟩, ?_⟩
      rintro m σ' H' ⟨i, ts1, ts2, us, v3, rfl, hs, hpl, hus, hlex, hts, hi, hul, rfl⟩
      walk_at "rd"
      refine r_ite (fun h2 => ?_) (fun h2 => ?_) <;> walk_at "rd"
      · have h2' := of_decide_eq_true h2
        have hc := List.getElem?_eq_getElem (l := lS z) (i := i) (by omega)
        generalize (lS z)[i]'(by omega) = c at hc
        have hdc := drop_cons hc
        refine ⟨fun σ' H'' => ∃ m', m' < z.length - i ∧ ∃ (i : Nat) (ts1 ts2 : List (Tk × Nat)) (us : List V) (v3 : Option V), σ' = [some (.str z), some (.ref p), some (.int (i : Int)), v3] ∧ Same H H'' ∧ H'' p = some (.lst us) ∧ TpAll H'' us (ts1.map tokD) ∧ Lex i ((lS z).drop i) ts2 e ∧ ts = ts1 ++ ts2 ∧ i ≤ z.length ∧ us.length ≤ i ∧ m' = z.length - i, fun _ _ h => h, ?_⟩
        rw [hdc] at hlex
        walk_at "rd"
        refine r_ch hc (by omega) ?_
        walk_at "rd"
        intro q hq
        have pq : p ≠ q := fun e => by rw [e] at hpl; rw [hpl] at hq; cases hq
        have hs2 : Same H (upd H' q (.tup [V.str " ", V.str "\t", V.str "\n"])) := fun b o hb => Same.new hq _ _ (hs _ _ hb)
        have hpl2 : (upd H' q (.tup [V.str " ", V.str "\t", V.str "\n"])) p = some (.lst us) := by rw [upd_ne pq]; exact hpl
        have hus2 := hus.keep (Keep.new (o := .tup [V.str " ", V.str "\t", V.str "\n"]) hq)
        refine ⟨q, _, rfl, .inr (SqT.of upd_same), rfl, rfl, ?_⟩
        generalize upd H' q (.tup [V.str " ", V.str "\t", V.str "\n"]) = H2 at *
        walk_at "rd"
        show if (inV (.str ⟨#[c]⟩) [.str " ", .str "\t", .str "\n"]) = true then _ else _
        rw [isp_in]
        refine r_ite (fun h3 => ?_) (fun h3 => ?_) <;> walk_at "rd"
        · -- a blank
          cases hlex with
          | sp _ hl2 => exact ⟨z.length - (i + 1), by omega, i + 1, ts1, ts2, us, v3, rfl, hs2, hpl2, hus2, hl2, hts, by omega, by omega, rfl⟩
          | com _ => cases h3
          | tok h _ _ _ => rw [h] at h3; cases h3
          | bad h _ _ => rw [h] at h3; cases h3
        · refine r_ch hc (by omega) ?_
          walk_at "rd"
          rw [eqA c "#" 35 (by decide +kernel)]
          refine r_ite (fun h4 => ?_) (fun h4 => ?_) <;> walk_at "rd"
          · -- a comment
            have h4' := of_decide_eq_true h4
            subst h4'
            refine ⟨z, i, rfl, hz, hi, ?_⟩
            walk_at "rd"
            have hse : spanEnd notNl (lS z) i = i + (1 + (((lS z).drop (i + 1)).takeWhile notNl).length) := by
              unfold spanEnd
              rw [hdc, List.takeWhile_cons, if_pos (show notNl 35 = true from rfl), List.length_cons]
              omega
            have hle := spanEnd_le (p := notNl) (l := lS z) (n := i) (by omega)
            rw [hse] at hle ⊢
            cases hlex with
            | sp h _ => rw [h] at h3; cases h3
            | com hl2 =>
              rw [List.drop_drop] at hl2
              refine ⟨_, ?_, _, ts1, ts2, us, v3, rfl, hs2, hpl2, hus2, ?_, hts, by omega, by omega, rfl⟩
              · omega
              · rw [show i + (1 + (((lS z).drop (i + 1)).takeWhile notNl).length) = i + 1 + (((lS z).drop (i + 1)).takeWhile notNl).length by omega] at hl2 ⊢
                exact hl2
            | tok _ h _ _ => exact absurd rfl h
            | bad _ h _ => exact absurd rfl h
          · -- a token
            have h4' := of_decide_eq_false h4
            have htok : (∃ t k ts3, ts2 = (t, i) :: ts3 ∧ tok1 (c :: (lS z).drop (i + 1)) = some (t, k) ∧ Lex (i + k) ((lS z).drop (i + k)) ts3 e) ∨ (e = some i ∧ tok1 (c :: (lS z).drop (i + 1)) = none) := by
              cases hlex with
              | sp h _ => rw [h] at h3; cases h3
              | com _ => exact absurd rfl h4'
              | tok _ _ ht hl2 =>
                rw [← hdc, List.drop_drop] at hl2
                exact .inl ⟨_, _, _, rfl, ht, hl2⟩
              | bad _ _ ht => exact .inr ⟨rfl, ht⟩
            rw [← hdc] at htok
            have fail : tok1 ((lS z).drop i) = none → ∀ d H'', Same H2 H'' → H'' d = some (.xd [("at", .int (i : Int))]) → E (.ref DM) (some d) H'' := fun hn d H'' hs3 he => by
              rcases htok with ⟨t, k', ts3, _, ht, _⟩ | ⟨he2, _⟩
              · rw [hn] at ht; cases ht
              · subst he2
                exact k d H'' (hs2.trans hs3) he
            refine ⟨fun σ' H'' => ∃ t k' v, tok1 ((lS z).drop i) = some (t, k') ∧ σ' = [some (.str z), some (.ref p), some (.int ((i + k' : Nat) : Int)), some v] ∧ Same H2 H'' ∧ Tp H'' v (tokD (t, i)), ?_, ?_⟩
            · walk_at "rd"
              refine r_ch hc (by omega) ?_
              walk_at "rd"
              refine ⟨_, rfl, ?_⟩
              walk_at "rd"
              refine r_ite (fun h5 => ?_) (fun h5 => ?_) <;> walk_at "rd"
              · refine ⟨z, i, rfl, hz, by omega, ⟨c, hc, rfl⟩, ?_⟩
                have hg : wordTok ((lS z).drop i) = tok1 ((lS z).drop i) := by rw [hdc]; exact (if_pos h5).symm
                rw [hg]
                cases ho : tok1 ((lS z).drop i) with
                | none => exact fail ho
                | some tk' =>
                  obtain ⟨t, k'⟩ := tk'
                  intro q v H'' hs3 hq3 htp
                  exact ⟨q, _, rfl, SqT.of hq3, rfl, _, _, rfl, _, _, rfl, rfl, t, k', v, rfl, rfl, hs3, htp⟩
              · refine r_ch hc (by omega) ?_
                walk_at "rd"
                refine ⟨_, rfl, ?_⟩
                walk_at "rd"
                have h5' : ¬ isLetter c = true := by rw [h5]; decide
                refine r_ite (fun h6 => ?_) (fun h6 => ?_) <;> walk_at "rd"
                · refine ⟨z, i, rfl, hz, by omega, ⟨c, hc, h6⟩, ?_⟩
                  have hg : numTok ((lS z).drop i) = tok1 ((lS z).drop i) := by rw [hdc]; exact ((if_neg h5').trans (if_pos h6)).symm
                  rw [hg]
                  cases ho : tok1 ((lS z).drop i) with
                  | none => exact fail ho
                  | some tk' =>
                    obtain ⟨t, k'⟩ := tk'
                    intro q v H'' hs3 hq3 htp
                    exact ⟨q, _, rfl, SqT.of hq3, rfl, _, _, rfl, _, _, rfl, rfl, t, k', v, rfl, rfl, hs3, htp⟩
                · refine ⟨z, i, rfl, hz, by omega, ⟨c, hc, rfl⟩, ?_⟩
                  have h6' : ¬ isDigit c = true := by rw [h6]; decide
                  have hg : signTok ((lS z).drop i) = tok1 ((lS z).drop i) := by rw [hdc]; exact ((if_neg h5').trans (if_neg h6')).symm
                  rw [hg]
                  cases ho : tok1 ((lS z).drop i) with
                  | none => exact fail ho
                  | some tk' =>
                    obtain ⟨t, k'⟩ := tk'
                    intro q v H'' hs3 hq3 htp
                    exact ⟨q, _, rfl, SqT.of hq3, rfl, _, _, rfl, _, _, rfl, rfl, t, k', v, rfl, rfl, hs3, htp⟩
            · rintro σ' H'' ⟨t, k', v, ht, rfl, hs3, htp⟩
              have hlen := tok1_len (hdc ▸ ht)
              rw [← hdc, List.length_drop] at hlen
              have hpl3 := hs3 _ _ hpl2
              rcases htok with ⟨t2, k2, ts3, hts3, ht2, hl3⟩ | ⟨_, hn⟩
              · rw [ht] at ht2
                cases ht2
                walk_at "rd"
                refine ⟨.inl ⟨rfl, _, SqL.of hpl3⟩, ?_⟩
                walk_at "rd"
                refine ⟨p, us, v, rfl, rfl, hpl3, by rw [sizeLine_eq]; omega, ?_⟩
                have kp := Keep.mut (o := .lst (us ++ [v])) hpl3 (fun xs z => nomatch z)
                refine ⟨z.length - (i + k'), by omega, i + k', ts1 ++ [(t, i)], ts3, us ++ [v], some v, rfl, Same.mut (hs2.trans hs3) hp, upd_same, ?_, hl3, by rw [hts, hts3]; simp, by omega, ?_, rfl⟩
                · rw [List.map_append]
                  exact ((hus2.keep (Same.keep hs3)).keep kp).app (.cons (htp.keep kp) .nil)
                · rw [List.length_append]; simp; omega
              · rw [hn] at ht; cases ht
      · have h2' := of_decide_eq_false h2
        have hn : (lS z).drop i = [] := List.drop_eq_nil_of_le (by omega)
        rw [hn] at hlex
        cases hlex
        rw [hts, List.append_nil] at k
        exact k p us H' hs hp hpl hus
end
end Al
namespace Al
open PySem PySem.Spec PyProof.Rows L2 NdefX PySem.W
/-! ### the reader in the heap -/
def restS : Str := "rest"
structure RSame (r : Addr) (H H' : Hp) : Prop where
  get : ∀ b o, b ≠ r → H b = some o → H' b = some o
  ins : ∀ C dx fs, H r = some (.ins C dx fs) → ∃ fs', H' r = some (.ins C dx fs') ∧ fs'.lookup restS = fs.lookup restS
theorem RSame.refl {r : Addr} {H : Hp} : RSame r H H := ⟨fun _ _ _ h => h, fun _ _ fs h => ⟨fs, h, rfl⟩⟩
theorem RSame.trans {r : Addr} {H H' H'' : Hp} (a : RSame r H H') (b : RSame r H' H'') : RSame r H H'' := ⟨fun c o hc h => b.get c o hc (a.get c o hc h), fun C dx fs h => by
  obtain ⟨fs', h1, h2⟩ := a.ins C dx fs h
  obtain ⟨fs'', h3, h4⟩ := b.ins C dx fs' h1
  exact ⟨fs'', h3, h4.trans h2⟩⟩
theorem RSame.same {r : Addr} {H H' : Hp} (s : Same H H') : RSame r H H' := ⟨fun b o _ h => s b o h, fun C dx fs h => ⟨fs, s _ _ h, rfl⟩⟩
theorem RSame.upd {r C dx : Addr} {H H' : Hp} {fs fs' : List (Str × V)} (s : RSame r H H') (h : H' r = some (.ins C dx fs)) (hl : fs'.lookup restS = fs.lookup restS) : RSame r H (L2.upd H' r (.ins C dx fs')) :=
  s.trans ⟨fun b u hb h => (upd_ne hb).trans h, fun C1 dx1 fs1 h1 => by
    rw [h] at h1
    cases h1
    exact ⟨fs', upd_same, hl⟩⟩
theorem RSame.new {r p : Addr} {H H' : Hp} {o : HO} (s : RSame r H H') (hp : H' p = none) : RSame r H (L2.upd H' p o) := s.trans (.same (Same.new hp))
theorem RSame.fresh {C r dx q : Addr} {fs : List (Str × V)} {H H' : Hp} (s : RSame r H H') (hi : H' r = some (.ins C dx fs)) (h : H' q = none) : H q = none ∧ q ≠ r := by
  have h1 : q ≠ r := fun e => by rw [e, hi] at h; cases h
  refine ⟨?_, h1⟩
  cases e : H q with
  | none => rfl
  | some o => rw [s.get q o h1 e] at h; cases h
/-- an object that was not there at the beginning is changed -/
theorem RSame.mut {r q : Addr} {H H' : Hp} {o : HO} (s : RSame r H H') (h : H q = none) (hq : q ≠ r) : RSame r H (L2.upd H' q o) := ⟨fun b u hb h1 => (upd_ne (ne_of_none h1 h)).trans (s.get b u hb h1), fun C dx fs h1 => by
  obtain ⟨fs', h2, h3⟩ := s.ins C dx fs h1
  exact ⟨fs', (upd_ne (Ne.symm hq)).trans h2, h3⟩⟩
abbrev rfs (l : Addr) (p L : Nat) : List (Str × V) := [("rest", .ref l), ("place", .int (p : Int)), ("limit", .int (L : Int))]
theorem putF_place (l : Addr) (p L : Nat) : putF "place" (V.int ((p : Int) + 1)) (rfs l p L) = rfs l (p + 1) L := rfl
structure Rdr (C : Addr) (H : Hp) (r : Addr) (L : Nat) (ts : TS1) : Prop where
  ex : ∃ (T : TS1) (dx l : Addr) (p : Nat) (vs : List V), ts = T.drop p ∧ p ≤ T.length ∧ H r = some (.ins C dx [("rest", .ref l), ("place", .int (p : Int)), ("limit", .int (L : Int))]) ∧ H l = some (.lst vs) ∧ TpAll H vs (T.map tokD) ∧
    T.length ≤ 20000 ∧ (∀ t ∈ T, t.2 ≤ 20000) ∧ L ≤ 20000
theorem RSame.keep {C r dx : Addr} {fs : List (Str × V)} {H H' : Hp} (s : RSame r H H') (h : H r = some (.ins C dx fs)) : Keep H H' := fun a xs ha => s.get a _ (fun e => by rw [e, h] at ha; cases ha) ha
theorem Rdr.keep {C r : Addr} {L : Nat} {ts : TS1} {H H' : Hp} (R : Rdr C H r L ts) (s : RSame r H H') : Keep H H' := by
  obtain ⟨T, dx, l, p, vs, _, _, h, _⟩ := R.ex
  exact s.keep h
theorem Rdr.same {C r : Addr} {L : Nat} {ts : TS1} {H H' : Hp} (R : Rdr C H r L ts) (s : Same H H') : Rdr C H' r L ts := by
  obtain ⟨T, dx, l, p, vs, h1, h2, h3, h4, h5, h6⟩ := R.ex
  exact ⟨T, dx, l, p, vs, h1, h2, s _ _ h3, s _ _ h4, h5.keep (RSame.keep (RSame.same s) h3), h6⟩
theorem Rdr.ins {C r : Addr} {L : Nat} {ts : TS1} {H : Hp} (R : Rdr C H r L ts) : ∃ dx fs, H r = some (.ins C dx fs) := by
  obtain ⟨T, dx, l, p, vs, _, _, h, _⟩ := R.ex
  exact ⟨_, _, h⟩
theorem Rdr.len {C r : Addr} {L : Nat} {ts : TS1} {H : Hp} (R : Rdr C H r L ts) : ts.length ≤ 20000 := by
  obtain ⟨T, dx, l, p, vs, rfl, h2, h3, h4, h5, h6, _⟩ := R.ex
  rw [List.length_drop]; omega
theorem Rdr.atb {C r : Addr} {L : Nat} {ts : TS1} {H : Hp} (R : Rdr C H r L ts) : atP L ts ≤ 20000 := by
  obtain ⟨T, dx, l, p, vs, rfl, h2, h3, h4, h5, h6, h7, h8⟩ := R.ex
  unfold atP
  cases h : T.drop p with
  | nil => exact h8
  | cons t r => exact h7 t (List.mem_of_mem_drop (by rw [h]; exact List.mem_cons_self))
/-- a list that came later is changed -/
theorem Rdr.mut {C r q : Addr} {L L1 : Nat} {ts ts1 : TS1} {H1 H : Hp} {us us' : List V} (R1 : Rdr C H1 r L1 ts1) (h1 : H1 q = none) (s : RSame r H1 H) (R : Rdr C H r L ts) (hq : H q = some (.lst us)) : Rdr C (L2.upd H q (.lst us')) r L ts := by
  obtain ⟨T1, dx1, l1, p1, vs1, _, _, a3, a4, _⟩ := R1.ex
  obtain ⟨T, dx, l, p, vs, b1, b2, b3, b4, b5, b6⟩ := R.ex
  have hqr : r ≠ q := fun e => by rw [← e, b3] at hq; cases hq
  have hl : l ≠ q := by
    obtain ⟨fs', c1, c2⟩ := s.ins _ _ _ a3
    rw [b3] at c1
    cases c1
    have e : some (V.ref l) = some (V.ref l1) := c2
    cases e
    exact ne_of_none a4 h1
  exact ⟨T, dx, l, p, vs, b1, b2, (upd_ne hqr).trans b3, (upd_ne hl).trans b4, b5.keep (Keep.mut hq fun xs z => nomatch z), b6⟩
/-- the place one further -/
theorem Rdr.next {C r dx l : Addr} {L p : Nat} {T : TS1} {vs : List V} {H : Hp} (h1 : p < T.length) (h3 : H r = some (.ins C dx [("rest", .ref l), ("place", .int (p : Int)), ("limit", .int (L : Int))])) (h4 : H l = some (.lst vs)) (h5 : TpAll H vs (T.map tokD))
    (h6 : T.length ≤ 20000 ∧ (∀ t ∈ T, t.2 ≤ 20000) ∧ L ≤ 20000) : Rdr C (L2.upd H r (.ins C dx [("rest", .ref l), ("place", .int ((p + 1 : Nat) : Int)), ("limit", .int (L : Int))])) r L (T.drop p).tail := by
  refine ⟨T, dx, l, p + 1, vs, by rw [List.tail_drop], h1, upd_same, ?_, h5.keep (RSame.keep (RSame.upd RSame.refl h3 (fs' := rfs l (p + 1) L) rfl) h3), h6⟩
  rw [upd_ne (fun e => by rw [e, h3] at h4; cases h4)]
  exact h4
/-! ### promises -/
structure RC (K : Frag) (C : Addr) : Prop where
  cls : Cls K C
  na : ∀ f ∈ (["rest", "place", "limit"] : List Str), NoAttr K C f
structure ParC (K : Frag) (w : World) (mg : Str → Option Value) : Prop where
  gMD : ∃ t, mg "MAX_DEPTH" = some (.int 24 t)
  gMP : ∃ t, mg "MAX_POWER" = some (.int 9 t)
  sums : ∃ a, mg "SUMS" = some (.ref a) ∧ KDct K w a "+" (.str "add") ∧ KDct K w a "-" (.str "sub")
  pro : ∃ a, mg "PRODUCTS" = some (.ref a) ∧ KDct K w a "*" (.str "mul") ∧ KDct K w a "/" (.str "div")
  cmp : ∃ a, mg "COMPARISONS" = some (.ref a) ∧ KKeys K a (cmps.map (·.1)) ∧ ∀ q ∈ cmps, KDct K w a q.1 (.str q.2)
section
variable (C DM DO : Addr)
def Fin (r : Addr) (H0 : Hp) (E : XK) (e : PErr) : Prop := match e with
  | .mal i => ∀ d H', RSame r H0 H' → H' d = some (.xd [("at", .int (i : Int))]) → E (.ref DM) (some d) H'
  | .over => ∀ d H', RSame r H0 H' → H' d = some (.xd [("limit", .str "depth")]) → E (.ref DO) (some d) H'
structure Res {α : Type} (r : Addr) (L : Nat) (H0 : Hp) (ts : TS1) (E : XK) (o : Except PErr (α × TS1)) (G : α → V → Hp → Prop) (Q : VK) : Prop where
  err : ∀ e, o = .error e → Fin DM DO r H0 E e
  ok : ∀ a ts', o = .ok (a, ts') → ∀ v H', RSame r H0 H' → Rdr C H' r L ts' → ts'.length ≤ ts.length → G a v H' → Q v H'
def spAt : Sp := fun vs H Q _ => ∃ r L ts, vs = [.ref r] ∧ Rdr C H r L ts ∧ Q (.int (atP L ts : Int)) H
def spSees : Sp := fun vs H Q _ => ∃ r L ts k v, vs = [.ref r, .str k, .str v] ∧ k ≠ "number" ∧ Rdr C H r L ts ∧ Q (.bl (seesB ts k v)) H
def spKind : Sp := fun vs H Q _ => ∃ r L ts k, vs = [.ref r, .str k] ∧ Rdr C H r L ts ∧ Q (.bl (kindB ts k)) H
def spAcc : Sp := fun vs H Q _ => ∃ r L ts k v, vs = [.ref r, .str k, .str v] ∧ k ≠ "number" ∧ Rdr C H r L ts ∧
  (seesB ts k v = true → ∀ H', RSame r H H' → Rdr C H' r L ts.tail → Q (.bl true) H') ∧ (seesB ts k v = false → Q (.bl false) H)
def spExp : Sp := fun vs H Q E => ∃ r L ts k v, vs = [.ref r, .str k, .str v] ∧ k ≠ "number" ∧ Rdr C H r L ts ∧
  (seesB ts k v = true → ∀ H', RSame r H H' → Rdr C H' r L ts.tail → Q .non H') ∧ (seesB ts k v = false → Fin DM DO r H E (.mal (atP L ts)))
def spRead : Sp := fun vs H Q E => ∃ r L ts k, vs = [.ref r, .str k] ∧ Rdr C H r L ts ∧
  (kindB ts k = true → ∀ v H', RSame r H H' → Rdr C H' r L ts.tail → Tp H' v (headV ts) → Q v H') ∧ (kindB ts k = false → Fin DM DO r H E (.mal (atP L ts)))
def spWhole : Sp := fun vs H Q E => ∃ r L ts lim, vs = [.ref r, .int (lim : Nat)] ∧ Rdr C H r L ts ∧ ∃ o, pWhole L lim ts = some o ∧ Res C DM DO r L H ts E o (fun a v _ => v = .int a) Q
def spDeep : Sp := fun vs H Q E => ∃ (r : Addr) (n : Nat), vs = [.ref r, .int (24 - (n : Int))] ∧ (∃ dx fs, H r = some (.ins C dx fs)) ∧ n ≤ 24 ∧ (n = 0 → Fin DM DO r H E .over) ∧ ∀ m, n = m + 1 → Q (.int (24 - (m : Int))) H
/-- a reading def without a level, with one (N levels at most are left) -/
def spG0 {α : Type} (g : Nat → Pr α) (G : α → V → Hp → Prop) : Sp := fun vs H Q E => ∃ (r : Addr) (L : Nat) (ts : TS1), vs = [.ref r] ∧ Rdr C H r L ts ∧ ∃ o, g L ts = some o ∧ Res C DM DO r L H ts E o G Q
def gT : PyData → V → Hp → Prop := fun d v H' => Tp H' v d
abbrev spR0 (g : Nat → Pr PyData) : Sp := spG0 C DM DO g gT
def spRN (g : Nat → Nat → Pr PyData) (N : Nat) : Sp := fun vs H Q E => ∃ (r : Addr) (L n : Nat) (ts : TS1), vs = [.ref r, .int (24 - (n : Int))] ∧ n < N ∧ N ≤ 25 ∧ Rdr C H r L ts ∧ ∃ o, g L n ts = some o ∧ Res C DM DO r L H ts E o gT Q
end
section
variable {C DM DO r : Addr} {H H0 H' : Hp} {E : XK} {L : Nat} {ts : TS1}
theorem Fin.mono {e : PErr} (h : Fin DM DO r H0 E e) (s : RSame r H0 H) : Fin DM DO r H E e := by
  cases e with
  | mal i => exact fun d H' s' => h d H' (s.trans s')
  | over => exact fun d H' s' => h d H' (s.trans s')
/-- what is left to do behind a part of it -/
theorem r_sub {α β : Type} {g : Pr α} {f : α → Pr β} {out : Except PErr (β × TS1)} {G : α → V → Hp → Prop} {Q : VK} (h : (g >>= f) ts = some out) (hF : ∀ e, out = .error e → Fin DM DO r H0 E e) (s : RSame r H0 H)
    (k : ∀ a ts' v H', f a ts' = some out → RSame r H H' → Rdr C H' r L ts' → ts'.length ≤ ts.length → G a v H' → Q v H') : ∃ o, g ts = some o ∧ Res C DM DO r L H ts E o G Q := by
  obtain ⟨o, h1, h2, h3⟩ := b_bind h
  exact ⟨o, h1, fun e z => (hF e (h2 e z)).mono s, fun a ts' z v H' s' R' hl hG => k a ts' v H' (h3 a ts' z) s' R' hl hG⟩
/-- a part at the end -/
theorem r_tail {α : Type} {g : Pr α} {out : Except PErr (α × TS1)} {G : α → V → Hp → Prop} {Q : VK} (h : g ts = some out) (hF : ∀ e, out = .error e → Fin DM DO r H0 E e) (s : RSame r H0 H)
    (k : ∀ a ts' v H', out = .ok (a, ts') → RSame r H H' → Rdr C H' r L ts' → ts'.length ≤ ts.length → G a v H' → Q v H') : ∃ o, g ts = some o ∧ Res C DM DO r L H ts E o G Q :=
  ⟨out, h, fun e z => (hF e z).mono s, fun a ts' z v H' s' R' hl hG => k a ts' v H' z s' R' hl hG⟩
end
/-! ### readings of calls of the reader's methods -/
section
variable {C r : Addr} {L : Nat} {ts : TS1} {σ : L2.St} {H : Hp} {Q : VK} {i : Nat} {m : Str} {sp : Sp} {E : L2.St → XK} {t : TA} {K : Frag} {v : V} {f : Str}
theorem r_rm (R : Rdr C H r L ts) (h : σ[i]? = some (some (.ref r))) (hm : m ∉ (["rest", "place", "limit"] : List Str)) (q : t σ H fun vs H2 => sp (.ref r :: vs) H2 Q (E σ)) : tMetS C m sp E (tVar i) t σ H Q := by
  obtain ⟨T, dx, l, p, vs, _, _, hi, _⟩ := R.ex
  refine ⟨_, h, r, dx, _, rfl, hi, ?_, q⟩
  have h1 : m ≠ "rest" := fun e => hm (by rw [e]; simp)
  have h2 : m ≠ "place" := fun e => hm (by rw [e]; simp)
  have h3 : m ≠ "limit" := fun e => hm (by rw [e]; simp)
  rw [List.lookup_cons, beq_false_of_ne h1, List.lookup_cons, beq_false_of_ne h2, List.lookup_cons, beq_false_of_ne h3]
  rfl
theorem r_fldI {a D dx : Addr} {fs : List (Str × V)} (h : σ[i]? = some (some (.ref a))) (hi : H a = some (.ins D dx fs)) (c : Cls K D) (na : NoAttr K D f) (l : fs.lookup f = some v) (q : Q v H) : tFld K (tVar i) f σ H Q := ⟨_, h, a, D, dx, fs, v, rfl, hi, c, na, l, q⟩
end
theorem r_sfl {σ : L2.St} {H : Hp} {K : Frag} {f : Str} {ta tv : TE} {D : Ends} (h : tv σ H fun y H1 => ta σ H1 fun x H2 => ∃ a C dx fs, x = .ref a ∧ H2 a = some (.ins C dx fs) ∧ Cls K C ∧ NoAttr K C f ∧ fs.length < 1000 ∧ D.nx σ (L2.upd H2 a (.ins C dx (putF f y fs)))) : sFld K ta tv f D σ H := h
theorem sees_lt {T : TS1} {p : Nat} {k v : Str} (h : seesB (T.drop p) k v = true) : p < T.length := by
  by_cases q : p < T.length
  · exact q
  · rw [List.drop_eq_nil_of_le (by omega)] at h; cases h
theorem kind_lt {T : TS1} {p : Nat} {k : Str} (h : kindB (T.drop p) k = true) : p < T.length := by
  by_cases q : p < T.length
  · exact q
  · rw [List.drop_eq_nil_of_le (by omega)] at h; cases h
theorem iteNF {p q : Prop} (h : p) : if (!false) = true then p else q := h
theorem iteNT {p q : Prop} (h : q) : if (!true) = true then p else q := h
theorem cMal_at {C r : Addr} {L : Nat} {ts : TS1} {H : Hp} (R : Rdr C H r L ts) : CMal (.int (atP L ts : Int)) := ⟨_, rfl, log_ok (Nat.le_trans R.atb (by decide))⟩
theorem kind_num {ts : TS1} (h : kindB ts "number" = true) : ∃ a b i r, ts = (.num a b, i) :: r := by
  match ts, h with
  | (.num a b, i) :: r, _ => exact ⟨a, b, i, r, rfl⟩
  | (.word s, i) :: r, h => exact absurd (show decide (("word" : Str) = "number") = true from h) (by decide)
  | (.name s, i) :: r, h => exact absurd (show decide (("name" : Str) = "number") = true from h) (by decide)
  | (.sign s, i) :: r, h => exact absurd (show decide (("sign" : Str) = "number") = true from h) (by decide)
theorem whole_no {L lim : Nat} {ts : TS1} (h : kindB ts "number" = false) : pWhole L lim ts = some (.error (.mal (atP L ts))) := by
  match ts, h with
  | (.num a b, i) :: r, h => exact absurd (show decide (("number" : Str) = "number") = false from h) (by decide)
  | (.word s, i) :: r, _ => rfl
  | (.name s, i) :: r, _ => rfl
  | (.sign s, i) :: r, _ => rfl
  | [], _ => rfl
theorem iteNT' {p q : Prop} {b : Bool} (hb : b = true) (h : q) : if (!b) = true then p else q := by subst hb; exact h
theorem tok_at {H : Hp} {vs : List V} {T : TS1} {p : Nat} (hT : TpAll H vs (T.map tokD)) (h : p < T.length) :
    ∃ a v1, vs[p]? = some (.ref a) ∧ H a = some (.tup [.str T[p].1.kind, v1, .int (T[p].2 : Int)]) ∧ Tp H v1 T[p].1.val ∧ T.drop p = T[p] :: T.drop (p + 1) := by
  obtain ⟨v, h1, h2⟩ := hT.get (i := p) (d := tokD T[p]) (by rw [List.getElem?_map, List.getElem?_eq_getElem h]; rfl)
  cases h2 with
  | @tup a xs ds h3 h4 =>
    cases h4 with
    | cons h5 h6 =>
      cases h6 with
      | cons h7 h8 =>
        cases h8 with
        | cons h9 h10 =>
          cases h10 with
          | nil =>
            cases h5 with
            | str x =>
              cases h9 with
              | int i => exact ⟨a, _, h1, h3, h7, List.drop_eq_getElem_cons h⟩
theorem val_txt {H : Hp} {t : Tk} {v : V} (h : Tp H v t.val) (k : t.kind ≠ "number") : v = .str t.txt := by
  cases t with
  | num a b => exact absurd rfl k
  | word s => cases h with | str _ => rfl
  | name s => cases h with | str _ => rfl
  | sign s => cases h with | str _ => rfl
theorem drop_all {T : TS1} {p : Nat} (h : ¬ p < T.length) : T.drop p = [] := List.drop_eq_nil_of_le (by omega)
theorem b_deep0 {β : Type} {ts : TS1} {out : Except PErr (β × TS1)} {f : Nat → Pr β} {n : Nat} (e : n = 0) (h : (pDeep n >>= f) ts = some out) : out = .error .over := by
  rcases b_deep h with ⟨_, h⟩ | ⟨m, h, _⟩
  · exact h
  · omega
theorem b_deepS {β : Type} {ts : TS1} {out : Except PErr (β × TS1)} {f : Nat → Pr β} {n m : Nat} (e : n = m + 1) (h : (pDeep n >>= f) ts = some out) : f m ts = some out := by
  subst e
  rcases b_deep h with ⟨h, _⟩ | ⟨m', h1, h⟩
  · omega
  · cases h1
    exact h
/-- a tuple is the answer -/
theorem r_ret_tup {C DM DO r : Addr} {L : Nat} {H H1 : Hp} {ts ts' : TS1} {E : XK} {o : Except PErr (PyData × TS1)} {Q : VK} {vs : List V} {ds : List PyData} (k : Res C DM DO r L H ts E o gT Q) (h : (pure (.tuple ds) : Pr PyData) ts' = some o) (s : RSame r H H1) (R : Rdr C H1 r L ts')
    (hl : ts'.length ≤ ts.length) (hv : TpAll H1 vs ds) : ∀ p, H1 p = none → Q (.ref p) (L2.upd H1 p (.tup vs)) := fun p hp =>
  k.ok _ _ (b_ret h) _ _ (s.new hp) (R.same (Same.new hp)) hl (.tup upd_same (hv.keep (Keep.new hp)))
theorem tl_le {ts : TS1} : ts.tail.length ≤ ts.length := by rw [List.length_tail]; omega
theorem tl_lt {ts : TS1} {k v : Str} (h : seesB ts k v = true) : ts.tail.length + 1 = ts.length := by
  cases ts with
  | nil => cases h
  | cons t r => rfl
theorem sees_kind {ts : TS1} {k v : Str} (h : seesB ts k v = true) : kindB ts k = true := by
  cases ts with
  | nil => cases h
  | cons t r => exact (Bool.and_eq_true_iff.mp h).1
theorem sees_head {ts : TS1} {k v : Str} (hk : k ≠ "number") (h : seesB ts k v = true) : headV ts = .str v := by
  cases ts with
  | nil => cases h
  | cons t r =>
    obtain ⟨h1, h2⟩ := Bool.and_eq_true_iff.mp h
    have h1 := of_decide_eq_true h1
    have h2 := of_decide_eq_true h2
    obtain ⟨t, i⟩ := t
    show t.val = _
    cases t with
    | num a b => exact absurd h1.symm hk
    | word s => exact congrArg PyData.str h2
    | name s => exact congrArg PyData.str h2
    | sign s => exact congrArg PyData.str h2
theorem b_accT2 {α β : Type} {ts : TS1} {k v : Str} {out : Except PErr (β × TS1)} {A B : Pr α} {g : α → Pr β} (e : seesB ts k v = true) (h : ((pAcc k v >>= fun b => if b = true then A else B) >>= g) ts = some out) : (A >>= g) ts.tail = some out := by
  rw [bind_run, bind_run] at h
  unfold pAcc at h
  rw [if_pos e] at h
  rw [bind_run]
  exact h
theorem b_accF2 {α β : Type} {ts : TS1} {k v : Str} {out : Except PErr (β × TS1)} {A B : Pr α} {g : α → Pr β} (e : seesB ts k v = false) (h : ((pAcc k v >>= fun b => if b = true then A else B) >>= g) ts = some out) : (B >>= g) ts = some out := by
  rw [bind_run, bind_run] at h
  unfold pAcc at h
  rw [if_neg (by rw [e]; decide)] at h
  rw [bind_run]
  exact h
theorem b_pure {α β : Type} {ts : TS1} {out : Except PErr (β × TS1)} {a : α} {g : α → Pr β} (h : ((pure a : Pr α) >>= g) ts = some out) : g a ts = some out := h
/-- what is left of the parameters: more, or the end -/
def parK (L : Nat) (b : Bool) (acc : List PyData) : Pr PyData := if b = true then pParL L acc else (do
  pExp L "sign" ")"
  return .tuple acc)
/-- a line: at least one token is taken -/
structure ResL (C DM DO : Addr) {α : Type} (r : Addr) (L : Nat) (H0 : Hp) (ts : TS1) (E : XK) (o : Except PErr (α × TS1)) (G : α → V → Hp → Prop) (Q : VK) : Prop where
  err : ∀ e, o = .error e → Fin DM DO r H0 E e
  ok : ∀ a ts', o = .ok (a, ts') → ∀ v H', RSame r H0 H' → Rdr C H' r L ts' → ts'.length < ts.length → G a v H' → Q v H'
def spLine (C DM DO : Addr) (g : Nat → Pr PyData) : Sp := fun vs H Q E => ∃ (r : Addr) (L : Nat) (ts : TS1), vs = [.ref r] ∧ Rdr C H r L ts ∧ ∃ o, g L ts = some o ∧ ResL C DM DO r L H ts E o gT Q
theorem r_makS {C : Addr} {sp : Sp} {E : L2.St → XK} {t : TA} {σ : L2.St} {H : Hp} {Q : VK} (h : t σ H fun vs H1 => ∀ x dx, H1 x = none → H1 dx = none → dx ≠ x → sp (.ref x :: vs) (L2.upd (L2.upd H1 dx (.own x)) x (.ins C dx [])) (fun v H2 => v = .non ∧ Q (.ref x) H2) (E σ)) : tMakS C sp E t σ H Q := h
theorem tl_lt_le {ts ts' : TS1} {k v : Str} (h : seesB ts k v = true) (hl : ts.length ≤ ts'.length) : ts.tail.length < ts'.length := by
  have := tl_lt h
  omega
/-- the methods' promises together -/
structure RdM (P : Program) (w : World) (K : Frag) (mg : Str → Option Value) (base : Heap) (C DM DO : Addr) : Prop where
  rc : RC K C
  m1 : MetX P w K mg base 1 C "at" ["self"] (spAt C)
  m2 : MetX P w K mg base 1 C "sees" ["self", "kind", "value"] (spSees C)
  m3 : MetX P w K mg base 1 C "sees_kind" ["self", "kind"] (spKind C)
  m4 : MetX P w K mg base 2 C "accept" ["self", "kind", "value"] (spAcc C)
  m5 : MetX P w K mg base 3 C "expect" ["self", "kind", "value"] (spExp C DM DO)
  m6 : MetX P w K mg base 3 C "read" ["self", "kind"] (spRead C DM DO)
  m7 : MetX P w K mg base 4 C "whole" ["self", "limit"] (spWhole C DM DO)
  m8 : MetX P w K mg base 3 C "deeper" ["self", "level"] (spDeep C DM DO)
end Al
namespace Al
open PySem PySem.Spec PyProof.Rows L2 NdefX PySem.W
local macro_rules | `(tactic| walk_at "rd1") => `(tactic| with_reducible first
  | (show tVar _ _ _ _; refine r_var (by with_unfolding_all rfl) ?_) | refine r_c ?_ | refine r_op ?_ | refine r_I0 ?_ | refine r_un ?_ | refine r_U ?_
  | (show rI _ _ _ _ _ _; refine r_I (by with_unfolding_all first | exact ⟨by decide, by decide⟩ | (show (0 : Int) < _; decide)) ?_)
  | refine r_eqI ?_ | refine r_neI ?_ | refine r_eqS ?_ | refine r_neS ?_ | refine r_eqB ?_ | refine r_neB ?_ | refine r_chain ?_
  | refine r_test ?_ | refine r_B ?_ | refine r_bl ?_ | refine r_int ?_ | refine r_and ?_ | refine r_or ?_ | refine r_not ?_ | refine r_andV ?_ | refine r_orV ?_ | refine r_notV ?_
  | refine r_if ?_ | refine r_nil ?_ | refine r_cons ?_ | refine r_cb ?_ | refine r_call ?_ | refine r_callS ?_ | refine r_tup ?_ | refine r_lst ?_ | refine r_seq ?_ | refine r_next ?_ | refine r_asg ?_
  | refine r_name ?_ | refine r_ifS ?_ | refine r_ret ?_ | refine r_retN ?_ | refine r_drop ?_ | refine r_brk ?_ | refine r_ct ?_ | refine r_sl ?_ | refine r_part ?_ | refine r_nopart ?_
  | refine r_bm ?_ | refine r_bm0 ?_ | refine r_raiseX ?_ | refine r_mkO ?_ | refine iteF ?_ | refine iteT ?_ | refine r_int1 ?_ | refine r_int1b ?_ | (show _ ≤ sizeLine ∧ _; refine r_sz (by with_unfolding_all first | omega | (simp only [List.length_cons, List.length_nil]; omega)) ?_)
  | (show ∃ _, _; refine ⟨_, rfl, ?_⟩) | (show ∃ _, _; refine ⟨_, _, rfl, rfl, ?_⟩) | (show ∃ _, _; refine ⟨_, _, rfl, ?_⟩))
local macro_rules | `(tactic| walk_at "rd") => `(tactic| repeat (walk_at "rd1"))
local macro_rules | `(tactic| walk_at "rd2") => `(tactic| with_reducible first
  | (show tFld _ _ _ _ _ _; refine r_fldI (by with_unfolding_all rfl) (by with_unfolding_all assumption) (by with_unfolding_all assumption) (by with_unfolding_all assumption) (by with_unfolding_all rfl) ?_)
  | (show tMetS _ _ _ _ _ _ _ _ _; refine r_rm (by with_unfolding_all assumption) (by with_unfolding_all rfl) (by decide) ?_)
  | refine r_sfl ?_ | refine iteNF ?_ | refine iteNT ?_ | refine r_makS ?_)
local macro_rules | `(tactic| walk_at "rp") => `(tactic| repeat first | walk_at "rd1" | walk_at "rd2")

section
variable {P : Program} {w : World} {K : Frag} {mg : Str → Option Value} {base : Heap}
abbrev s_Reader_at : Stmt := inClass (top 25) 1
theorem sc_Reader_at : FnScope ["self"] ["self"] (defScope s_Reader_at) := ⟨rfl, rfl, rfl, by decide +kernel, rfl, by decide +kernel, by decide +kernel⟩
theorem met_at {C : Addr} (dx : MetAt K C "at" "Reader.at" s_Reader_at) (B : Bl mg) (RK : RC K C) : MetX P w K mg base 1 C "at" ["self"] (spAt C) := by
  refine met_mk dx sc_Reader_at (fun _ _ _ _ _ _ us hl => match us, hl with | [_], _ => rfl) (fun vs H Q E h => ?_) (fun f cdv A outer s H vs Q E hr h => ?_)
  · obtain ⟨r, L, ts, rfl, _⟩ := h
    rfl
  · obtain ⟨r, L, ts, rfl, R, k⟩ := h
    refine ⟨_, (pss_cons (ps_if (pt_cmpR op_lt (pe_fld (pv 0) rfl) (pe_callB call_len_seq (by rfl) B.len PySem.boot_len (pa_cons (pe_fld (pv 0) rfl) pa_nil)) (nomark _))
      (pss_one (ps_ret (pe_ix ix_tup (pe_ix ix_list (pe_fld (pv 0) rfl) (pe_fld (pv 0) rfl) (fun _ _ => rfl)) pe_int (fun _ _ => rfl))))
      pss_nil)
      (pss_one (ps_ret (pe_fld (pv 0) rfl)))), ?_⟩
    obtain ⟨T, dx, l, p, vs, rfl, hp, hr1, hl1, hT, hb1, hb2, hb3⟩ := R.ex
    have hcl := RK.cls
    have hn1 := RK.na "rest" (by decide)
    have hn2 := RK.na "place" (by decide)
    have hn3 := RK.na "limit" (by decide)
    walk_at "rp"
    refine ⟨l, vs, rfl, .inl (SqL.of hl1), ?_⟩
    walk_at "rp"
    have hlv : vs.length = T.length := by rw [hT.len, List.length_map]
    rw [hlv]
    refine r_ite (fun h1 => ?_) (fun h1 => ?_)
    · have h1 : p < T.length := by have := of_decide_eq_true h1; omega
      obtain ⟨a, v1, e1, e2, e3, e4⟩ := tok_at hT h1
      walk_at "rp"
      refine r_ixL (SqL.of hl1) e1 ?_
      walk_at "rp"
      refine r_ixT (n := 2) (SqT.of e2) rfl ?_
      rw [e4] at k
      exact k
    · have h1 : ¬ p < T.length := by have := of_decide_eq_false h1; omega
      walk_at "rp"
      rw [drop_all h1] at k
      exact k
abbrev s_Reader_sees : Stmt := inClass (top 25) 2
theorem sc_Reader_sees : FnScope ["self", "kind", "value"] ["self", "kind", "value"] (defScope s_Reader_sees) := ⟨rfl, rfl, rfl, by decide +kernel, rfl, by decide +kernel, by decide +kernel⟩
theorem met_sees {C : Addr} (dx : MetAt K C "sees" "Reader.sees" s_Reader_sees) (B : Bl mg) (RK : RC K C) : MetX P w K mg base 1 C "sees" ["self", "kind", "value"] (spSees C) := by
  refine met_mk dx sc_Reader_sees (fun _ _ _ _ _ _ us hl => match us, hl with | [_, _, _], _ => rfl) (fun vs H Q E h => ?_) (fun f cdv A outer s H vs Q E hr h => ?_)
  · obtain ⟨r, L, ts, k, v, rfl, _⟩ := h
    rfl
  · obtain ⟨r, L, ts, kd, v, rfl, hk, R, k⟩ := h
    refine ⟨_, (pss_cons (ps_if (pt_cmpR op_ge (pe_fld (pv 0) rfl) (pe_callB call_len_seq (by rfl) B.len PySem.boot_len (pa_cons (pe_fld (pv 0) rfl) pa_nil)) (nomark _))
      (pss_one (ps_ret pe_bl))
      pss_nil)
      (pss_one (ps_ret (pe_and (pe_cmpR op_eq (pe_ix ix_tup (pe_ix ix_list (pe_fld (pv 0) rfl) (pe_fld (pv 0) rfl) (fun _ _ => rfl)) pe_int (fun _ _ => rfl)) (pv 1) (nomark _)) (pe_one (pe_cmpR op_eq (pe_ix ix_tup (pe_ix ix_list (pe_fld (pv 0) rfl) (pe_fld (pv 0) rfl) (fun _ _ => rfl)) pe_int (fun _ _ => rfl)) (pv 2) (nomark _))))))), ?_⟩
    obtain ⟨T, dx, l, p, vs, rfl, hp, hr1, hl1, hT, hb1, hb2, hb3⟩ := R.ex
    have hcl := RK.cls
    have hn1 := RK.na "rest" (by decide)
    have hn2 := RK.na "place" (by decide)
    have hn3 := RK.na "limit" (by decide)
    walk_at "rp"
    refine ⟨l, vs, rfl, .inl (SqL.of hl1), ?_⟩
    walk_at "rp"
    have hlv : vs.length = T.length := by rw [hT.len, List.length_map]
    rw [hlv]
    refine r_ite (fun h1 => ?_) (fun h1 => ?_)
    · have h1 : ¬ p < T.length := by have := of_decide_eq_true h1; omega
      walk_at "rp"
      rw [drop_all h1] at k
      exact k
    · have h1 : p < T.length := by have := of_decide_eq_false h1; omega
      obtain ⟨a, v1, e1, e2, e3, e4⟩ := tok_at hT h1
      walk_at "rp"
      refine r_ixL (SqL.of hl1) e1 ?_
      walk_at "rp"
      refine r_ixT (n := 0) (SqT.of e2) rfl ?_
      walk_at "rp"
      rw [e4] at k
      have k : Q (.bl (decide (T[p].1.kind = kd) && decide (T[p].1.txt = v))) H := k
      refine r_ite (fun h2 => ?_) (fun h2 => ?_)
      · have e5 := of_decide_eq_true h2
        obtain rfl := val_txt e3 (by rw [e5]; exact hk)
        rw [h2] at k
        walk_at "rp"
        refine r_ixL (SqL.of hl1) e1 ?_
        walk_at "rp"
        refine r_ixT (n := 1) (SqT.of e2) rfl ?_
        walk_at "rp"
        exact k
      · rw [h2] at k
        walk_at "rp"
        exact k
abbrev s_Reader_sees_kind : Stmt := inClass (top 25) 3
theorem sc_Reader_sees_kind : FnScope ["self", "kind"] ["self", "kind"] (defScope s_Reader_sees_kind) := ⟨rfl, rfl, rfl, by decide +kernel, rfl, by decide +kernel, by decide +kernel⟩
theorem met_sees_kind {C : Addr} (dx : MetAt K C "sees_kind" "Reader.sees_kind" s_Reader_sees_kind) (B : Bl mg) (RK : RC K C) : MetX P w K mg base 1 C "sees_kind" ["self", "kind"] (spKind C) := by
  refine met_mk dx sc_Reader_sees_kind (fun _ _ _ _ _ _ us hl => match us, hl with | [_, _], _ => rfl) (fun vs H Q E h => ?_) (fun f cdv A outer s H vs Q E hr h => ?_)
  · obtain ⟨r, L, ts, k, rfl, _⟩ := h
    rfl
  · obtain ⟨r, L, ts, kd, rfl, R, k⟩ := h
    refine ⟨_, (pss_one (ps_ret (pe_and (pe_cmpR op_lt (pe_fld (pv 0) rfl) (pe_callB call_len_seq (by rfl) B.len PySem.boot_len (pa_cons (pe_fld (pv 0) rfl) pa_nil)) (nomark _)) (pe_one (pe_cmpR op_eq (pe_ix ix_tup (pe_ix ix_list (pe_fld (pv 0) rfl) (pe_fld (pv 0) rfl) (fun _ _ => rfl)) pe_int (fun _ _ => rfl)) (pv 1) (nomark _)))))), ?_⟩
    obtain ⟨T, dx, l, p, vs, rfl, hp, hr1, hl1, hT, hb1, hb2, hb3⟩ := R.ex
    have hcl := RK.cls
    have hn1 := RK.na "rest" (by decide)
    have hn2 := RK.na "place" (by decide)
    have hn3 := RK.na "limit" (by decide)
    walk_at "rp"
    refine ⟨l, vs, rfl, .inl (SqL.of hl1), ?_⟩
    walk_at "rp"
    have hlv : vs.length = T.length := by rw [hT.len, List.length_map]
    rw [hlv]
    refine r_ite (fun h1 => ?_) (fun h1 => ?_)
    · have h1 : p < T.length := by have := of_decide_eq_true h1; omega
      obtain ⟨a, v1, e1, e2, e3, e4⟩ := tok_at hT h1
      walk_at "rp"
      refine r_ixL (SqL.of hl1) e1 ?_
      walk_at "rp"
      refine r_ixT (n := 0) (SqT.of e2) rfl ?_
      walk_at "rp"
      rw [e4] at k
      exact k
    · have h1 : ¬ p < T.length := by have := of_decide_eq_false h1; omega
      walk_at "rp"
      rw [drop_all h1] at k
      exact k
abbrev s_Reader_accept : Stmt := inClass (top 25) 4
theorem sc_Reader_accept : FnScope ["self", "kind", "value"] ["self", "kind", "value"] (defScope s_Reader_accept) := ⟨rfl, rfl, rfl, by decide +kernel, rfl, by decide +kernel, by decide +kernel⟩
theorem met_accept {C : Addr} (dx : MetAt K C "accept" "Reader.accept" s_Reader_accept) (B : Bl mg) (RK : RC K C) (M_sees : MetX P w K mg base 1 C "sees" ["self", "kind", "value"] (spSees C)) : MetX P w K mg base 2 C "accept" ["self", "kind", "value"] (spAcc C) := by
  refine met_mk dx sc_Reader_accept (fun _ _ _ _ _ _ us hl => match us, hl with | [_, _, _], _ => rfl) (fun vs H Q E h => ?_) (fun f cdv A outer s H vs Q E hr h => ?_)
  · obtain ⟨r, L, ts, k, v, rfl, _⟩ := h
    rfl
  · obtain ⟨r, L, ts, kd, v, rfl, hk, R, k1, k2⟩ := h
    have tk : L2N.Takes (cxOf (L2N.CX P w) P w K mg base ["self", "kind", "value"] "Reader.accept" (defScope s_Reader_accept) f cdv A outer s H E) (fun cls d _ H => E cls d H) := L2N.takes_of rfl rfl rfl rfl
    refine ⟨_, (pss_cons (ps_if (pt_val (pe_metX M_sees (hr.mono (by first | decide | omega)) tk (pv 0) (pa_cons (pv 1) (pa_cons (pv 2) pa_nil))))
      (pss_cons (ps_fld (pv 0) (pe_op op_add (pe_fld (pv 0) rfl) pe_int) rfl)
      (pss_one (ps_ret pe_bl)))
      pss_nil)
      (pss_one (ps_ret pe_bl))), ?_⟩
    have hcl := RK.cls
    have hn1 := RK.na "rest" (by decide)
    have hn2 := RK.na "place" (by decide)
    have hn3 := RK.na "limit" (by decide)
    walk_at "rp"
    refine ⟨r, L, ts, kd, v, rfl, hk, R, ?_⟩
    walk_at "rp"
    refine r_ite (fun h1 => ?_) (fun h1 => ?_)
    · obtain ⟨T, dx, l, p, vs, rfl, hp, hr1, hl1, hT, hb⟩ := R.ex
      walk_at "rp"
      refine ⟨r, C, dx, _, rfl, hr1, hcl, hn2, by simp, ?_⟩
      walk_at "rp"
      exact k1 h1 _ (RSame.upd RSame.refl hr1 rfl) (Rdr.next (sees_lt h1) hr1 hl1 hT hb)
    · walk_at "rp"
      exact k2 h1
abbrev s_Reader_expect : Stmt := inClass (top 25) 5
theorem sc_Reader_expect : FnScope ["self", "kind", "value"] ["self", "kind", "value"] (defScope s_Reader_expect) := ⟨rfl, rfl, rfl, by decide +kernel, rfl, by decide +kernel, by decide +kernel⟩
theorem met_expect {C DM DO : Addr} (dx : MetAt K C "expect" "Reader.expect" s_Reader_expect) (B : Bl mg) (RK : RC K C) (M_at : MetX P w K mg base 1 C "at" ["self"] (spAt C)) (M_accept : MetX P w K mg base 2 C "accept" ["self", "kind", "value"] (spAcc C)) (XMalformed : ExC1 P w K mg base "Malformed" DM "at" CMal) : MetX P w K mg base 3 C "expect" ["self", "kind", "value"] (spExp C DM DO) := by
  refine met_mk dx sc_Reader_expect (fun _ _ _ _ _ _ us hl => match us, hl with | [_, _, _], _ => rfl) (fun vs H Q E h => ?_) (fun f cdv A outer s H vs Q E hr h => ?_)
  · obtain ⟨r, L, ts, k, v, rfl, _⟩ := h
    rfl
  · obtain ⟨r, L, ts, kd, v, rfl, hk, R, k1, k2⟩ := h
    have tk : L2N.Takes (cxOf (L2N.CX P w) P w K mg base ["self", "kind", "value"] "Reader.expect" (defScope s_Reader_expect) f cdv A outer s H E) (fun cls d _ H => E cls d H) := L2N.takes_of rfl rfl rfl rfl
    have hcl := RK.cls
    have hn1 := RK.na "rest" (by decide)
    have hn2 := RK.na "place" (by decide)
    have hn3 := RK.na "limit" (by decide)
    refine ⟨_, (pss_one (ps_if (pt_not (pt_val (pe_metX M_accept (hr.mono (by first | decide | omega)) tk (pv 0) (pa_cons (pv 1) (pa_cons (pv 2) pa_nil)))))
      (pss_one (ps_raiseX rfl tk (pmk_x1 XMalformed (hr.mono (by decide)) (pa_cons (pe_metX0 M_at (hr.mono (by first | decide | omega)) tk (pv 0)) pa_nil))))
      pss_nil)), ?_⟩
    walk_at "rp"
    refine ⟨r, L, ts, kd, v, rfl, hk, R, fun h1 H1 hs1 R1 => ?_, fun h1 => ?_⟩
    · walk_at "rp"
      exact k1 h1 _ hs1 R1
    · walk_at "rp"
      refine ⟨r, L, ts, rfl, R, ?_⟩
      walk_at "rp"
      exact r_mkx (cMal_at R) fun d H' hd hs hx => k2 h1 d H' (RSame.same hs) hx
abbrev s_Reader_read : Stmt := inClass (top 25) 6
theorem sc_Reader_read : FnScope ["self", "kind"] ["self", "kind"] (defScope s_Reader_read) := ⟨rfl, rfl, rfl, by decide +kernel, rfl, by decide +kernel, by decide +kernel⟩
theorem met_read {C DM DO : Addr} (dx : MetAt K C "read" "Reader.read" s_Reader_read) (B : Bl mg) (RK : RC K C) (M_at : MetX P w K mg base 1 C "at" ["self"] (spAt C)) (M_sees_kind : MetX P w K mg base 1 C "sees_kind" ["self", "kind"] (spKind C)) (XMalformed : ExC1 P w K mg base "Malformed" DM "at" CMal) : MetX P w K mg base 3 C "read" ["self", "kind"] (spRead C DM DO) := by
  refine met_mk dx sc_Reader_read (fun _ _ _ _ _ _ us hl => match us, hl with | [_, _], _ => rfl) (fun vs H Q E h => ?_) (fun f cdv A outer s H vs Q E hr h => ?_)
  · obtain ⟨r, L, ts, k, rfl, _⟩ := h
    rfl
  · obtain ⟨r, L, ts, kd, rfl, R, k1, k2⟩ := h
    have tk : L2N.Takes (cxOf (L2N.CX P w) P w K mg base ["self", "kind"] "Reader.read" (defScope s_Reader_read) f cdv A outer s H E) (fun cls d _ H => E cls d H) := L2N.takes_of rfl rfl rfl rfl
    have hcl := RK.cls
    have hn1 := RK.na "rest" (by decide)
    have hn2 := RK.na "place" (by decide)
    have hn3 := RK.na "limit" (by decide)
    refine ⟨_, (pss_cons (ps_if (pt_not (pt_val (pe_metX M_sees_kind (hr.mono (by first | decide | omega)) tk (pv 0) (pa_cons (pv 1) pa_nil))))
      (pss_one (ps_raiseX rfl tk (pmk_x1 XMalformed (hr.mono (by decide)) (pa_cons (pe_metX0 M_at (hr.mono (by first | decide | omega)) tk (pv 0)) pa_nil))))
      pss_nil)
      (pss_cons (ps_fld (pv 0) (pe_op op_add (pe_fld (pv 0) rfl) pe_int) rfl)
      (pss_one (ps_ret (pe_ix ix_tup (pe_ix ix_list (pe_fld (pv 0) rfl) (pe_op op_sub (pe_fld (pv 0) rfl) pe_int) (fun _ _ => rfl)) pe_int (fun _ _ => rfl)))))), ?_⟩
    walk_at "rp"
    refine ⟨r, L, ts, kd, rfl, R, ?_⟩
    walk_at "rp"
    refine r_ite (fun h1 => ?_) (fun h1 => ?_)
    · walk_at "rp"
      refine ⟨r, L, ts, rfl, R, ?_⟩
      walk_at "rp"
      exact r_mkx (cMal_at R) fun d H' hd hs hx => k2 (by simpa using h1) d H' (RSame.same hs) hx
    · have h1 : kindB ts kd = true := by simpa using h1
      obtain ⟨T, dx, l, p, vs, rfl, hp, hr1, hl1, hT, hb⟩ := R.ex
      obtain ⟨a, v1, e1, e2, e3, e4⟩ := tok_at hT (kind_lt h1)
      walk_at "rp"
      refine ⟨r, C, dx, _, rfl, hr1, hcl, hn2, by simp, ?_⟩
      have R' := Rdr.next (kind_lt h1) hr1 hl1 hT hb
      have hH2 : L2.upd H r (.ins C dx (rfs l (p + 1) L)) r = some (.ins C dx (rfs l (p + 1) L)) := upd_same
      have hs2 : RSame r H (L2.upd H r (.ins C dx (rfs l (p + 1) L))) := RSame.upd RSame.refl hr1 rfl
      have hl2 := hs2.get l _ (fun e => by rw [e, hr1] at hl1; cases hl1) hl1
      have ha2 := hs2.get a _ (fun e => by rw [e, hr1] at e2; cases e2) e2
      have e3' := e3.keep (RSame.keep hs2 hr1)
      have k1 := k1 h1
      rw [show putF "place" (V.int ((p : Int) + 1)) _ = rfs l (p + 1) L from putF_place l p L]
      generalize L2.upd H r (.ins C dx (rfs l (p + 1) L)) = H1 at *
      walk_at "rp"
      rw [show (((p + 1 : Nat) : Int) - 1) = ((p : Nat) : Int) by omega]
      refine r_ixL (SqL.of hl2) e1 ?_
      walk_at "rp"
      refine r_ixT (n := 1) (SqT.of ha2) rfl ?_
      refine k1 v1 H1 hs2 R' ?_
      rw [e4]; exact e3'
abbrev s_Reader_whole : Stmt := inClass (top 25) 7
theorem sc_Reader_whole : FnScope ["self", "limit", "at", "top", "bottom"] ["self", "limit"] (defScope s_Reader_whole) := ⟨rfl, rfl, rfl, by decide +kernel, rfl, by decide +kernel, by decide +kernel⟩
theorem met_whole {C DM DO : Addr} (dx : MetAt K C "whole" "Reader.whole" s_Reader_whole) (B : Bl mg) (RK : RC K C) (M_at : MetX P w K mg base 1 C "at" ["self"] (spAt C)) (M_read : MetX P w K mg base 3 C "read" ["self", "kind"] (spRead C DM DO)) (XMalformed : ExC1 P w K mg base "Malformed" DM "at" CMal) : MetX P w K mg base 4 C "whole" ["self", "limit"] (spWhole C DM DO) := by
  refine met_mk dx sc_Reader_whole (fun _ _ _ _ _ _ us hl => match us, hl with | [_, _], _ => rfl) (fun vs H Q E h => ?_) (fun f cdv A outer s H vs Q E hr h => ?_)
  · obtain ⟨r, L, ts, lim, rfl, _⟩ := h
    rfl
  · obtain ⟨r, L, ts, lim, rfl, R, o, ho, k⟩ := h
    have tk : L2N.Takes (cxOf (L2N.CX P w) P w K mg base ["self", "limit", "at", "top", "bottom"] "Reader.whole" (defScope s_Reader_whole) f cdv A outer s H E) (fun cls d _ H => E cls d H) := L2N.takes_of rfl rfl rfl rfl
    have hcl := RK.cls
    have hn1 := RK.na "rest" (by decide)
    have hn2 := RK.na "place" (by decide)
    have hn3 := RK.na "limit" (by decide)
    refine ⟨_, (pss_cons (ps_set (i := 2) sc_Reader_whole.nd rfl (Or.inl rfl) (pe_metX0 M_at (hr.mono (by first | decide | omega)) tk (pv 0)))
      (pss_cons (ps_asg (pe_metX M_read (hr.mono (by first | decide | omega)) tk (pv 0) (pa_cons pe_str pa_nil)) (pg_tup rfl (pgs_cons (pg_name (i := 3) sc_Reader_whole.nd rfl (Or.inl rfl)) (pgs_cons (pg_name (i := 4) sc_Reader_whole.nd rfl (Or.inl rfl)) pgs_nil))))
      (pss_cons (ps_if (PW.pt (pw_or (pt_cmpR op_ne (pv 4) pe_int (nomark _)) (pw_or1 (pt_cmpR op_gt (pv 3) (pv 1) (nomark _)))))
      (pss_one (ps_raiseX rfl tk (pmk_x1 XMalformed (hr.mono (by decide)) (pa_cons (pv 2) pa_nil))))
      pss_nil)
      (pss_one (ps_ret (pv 3)))))), ?_⟩
    walk_at "rp"
    refine ⟨r, L, ts, rfl, R, ?_⟩
    walk_at "rp"
    refine ⟨r, L, ts, _, rfl, R, fun h1 v H1 hs1 R1 tv => ?_, fun h1 => k.err _ (by rw [whole_no h1] at ho; exact (Option.some.inj ho).symm)⟩
    obtain ⟨a, b, i, rest, rfl⟩ := kind_num h1
    have ho2 : (if b ≠ 1 ∨ lim < a then some (.error (.mal i)) else some (.ok ((a : Int), rest))) = some o := ho
    cases tv with
    | @tup p xs ds hp hxs =>
      cases hxs with
      | cons t1 hxs =>
        cases hxs with
        | cons t2 hxs =>
          cases hxs with
          | nil =>
            cases t1 with
            | int i1 =>
              cases t2 with
              | int i2 =>
                walk_at "rp"
                refine ⟨p, _, rfl, SqT.of hp, rfl, _, _, rfl, _, _, rfl, rfl, ?_⟩
                walk_at "rp"
                by_cases hc : b ≠ 1 ∨ lim < a
                · rw [if_pos hc] at ho2
                  have kk := (k.err _ (Option.some.inj ho2).symm).mono hs1
                  refine r_ite (fun h2 => ?_) (fun h2 => ?_)
                  · walk_at "rp"
                    exact r_mkx (cMal_at R) fun d H' hd hs hx => kk d H' (RSame.same hs) hx
                  · walk_at "rp"
                    refine r_ite (fun h3 => ?_) (fun h3 => ?_)
                    · walk_at "rp"
                      exact r_mkx (cMal_at R) fun d H' hd hs hx => kk d H' (RSame.same hs) hx
                    · exfalso
                      have h2 : b = 1 := by
                        have := of_decide_eq_true (show decide ((b : Int) = 1) = true by simpa using h2)
                        omega
                      have h3 := of_decide_eq_false h3
                      rcases hc with hc | hc <;> omega
                · rw [if_neg hc] at ho2
                  have h2 : b = 1 := by omega
                  subst h2
                  refine iteNT' (by decide) ?_
                  walk_at "rp"
                  refine r_ite (fun h3 => ?_) (fun h3 => ?_)
                  · exfalso
                    have h3 := of_decide_eq_true h3
                    omega
                  · walk_at "rp"
                    exact k.ok _ _ (Option.some.inj ho2).symm _ _ hs1 R1 (Nat.le_succ _) rfl
abbrev s_Reader_deeper : Stmt := inClass (top 25) 8
theorem sc_Reader_deeper : FnScope ["self", "level"] ["self", "level"] (defScope s_Reader_deeper) := ⟨rfl, rfl, rfl, by decide +kernel, rfl, by decide +kernel, by decide +kernel⟩
theorem met_deeper {C DM DO : Addr} (dx : MetAt K C "deeper" "Reader.deeper" s_Reader_deeper) (B : Bl mg) (RK : RC K C) (PL : ParC K w mg) (XOversized : ExC1 P w K mg base "Oversized" DO "limit" COver) : MetX P w K mg base 3 C "deeper" ["self", "level"] (spDeep C DM DO) := by
  refine met_mk dx sc_Reader_deeper (fun _ _ _ _ _ _ us hl => match us, hl with | [_, _], _ => rfl) (fun vs H Q E h => ?_) (fun f cdv A outer s H vs Q E hr h => ?_)
  · obtain ⟨r, n, rfl, _⟩ := h
    rfl
  · obtain ⟨r, n, rfl, hi, hn, k1, k2⟩ := h
    have tk : L2N.Takes (cxOf (L2N.CX P w) P w K mg base ["self", "level"] "Reader.deeper" (defScope s_Reader_deeper) f cdv A outer s H E) (fun cls d _ H => E cls d H) := L2N.takes_of rfl rfl rfl rfl
    have hcl := RK.cls
    have hn1 := RK.na "rest" (by decide)
    have hn2 := RK.na "place" (by decide)
    have hn3 := RK.na "limit" (by decide)
    refine ⟨_, (pss_cons (ps_if (pt_cmpR op_ge (pv 1) (pe_gint PL.gMD) (nomark _))
      (pss_one (ps_raiseX rfl tk (pmk_x1 XOversized (hr.mono (by decide)) (pa_cons pe_str pa_nil))))
      pss_nil)
      (pss_one (ps_ret (pe_op op_add (pv 1) pe_int)))), ?_⟩
    walk_at "rp"
    refine r_ite (fun h1 => ?_) (fun h1 => ?_)
    · have h1 := of_decide_eq_true h1
      walk_at "rp"
      exact r_mkx ⟨_, rfl⟩ fun d H' hd hs hx => k1 (by omega) d H' (RSame.same hs) hx
    · have h1 := of_decide_eq_false h1
      walk_at "rp"
      obtain ⟨m, rfl⟩ : ∃ m, n = m + 1 := ⟨n - 1, by omega⟩
      rw [show (24 - ((m + 1 : Nat) : Int)) + 1 = 24 - (m : Int) by omega]
      exact k2 m rfl
end
end Al
namespace Al
open PySem PySem.Spec PyProof.Rows L2 NdefX PySem.W
local macro_rules | `(tactic| walk_at "rd1") => `(tactic| with_reducible first
  | (show tVar _ _ _ _; refine r_var (by with_unfolding_all rfl) ?_) | refine r_c ?_ | refine r_op ?_ | refine r_I0 ?_ | refine r_un ?_ | refine r_U ?_
  | (show rI _ _ _ _ _ _; refine r_I (by with_unfolding_all first | exact ⟨by decide, by decide⟩ | (show (0 : Int) < _; decide)) ?_)
  | refine r_eqI ?_ | refine r_neI ?_ | refine r_eqS ?_ | refine r_neS ?_ | refine r_eqB ?_ | refine r_neB ?_ | refine r_chain ?_
  | refine r_test ?_ | refine r_B ?_ | refine r_bl ?_ | refine r_int ?_ | refine r_and ?_ | refine r_or ?_ | refine r_not ?_ | refine r_andV ?_ | refine r_orV ?_ | refine r_notV ?_
  | refine r_if ?_ | refine r_nil ?_ | refine r_cons ?_ | refine r_cb ?_ | refine r_call ?_ | refine r_callS ?_ | refine r_tup ?_ | refine r_lst ?_ | refine r_seq ?_ | refine r_next ?_ | refine r_asg ?_
  | refine r_name ?_ | refine r_ifS ?_ | refine r_ret ?_ | refine r_retN ?_ | refine r_drop ?_ | refine r_brk ?_ | refine r_ct ?_ | refine r_sl ?_ | refine r_part ?_ | refine r_nopart ?_
  | refine r_bm ?_ | refine r_bm0 ?_ | refine r_raiseX ?_ | refine r_mkO ?_ | refine iteF ?_ | refine iteT ?_ | refine r_int1 ?_ | refine r_int1b ?_ | (show _ ≤ sizeLine ∧ _; refine r_sz (by with_unfolding_all first | omega | (simp only [List.length_cons, List.length_nil]; omega)) ?_)
  | (show ∃ _, _; refine ⟨_, rfl, ?_⟩) | (show ∃ _, _; refine ⟨_, _, rfl, rfl, ?_⟩) | (show ∃ _, _; refine ⟨_, _, rfl, ?_⟩))
local macro_rules | `(tactic| walk_at "rd") => `(tactic| repeat (walk_at "rd1"))
local macro_rules | `(tactic| walk_at "rd2") => `(tactic| with_reducible first
  | (show tFld _ _ _ _ _ _; refine r_fldI (by with_unfolding_all rfl) (by with_unfolding_all assumption) (by with_unfolding_all assumption) (by with_unfolding_all assumption) (by with_unfolding_all rfl) ?_)
  | (show tMetS _ _ _ _ _ _ _ _ _; refine r_rm (by with_unfolding_all assumption) (by with_unfolding_all rfl) (by decide) ?_)
  | refine r_sfl ?_ | refine iteNF ?_ | refine iteNT ?_ | refine r_makS ?_)
local macro_rules | `(tactic| walk_at "rp") => `(tactic| repeat first | walk_at "rd1" | walk_at "rd2")

section
variable {P : Program} {w : World} {K : Frag} {mg : Str → Option Value} {base : Heap} {C DM DO : Addr}
abbrev s_read_power : Stmt := top 26
theorem sc_read_power : FnScope ["reader"] ["reader"] (defScope s_read_power) := ⟨rfl, rfl, rfl, by decide +kernel, rfl, by decide +kernel, by decide +kernel⟩
theorem cal_read_power (dx : DefAt K mg "read_power" s_read_power) (B : Bl mg) (PL : ParC K w mg) (M : RdM P w K mg base C DM DO)  : Cal P w K mg base (5) "read_power" ["reader"] (spG0 C DM DO pPower (fun a v _ => v = .int a)) := by
  obtain ⟨RK, M_at, M_sees, M_sees_kind, M_accept, M_expect, M_read, M_whole, M_deeper⟩ := M
  refine cal_mk dx sc_read_power (fun _ _ _ _ _ _ us hl => match us, hl with | [_], _ => rfl) (fun vs H Q E h => ?_) (fun f cdv A outer s H vs Q E hr h => ?_)
  · obtain ⟨r, L, ts, rfl, _⟩ := h
    rfl
  · obtain ⟨r, L, ts, rfl, R, o, ho, k⟩ := h
    have tk : L2N.Takes (cxOf (L2N.CX P w) P w K mg base ["reader"] "read_power" (defScope s_read_power) f cdv A outer s H E) (fun cls d _ H => E cls d H) := L2N.takes_of rfl rfl rfl rfl
    refine ⟨_, (pss_cons (ps_if (pt_val (pe_metX M_accept (hr.mono (by first | decide | omega)) tk (pv 0) (pa_cons pe_str (pa_cons pe_str pa_nil))))
      (pss_one (ps_ret (pe_un un_neg (pe_metX M_whole (hr.mono (by first | decide | omega)) tk (pv 0) (pa_cons (pe_gint PL.gMP) pa_nil)))))
      pss_nil)
      (pss_one (ps_ret (pe_metX M_whole (hr.mono (by first | decide | omega)) tk (pv 0) (pa_cons (pe_gint PL.gMP) pa_nil))))), ?_⟩
    unfold pPower at ho
    walk_at "rp"
    refine ⟨r, L, ts, _, _, rfl, by decide, R, fun h1 H1 hs1 R1 => ?_, fun h1 => ?_⟩
    · have ho := b_accT h1 ho
      walk_at "rp"
      refine ⟨r, L, _, 9, rfl, R1, r_sub ho k.err hs1 fun a ts' v H' h' s' R' hl hv => ?_⟩
      subst hv
      walk_at "rp"
      exact k.ok _ _ (b_ret h') _ _ (hs1.trans s') R' (by rw [List.length_tail] at hl; omega) rfl
    · have ho := b_accF h1 ho
      walk_at "rp"
      exact ⟨r, L, _, 9, rfl, R, r_tail ho k.err RSame.refl fun a ts' v H' h' s' R' hl hv => k.ok _ _ h' _ _ s' R' hl hv⟩
abbrev s_read_product : Stmt := top 27
theorem sc_read_product : FnScope ["reader", "result", "at", "name", "power"] ["reader"] (defScope s_read_product) := ⟨rfl, rfl, rfl, by decide +kernel, rfl, by decide +kernel, by decide +kernel⟩
theorem cal_read_product (dx : DefAt K mg "read_product" s_read_product) (B : Bl mg) (PL : ParC K w mg) (M : RdM P w K mg base C DM DO) (G_read_power : Cal P w K mg base 5 "read_power" ["reader"] (spG0 C DM DO pPower (fun a v _ => v = .int a))) : Cal P w K mg base (6) "read_product" ["reader"] (spR0 C DM DO pProd) := by
  obtain ⟨RK, M_at, M_sees, M_sees_kind, M_accept, M_expect, M_read, M_whole, M_deeper⟩ := M
  refine cal_mk dx sc_read_product (fun _ _ _ _ _ _ us hl => match us, hl with | [_], _ => rfl) (fun vs H Q E h => ?_) (fun f cdv A outer s H vs Q E hr h => ?_)
  · obtain ⟨r, L, ts, rfl, _⟩ := h
    rfl
  · obtain ⟨r, L, ts, rfl, R, o, ho, k⟩ := h
    have tk : L2N.Takes (cxOf (L2N.CX P w) P w K mg base ["reader", "result", "at", "name", "power"] "read_product" (defScope s_read_product) f cdv A outer s H E) (fun cls d _ H => E cls d H) := L2N.takes_of rfl rfl rfl rfl
    refine ⟨_, (pss_cons (ps_expr (pe_metX M_expect (hr.mono (by first | decide | omega)) tk (pv 0) (pa_cons pe_str (pa_cons pe_str pa_nil))))
      (pss_cons (ps_set (i := 1) sc_read_product.nd rfl (Or.inl rfl) (pe_lst pa_nil))
      (pss_cons (ps_while (passes_of rfl) (pt_not (pt_val (pe_metX M_accept (hr.mono (by first | decide | omega)) tk (pv 0) (pa_cons pe_str (pa_cons pe_str pa_nil)))))
      (pss_cons (ps_set (i := 2) sc_read_product.nd rfl (Or.inl rfl) (pe_metX0 M_at (hr.mono (by first | decide | omega)) tk (pv 0)))
      (pss_cons (ps_set (i := 3) sc_read_product.nd rfl (Or.inl rfl) (pe_metX M_read (hr.mono (by first | decide | omega)) tk (pv 0) (pa_cons pe_str pa_nil)))
      (pss_cons (ps_set (i := 4) sc_read_product.nd rfl (Or.inl rfl) pe_int)
      (pss_cons (ps_if (pt_val (pe_metX M_accept (hr.mono (by first | decide | omega)) tk (pv 0) (pa_cons pe_str (pa_cons pe_str pa_nil))))
      (pss_one (ps_set (i := 4) sc_read_product.nd rfl (Or.inl rfl) (pe_cal G_read_power (hr.mono (by first | decide | omega)) tk (pa_cons (pv 0) pa_nil))))
      pss_nil)
      (pss_one (ps_expr (pe_bm PySem.F.plainAttrs_list PySem.F.slot_list_append PySem.F.type_list_append mt_append (pv 1) (pa_cons (pe_tup (pa_cons (pv 3) (pa_cons (pv 4) (pa_cons (pv 2) pa_nil)))) pa_nil)))))))))
      (pss_one (ps_ret (pe_callTy call_tuple_of (by rfl) B.tuple (by decide +kernel) (pa_cons (pv 1) pa_nil))))))), ?_⟩
    unfold pProd at ho
    walk_at "rp"
    refine ⟨r, L, ts, _, _, rfl, by decide, R, fun h1 H1 hs1 R1 => ?_, fun h1 => k.err _ (b_expF h1 ho)⟩
    have ho := b_expT h1 ho
    walk_at "rp"
    intro q hq
    walk_at "rp"
    have hHq : q ≠ r := by
      obtain ⟨dx, fs, hi⟩ := R1.ins
      exact (RSame.fresh RSame.refl hi hq).2
    have R1q : Rdr C (upd H1 q (.lst [])) r L ts.tail := R1.same (Same.new hq)
    have htl : ts.tail.length ≤ ts.length := by rw [List.length_tail]; omega
    refine ⟨fun m σ' H' => ∃ v2 v3 v4 us acc ts', σ' = [some (.ref r), some (.ref q), v2, v3, v4] ∧ RSame r H1 H' ∧ Rdr C H' r L ts' ∧ H' q = some (.lst us) ∧ TpAll H' us acc ∧ pProdL L acc ts' = some o ∧ ts'.length ≤ ts.length ∧ us.length + ts'.length ≤ 20000 ∧ m = ts'.length,
      ⟨_, none, none, none, [], [], ts.tail, rfl, RSame.refl.new hq, R1q, upd_same, .nil, ho, htl, by have := R.len; simp only [List.length_nil]; omega, rfl⟩, ?_⟩
    rintro m σ' H' ⟨v2, v3, v4, us, acc, ts', rfl, hs, R', hql, hus, hp, htl', hlen, rfl⟩
    have hqr := hHq
    rw [pProdL.eq_def] at hp
    walk_at "rp"
    refine ⟨r, L, ts', _, _, rfl, by decide, R', fun h1 H2 hs2 R2 => ?_, fun h1 => ?_⟩
    · have hp := b_accT h1 hp
      have hql2 := hs2.get _ _ hqr hql
      walk_at "rp"
      refine ⟨q, us, rfl, .inl ⟨SqL.of hql2, fun l hl => ?_⟩⟩
      walk_at "rp"
      refine k.ok _ _ (b_ret hp) _ _ ((hs1.trans (hs.trans hs2)).new hl) (R2.same (Same.new hl)) (by rw [List.length_tail]; omega) ?_
      exact .tup upd_same ((hus.keep (R'.keep hs2)).keep (Keep.new hl))
    · have hp := b_accF h1 hp
      have hp := b_at hp
      walk_at "rp"
      refine ⟨fun σ' H' => ∃ m', m' < ts'.length ∧ ∃ v2 v3 v4 us acc ts', σ' = [some (.ref r), some (.ref q), v2, v3, v4] ∧ RSame r H1 H' ∧ Rdr C H' r L ts' ∧ H' q = some (.lst us) ∧ TpAll H' us acc ∧ pProdL L acc ts' = some o ∧ ts'.length ≤ ts.length ∧ us.length + ts'.length ≤ 20000 ∧ m' = ts'.length, fun _ _ h => h, ?_⟩
      walk_at "rp"
      refine ⟨r, L, ts', rfl, R', ?_⟩
      walk_at "rp"
      refine ⟨r, L, ts', _, rfl, R', fun h2 v H2 hs2 R2 tv => ?_, fun h2 => (k.err _ (b_readF h2 hp)).mono (hs1.trans hs)⟩
      have hp := b_readT h2 hp
      have hql2 := hs2.get _ _ hqr hql
      have hus2 := hus.keep (R'.keep hs2)
      have hlt : ts'.tail.length + 1 = ts'.length := by
        cases ts' with
        | nil => cases h2
        | cons t rr => rfl
      walk_at "rp"
      refine ⟨r, L, ts'.tail, _, _, rfl, by decide, R2, fun h3 H3 hs3 R3 => ?_, fun h3 => ?_⟩
      · have hp := b_accT h3 hp
        have hql3 := hs3.get _ _ hqr hql2
        have hus3 := hus2.keep (R2.keep hs3)
        walk_at "rp"
        refine ⟨r, L, _, rfl, R3, r_sub hp k.err (hs1.trans ((hs.trans hs2).trans hs3)) fun a ts4 v4 H4 h4 s4 R4 hl4 hv => ?_⟩
        subst hv
        have hql4 := s4.get _ _ hqr hql3
        have hus4 := hus3.keep (R3.keep s4)
        walk_at "rp"
        refine ⟨.inl ⟨rfl, _, SqL.of hql4⟩, ?_⟩
        walk_at "rp"
        intro p1 hp1
        have hqp : q ≠ p1 := ne_of_none hql4 hp1
        refine ⟨q, us, .ref p1, rfl, rfl, by rw [upd_ne hqp]; exact hql4, by rw [sizeLine_eq]; omega, ?_⟩
        have kp1 := Keep.new (o := .tup [v, .int a, .int (atP L ts' : Int)]) hp1
        have kq1 := Keep.mut (p := q) (o := .lst (us ++ [.ref p1])) (show (upd H4 p1 (.tup [v, .int a, .int (atP L ts' : Int)])) q = some (.lst us) by rw [upd_ne hqp]; exact hql4) (fun xs z => nomatch z)
        have kk := kp1.trans kq1
        have hl3 : ts'.tail.tail.length ≤ ts'.tail.length := by rw [List.length_tail]; omega
        have tv4 := (tv.keep (R2.keep hs3)).keep (R3.keep s4)
        walk_at "rp"
        refine ⟨_, ?_, _, _, _, _, _, ts4, rfl, ((((hs.trans hs2).trans hs3).trans s4).new hp1).mut hq hqr, Rdr.mut R1 hq ((((hs.trans hs2).trans hs3).trans s4).new hp1) (R4.same (Same.new hp1)) (by rw [upd_ne hqp]; exact hql4), upd_same,
          TpAll.app (hus4.keep kk) (.cons (.tup (a := p1) (kq1 _ _ upd_same) (.cons (tv4.keep kk) (.cons (.int _) (.cons (.int _) .nil)))) .nil), h4, ?_, ?_, rfl⟩
        · omega
        · omega
        · rw [List.length_append]; simp only [List.length_cons, List.length_nil]; omega
      · have hp := b_accF h3 hp
        walk_at "rp"
        refine ⟨.inl ⟨rfl, _, SqL.of hql2⟩, ?_⟩
        walk_at "rp"
        intro p1 hp1
        have hqp : q ≠ p1 := ne_of_none hql2 hp1
        refine ⟨q, us, .ref p1, rfl, rfl, by rw [upd_ne hqp]; exact hql2, by rw [sizeLine_eq]; omega, ?_⟩
        have kp1 := Keep.new (o := .tup [v, .int 1, .int (atP L ts' : Int)]) hp1
        have kq1 := Keep.mut (p := q) (o := .lst (us ++ [.ref p1])) (show (upd H2 p1 (.tup [v, .int 1, .int (atP L ts' : Int)])) q = some (.lst us) by rw [upd_ne hqp]; exact hql2) (fun xs z => nomatch z)
        have kk := kp1.trans kq1
        have tv2 := tv
        walk_at "rp"
        refine ⟨_, ?_, _, _, _, _, _, ts'.tail, rfl, ((hs.trans hs2).new hp1).mut hq hqr, Rdr.mut R1 hq ((hs.trans hs2).new hp1) (R2.same (Same.new hp1)) (by rw [upd_ne hqp]; exact hql2), upd_same,
          TpAll.app (hus2.keep kk) (.cons (.tup (a := p1) (kq1 _ _ upd_same) (.cons (tv2.keep kk) (.cons (.int _) (.cons (.int _) .nil)))) .nil), hp, ?_, ?_, rfl⟩
        · omega
        · omega
        · rw [List.length_append]; simp only [List.length_cons, List.length_nil]; omega
abbrev s_read_call : Stmt := top 28
theorem sc_read_call : FnScope ["reader", "level", "result"] ["reader", "level"] (defScope s_read_call) := ⟨rfl, rfl, rfl, by decide +kernel, rfl, by decide +kernel, by decide +kernel⟩
theorem cal_read_call (dx : DefAt K mg "read_call" s_read_call) (B : Bl mg) (PL : ParC K w mg) (M : RdM P w K mg base C DM DO) {k N : Nat} (hk : 10 ≤ k) (hN1 : N + 1 ≤ 25) (G_read_expression : Cal P w K mg base (k) "read_expression" ["reader", "level"] (spRN C DM DO pExpr (N)))  : Cal P w K mg base (k + 1) "read_call" ["reader", "level"] (spRN C DM DO pCall (N + 1)) := by
  obtain ⟨RK, M_at, M_sees, M_sees_kind, M_accept, M_expect, M_read, M_whole, M_deeper⟩ := M
  refine cal_mk dx sc_read_call (fun _ _ _ _ _ _ us hl => match us, hl with | [_, _], _ => rfl) (fun vs H Q E h => ?_) (fun f cdv A outer s H vs Q E hr h => ?_)
  · obtain ⟨r, L, n, ts, rfl, _⟩ := h
    rfl
  · obtain ⟨r, L, n, ts, rfl, hn, hN, R, o, ho, k⟩ := h
    have tk : L2N.Takes (cxOf (L2N.CX P w) P w K mg base ["reader", "level", "result"] "read_call" (defScope s_read_call) f cdv A outer s H E) (fun cls d _ H => E cls d H) := L2N.takes_of rfl rfl rfl rfl
    refine ⟨_, (pss_cons (ps_set (i := 2) sc_read_call.nd rfl (Or.inl rfl) (pe_lst pa_nil))
      (pss_cons (ps_expr (pe_metX M_expect (hr.mono (by first | decide | omega)) tk (pv 0) (pa_cons pe_str (pa_cons pe_str pa_nil))))
      (pss_cons (ps_if (pt_not (pt_val (pe_metX M_accept (hr.mono (by first | decide | omega)) tk (pv 0) (pa_cons pe_str (pa_cons pe_str pa_nil)))))
      (pss_cons (ps_expr (pe_bm PySem.F.plainAttrs_list PySem.F.slot_list_append PySem.F.type_list_append mt_append (pv 2) (pa_cons (pe_cal G_read_expression (hr.mono (by first | decide | omega)) tk (pa_cons (pv 0) (pa_cons (pe_metX M_deeper (hr.mono (by first | decide | omega)) tk (pv 0) (pa_cons (pv 1) pa_nil)) pa_nil))) pa_nil)))
      (pss_cons (ps_while (passes_of rfl) (pt_val (pe_metX M_accept (hr.mono (by first | decide | omega)) tk (pv 0) (pa_cons pe_str (pa_cons pe_str pa_nil))))
      (pss_one (ps_expr (pe_bm PySem.F.plainAttrs_list PySem.F.slot_list_append PySem.F.type_list_append mt_append (pv 2) (pa_cons (pe_cal G_read_expression (hr.mono (by first | decide | omega)) tk (pa_cons (pv 0) (pa_cons (pe_metX M_deeper (hr.mono (by first | decide | omega)) tk (pv 0) (pa_cons (pv 1) pa_nil)) pa_nil))) pa_nil)))))
      (pss_one (ps_expr (pe_metX M_expect (hr.mono (by first | decide | omega)) tk (pv 0) (pa_cons pe_str (pa_cons pe_str pa_nil)))))))
      pss_nil)
      (pss_one (ps_ret (pe_callTy call_tuple_of (by rfl) B.tuple (by decide +kernel) (pa_cons (pv 2) pa_nil))))))), ?_⟩
    rw [pCall.eq_def] at ho
    walk_at "rp"
    intro q hq
    have R0 : Rdr C (upd H q (.lst [])) r L ts := R.same (Same.new hq)
    walk_at "rp"
    have hqr : q ≠ r := by
      obtain ⟨dx, fs, hi⟩ := R.ins
      exact (RSame.fresh RSame.refl hi hq).2
    refine ⟨r, L, ts, _, _, rfl, by decide, R0, fun h1 H1 hs1 R1 => ?_, fun h1 => (k.err _ (b_expF h1 ho)).mono (RSame.refl.new hq)⟩
    have ho := b_expT h1 ho
    have s1 := (RSame.refl.new hq).trans hs1
    have hq1 := hs1.get _ _ hqr upd_same
    have hl1 := tl_lt h1
    walk_at "rp"
    refine ⟨r, L, ts.tail, _, _, rfl, by decide, R1, fun h2 H2 hs2 R2 => ?_, fun h2 => ?_⟩
    · have ho := b_accT h2 ho
      have hq2 := hs2.get _ _ hqr hq1
      walk_at "rp"
      refine ⟨q, [], rfl, .inl ⟨SqL.of hq2, ?_⟩⟩
      exact r_ret_tup k ho (s1.trans hs2) R2 (Nat.le_trans tl_le (by omega)) .nil
    · have ho := b_accF h2 ho
      walk_at "rp"
      refine ⟨.inl ⟨rfl, _, SqL.of hq1⟩, ?_⟩
      walk_at "rp"
      refine ⟨r, n, rfl, R1.ins, by omega, fun h0 => (k.err _ (b_deep0 h0 ho)).mono s1, fun m hm => ?_⟩
      have ho := b_deepS hm ho
      walk_at "rp"
      refine ⟨r, L, m, _, rfl, by omega, by omega, R1, r_sub ho k.err s1 fun a ts2 v H2 ho s2 R2 hl2 tv => ?_⟩
      have hq2 := s2.get _ _ hqr hq1
      walk_at "rp"
      have hlen := R.len
      refine ⟨q, [], v, rfl, rfl, hq2, by decide, ?_⟩
      have s2' : RSame r H (upd H2 q (.lst ([] ++ [v]))) := (s1.trans s2).mut hq hqr
      have R2' : Rdr C (upd H2 q (.lst ([] ++ [v]))) r L ts2 := Rdr.mut R hq (s1.trans s2) R2 hq2
      have tv' : TpAll (upd H2 q (.lst ([] ++ [v]))) ([] ++ [v]) [a] := .cons (tv.keep (Keep.mut hq2 fun xs z => nomatch z)) .nil
      walk_at "rp"
      refine ⟨fun m σ' H' => ∃ us acc ts', σ' = [some (.ref r), some (.int (24 - (n : Int))), some (.ref q)] ∧ RSame r H H' ∧ Rdr C H' r L ts' ∧ H' q = some (.lst us) ∧ TpAll H' us acc ∧ pArgs L n acc ts' = some o ∧ ts'.length ≤ ts.length ∧ us.length + ts'.length ≤ 20000 ∧ m = ts'.length, ⟨_, _, _, ts2, rfl, s2', R2', upd_same, tv', ho, by omega, by simp only [List.length_append, List.length_cons, List.length_nil]; omega, rfl⟩, ?_⟩
      rintro m3 σ' H3 ⟨us, acc, ts3, rfl, hs, R3, hq3, hus, hp, htl3, hlen3, rfl⟩
      rw [pArgs.eq_def] at hp
      walk_at "rp"
      refine ⟨r, L, ts3, _, _, rfl, by decide, R3, fun h4 H4 hs4 R4 => ?_, fun h4 => ?_⟩
      · have hp := b_accT h4 hp
        have hq4 := hs4.get _ _ hqr hq3
        have hus4 := hus.keep (R3.keep hs4)
        have hl4 := tl_lt h4
        walk_at "rp"
        refine ⟨fun σ' H' => ∃ m', m' < ts3.length ∧ ∃ us acc ts', σ' = [some (.ref r), some (.int (24 - (n : Int))), some (.ref q)] ∧ RSame r H H' ∧ Rdr C H' r L ts' ∧ H' q = some (.lst us) ∧ TpAll H' us acc ∧ pArgs L n acc ts' = some o ∧ ts'.length ≤ ts.length ∧ us.length + ts'.length ≤ 20000 ∧ m' = ts'.length, fun _ _ h => h, ?_⟩
        walk_at "rp"
        refine ⟨.inl ⟨rfl, _, SqL.of hq4⟩, ?_⟩
        walk_at "rp"
        refine ⟨r, n, rfl, R4.ins, by omega, fun h0 => (k.err _ (b_deep0 h0 hp)).mono (hs.trans hs4), fun m hm => ?_⟩
        have hp := b_deepS hm hp
        walk_at "rp"
        refine ⟨r, L, m, _, rfl, by omega, by omega, R4, r_sub hp k.err (hs.trans hs4) fun a5 ts5 v5 H5 hp5 s5 R5 hl5 tv5 => ?_⟩
        have hq5 := s5.get _ _ hqr hq4
        walk_at "rp"
        refine ⟨q, us, v5, rfl, rfl, hq5, by rw [sizeLine_eq]; omega, ?_⟩
        have kq := Keep.mut (o := .lst (us ++ [v5])) hq5 fun xs z => nomatch z
        walk_at "rp"
        refine ⟨_, ?_, us ++ [v5], acc ++ [a5], ts5, rfl, ((hs.trans hs4).trans s5).mut hq hqr, Rdr.mut R hq ((hs.trans hs4).trans s5) R5 hq5, upd_same, ((hus4.keep (R4.keep s5)).keep kq).app (.cons (tv5.keep kq) .nil), hp5, ?_, ?_, rfl⟩
        · omega
        · omega
        · rw [List.length_append]; simp only [List.length_cons, List.length_nil]; omega
      · have hp := b_accF h4 hp
        walk_at "rp"
        refine ⟨r, L, ts3, _, _, rfl, by decide, R3, fun h5 H5 hs5 R5 => ?_, fun h5 => (k.err _ (b_expF h5 hp)).mono hs⟩
        have hp := b_expT h5 hp
        have hq5 := hs5.get _ _ hqr hq3
        walk_at "rp"
        refine ⟨q, us, rfl, .inl ⟨SqL.of hq5, ?_⟩⟩
        exact r_ret_tup k hp (hs.trans hs5) R5 (Nat.le_trans tl_le htl3) (hus.keep (R3.keep hs5))
end
end Al
namespace Al
open PySem PySem.Spec PyProof.Rows L2 NdefX PySem.W
local macro_rules | `(tactic| walk_at "rd1") => `(tactic| with_reducible first
  | (show tVar _ _ _ _; refine r_var (by with_unfolding_all rfl) ?_) | refine r_c ?_ | refine r_op ?_ | refine r_I0 ?_ | refine r_un ?_ | refine r_U ?_
  | (show rI _ _ _ _ _ _; refine r_I (by with_unfolding_all first | exact ⟨by decide, by decide⟩ | (show (0 : Int) < _; decide)) ?_)
  | refine r_eqI ?_ | refine r_neI ?_ | refine r_eqS ?_ | refine r_neS ?_ | refine r_eqB ?_ | refine r_neB ?_ | refine r_chain ?_
  | refine r_test ?_ | refine r_B ?_ | refine r_bl ?_ | refine r_int ?_ | refine r_and ?_ | refine r_or ?_ | refine r_not ?_ | refine r_andV ?_ | refine r_orV ?_ | refine r_notV ?_
  | refine r_if ?_ | refine r_nil ?_ | refine r_cons ?_ | refine r_cb ?_ | refine r_call ?_ | refine r_callS ?_ | refine r_tup ?_ | refine r_lst ?_ | refine r_seq ?_ | refine r_next ?_ | refine r_asg ?_
  | refine r_name ?_ | refine r_ifS ?_ | refine r_ret ?_ | refine r_retN ?_ | refine r_drop ?_ | refine r_brk ?_ | refine r_ct ?_ | refine r_sl ?_ | refine r_part ?_ | refine r_nopart ?_
  | refine r_bm ?_ | refine r_bm0 ?_ | refine r_raiseX ?_ | refine r_mkO ?_ | refine iteF ?_ | refine iteT ?_ | refine r_int1 ?_ | refine r_int1b ?_ | (show _ ≤ sizeLine ∧ _; refine r_sz (by with_unfolding_all first | omega | (simp only [List.length_cons, List.length_nil]; omega)) ?_)
  | (show ∃ _, _; refine ⟨_, rfl, ?_⟩) | (show ∃ _, _; refine ⟨_, _, rfl, rfl, ?_⟩) | (show ∃ _, _; refine ⟨_, _, rfl, ?_⟩))
local macro_rules | `(tactic| walk_at "rd") => `(tactic| repeat (walk_at "rd1"))
local macro_rules | `(tactic| walk_at "rd2") => `(tactic| with_reducible first
  | (show tFld _ _ _ _ _ _; refine r_fldI (by with_unfolding_all rfl) (by with_unfolding_all assumption) (by with_unfolding_all assumption) (by with_unfolding_all assumption) (by with_unfolding_all rfl) ?_)
  | (show tMetS _ _ _ _ _ _ _ _ _; refine r_rm (by with_unfolding_all assumption) (by with_unfolding_all rfl) (by decide) ?_)
  | refine r_sfl ?_ | refine iteNF ?_ | refine iteNT ?_ | refine r_makS ?_)
local macro_rules | `(tactic| walk_at "rp") => `(tactic| repeat first | walk_at "rd1" | walk_at "rd2")

section
variable {P : Program} {w : World} {K : Frag} {mg : Str → Option Value} {base : Heap} {C DM DO : Addr}
abbrev s_read_primary : Stmt := top 29
theorem sc_read_primary : FnScope ["reader", "level", "at", "inner", "name", "count", "number", "units"] ["reader", "level"] (defScope s_read_primary) := ⟨rfl, rfl, rfl, by decide +kernel, rfl, by decide +kernel, by decide +kernel⟩
theorem cal_read_primary (dx : DefAt K mg "read_primary" s_read_primary) (B : Bl mg) (PL : ParC K w mg) (M : RdM P w K mg base C DM DO) {k N : Nat} (hk : 10 ≤ k) (hN1 : N + 1 ≤ 25) (G_read_expression : Cal P w K mg base (k) "read_expression" ["reader", "level"] (spRN C DM DO pExpr (N))) (G_read_primary : Cal P w K mg base (k) "read_primary" ["reader", "level"] (spRN C DM DO pPrim (N))) (G_read_call : Cal P w K mg base (k) "read_call" ["reader", "level"] (spRN C DM DO pCall (N + 1))) (G_read_product : Cal P w K mg base 6 "read_product" ["reader"] (spR0 C DM DO pProd))  : Cal P w K mg base (k + 1) "read_primary" ["reader", "level"] (spRN C DM DO pPrim (N + 1)) := by
  obtain ⟨RK, M_at, M_sees, M_sees_kind, M_accept, M_expect, M_read, M_whole, M_deeper⟩ := M
  refine cal_mk dx sc_read_primary (fun _ _ _ _ _ _ us hl => match us, hl with | [_, _], _ => rfl) (fun vs H Q E h => ?_) (fun f cdv A outer s H vs Q E hr h => ?_)
  · obtain ⟨r, L, n, ts, rfl, _⟩ := h
    rfl
  · obtain ⟨r, L, n, ts, rfl, hn, hN, R, o, ho, k⟩ := h
    have tk : L2N.Takes (cxOf (L2N.CX P w) P w K mg base ["reader", "level", "at", "inner", "name", "count", "number", "units"] "read_primary" (defScope s_read_primary) f cdv A outer s H E) (fun cls d _ H => E cls d H) := L2N.takes_of rfl rfl rfl rfl
    refine ⟨_, (pss_cons (ps_set (i := 2) sc_read_primary.nd rfl (Or.inl rfl) (pe_metX0 M_at (hr.mono (by first | decide | omega)) tk (pv 0)))
      (pss_cons (ps_if (pt_val (pe_metX M_accept (hr.mono (by first | decide | omega)) tk (pv 0) (pa_cons pe_str (pa_cons pe_str pa_nil))))
      (pss_one (ps_ret (pe_tup (pa_cons pe_str (pa_cons pe_bl pa_nil)))))
      pss_nil)
      (pss_cons (ps_if (pt_val (pe_metX M_accept (hr.mono (by first | decide | omega)) tk (pv 0) (pa_cons pe_str (pa_cons pe_str pa_nil))))
      (pss_one (ps_ret (pe_tup (pa_cons pe_str (pa_cons pe_bl pa_nil)))))
      pss_nil)
      (pss_cons (ps_if (pt_val (pe_metX M_accept (hr.mono (by first | decide | omega)) tk (pv 0) (pa_cons pe_str (pa_cons pe_str pa_nil))))
      (pss_cons (ps_set (i := 3) sc_read_primary.nd rfl (Or.inl rfl) (pe_cal G_read_expression (hr.mono (by first | decide | omega)) tk (pa_cons (pv 0) (pa_cons (pe_metX M_deeper (hr.mono (by first | decide | omega)) tk (pv 0) (pa_cons (pv 1) pa_nil)) pa_nil))))
      (pss_cons (ps_expr (pe_metX M_expect (hr.mono (by first | decide | omega)) tk (pv 0) (pa_cons pe_str (pa_cons pe_str pa_nil))))
      (pss_one (ps_ret (pv 3)))))
      pss_nil)
      (pss_cons (ps_if (pt_val (pe_metX M_accept (hr.mono (by first | decide | omega)) tk (pv 0) (pa_cons pe_str (pa_cons pe_str pa_nil))))
      (pss_cons (ps_set (i := 4) sc_read_primary.nd rfl (Or.inl rfl) (pe_metX M_read (hr.mono (by first | decide | omega)) tk (pv 0) (pa_cons pe_str pa_nil)))
      (pss_cons (ps_set (i := 5) sc_read_primary.nd rfl (Or.inl rfl) (pe_metX M_whole (hr.mono (by first | decide | omega)) tk (pv 0) (pa_cons pe_int pa_nil)))
      (pss_cons (ps_expr (pe_metX M_expect (hr.mono (by first | decide | omega)) tk (pv 0) (pa_cons pe_str (pa_cons pe_str pa_nil))))
      (pss_one (ps_ret (pe_tup (pa_cons pe_str (pa_cons (pv 4) (pa_cons (pv 5) (pa_cons (pe_cal G_read_primary (hr.mono (by first | decide | omega)) tk (pa_cons (pv 0) (pa_cons (pe_metX M_deeper (hr.mono (by first | decide | omega)) tk (pv 0) (pa_cons (pv 1) pa_nil)) pa_nil))) (pa_cons (pv 2) pa_nil)))))))))))
      pss_nil)
      (pss_cons (ps_if (pt_val (pe_metX M_sees_kind (hr.mono (by first | decide | omega)) tk (pv 0) (pa_cons pe_str pa_nil)))
      (pss_cons (ps_set (i := 6) sc_read_primary.nd rfl (Or.inl rfl) (pe_metX M_read (hr.mono (by first | decide | omega)) tk (pv 0) (pa_cons pe_str pa_nil)))
      (pss_cons (ps_set (i := 7) sc_read_primary.nd rfl (Or.inl rfl) (pe_tup pa_nil))
      (pss_cons (ps_if (pt_val (pe_metX M_sees (hr.mono (by first | decide | omega)) tk (pv 0) (pa_cons pe_str (pa_cons pe_str pa_nil))))
      (pss_one (ps_set (i := 7) sc_read_primary.nd rfl (Or.inl rfl) (pe_cal G_read_product (hr.mono (by first | decide | omega)) tk (pa_cons (pv 0) pa_nil))))
      pss_nil)
      (pss_one (ps_ret (pe_tup (pa_cons pe_str (pa_cons (pv 6) (pa_cons (pv 7) (pa_cons (pv 2) pa_nil))))))))))
      pss_nil)
      (pss_cons (ps_set (i := 4) sc_read_primary.nd rfl (Or.inl rfl) (pe_metX M_read (hr.mono (by first | decide | omega)) tk (pv 0) (pa_cons pe_str pa_nil)))
      (pss_cons (ps_if (pt_val (pe_metX M_sees (hr.mono (by first | decide | omega)) tk (pv 0) (pa_cons pe_str (pa_cons pe_str pa_nil))))
      (pss_one (ps_ret (pe_tup (pa_cons pe_str (pa_cons (pv 4) (pa_cons (pe_cal G_read_call (hr.mono (by first | decide | omega)) tk (pa_cons (pv 0) (pa_cons (pv 1) pa_nil))) (pa_cons (pv 2) pa_nil)))))))
      pss_nil)
      (pss_one (ps_ret (pe_tup (pa_cons pe_str (pa_cons (pv 4) (pa_cons (pv 2) pa_nil)))))))))))))), ?_⟩
    rw [pPrim.eq_def] at ho
    have ho := b_at ho
    walk_at "rp"
    refine ⟨r, L, ts, rfl, R, ?_⟩
    walk_at "rp"
    refine ⟨r, L, ts, _, _, rfl, by decide, R, fun h1 H1 hs1 R1 => ?_, fun h1 => ?_⟩
    · have ho := b_accT h1 ho
      walk_at "rp"
      exact r_ret_tup k ho hs1 R1 tl_le (.cons (.str _) (.cons (.bl _) .nil))
    have ho := b_accF h1 ho
    walk_at "rp"
    refine ⟨r, L, ts, _, _, rfl, by decide, R, fun h1 H1 hs1 R1 => ?_, fun h1 => ?_⟩
    · have ho := b_accT h1 ho
      walk_at "rp"
      exact r_ret_tup k ho hs1 R1 tl_le (.cons (.str _) (.cons (.bl _) .nil))
    have ho := b_accF h1 ho
    walk_at "rp"
    refine ⟨r, L, ts, _, _, rfl, by decide, R, fun h1 H1 hs1 R1 => ?_, fun h1 => ?_⟩
    · have ho := b_accT h1 ho
      walk_at "rp"
      refine ⟨r, n, rfl, R1.ins, by omega, fun h0 => (k.err _ (b_deep0 h0 ho)).mono hs1, fun m hm => ?_⟩
      have ho := b_deepS hm ho
      walk_at "rp"
      refine ⟨r, L, m, _, rfl, by omega, by omega, R1, r_sub ho k.err hs1 fun a ts2 v H2 ho s2 R2 hl2 tv => ?_⟩
      walk_at "rp"
      refine ⟨r, L, ts2, _, _, rfl, by decide, R2, fun h2 H3 hs3 R3 => ?_, fun h2 => (k.err _ (b_expF h2 ho)).mono (hs1.trans s2)⟩
      have ho := b_expT h2 ho
      walk_at "rp"
      exact k.ok _ _ (b_ret ho) _ _ ((hs1.trans s2).trans hs3) R3 (Nat.le_trans tl_le (Nat.le_trans hl2 tl_le)) (tv.keep (R2.keep hs3))
    have ho := b_accF h1 ho
    walk_at "rp"
    refine ⟨r, L, ts, _, _, rfl, by decide, R, fun h1 H1 hs1 R1 => ?_, fun h1 => ?_⟩
    · have ho := b_accT h1 ho
      walk_at "rp"
      refine ⟨r, L, ts.tail, _, rfl, R1, fun h2 v2 H2 hs2 R2 tv2 => ?_, fun h2 => (k.err _ (b_readF h2 ho)).mono hs1⟩
      have ho := b_readT h2 ho
      walk_at "rp"
      refine ⟨r, L, _, 20, rfl, R2, r_sub ho k.err (hs1.trans hs2) fun a3 ts3 v3 H3 ho s3 R3 hl3 hv3 => ?_⟩
      subst hv3
      walk_at "rp"
      refine ⟨r, L, ts3, _, _, rfl, by decide, R3, fun h4 H4 hs4 R4 => ?_, fun h4 => (k.err _ (b_expF h4 ho)).mono ((hs1.trans hs2).trans s3)⟩
      have ho := b_expT h4 ho
      have s4 := (((hs1.trans hs2).trans s3).trans hs4)
      have tv4 := (tv2.keep (R2.keep s3)).keep (R3.keep hs4)
      walk_at "rp"
      refine ⟨r, n, rfl, R4.ins, by omega, fun h0 => (k.err _ (b_deep0 h0 ho)).mono s4, fun m hm => ?_⟩
      have ho := b_deepS hm ho
      walk_at "rp"
      refine ⟨r, L, m, _, rfl, by omega, by omega, R4, r_sub ho k.err s4 fun a5 ts5 v5 H5 ho s5 R5 hl5 tv5 => ?_⟩
      walk_at "rp"
      refine r_ret_tup k ho (s4.trans s5) R5 (Nat.le_trans hl5 (Nat.le_trans tl_le (Nat.le_trans hl3 (Nat.le_trans tl_le tl_le)))) (.cons (.str _) (.cons (tv4.keep (R4.keep s5)) (.cons (.int _) (.cons tv5 (.cons (.int _) .nil)))))
    have ho := b_accF h1 ho
    walk_at "rp"
    refine ⟨r, L, ts, _, rfl, R, ?_⟩
    walk_at "rp"
    refine r_ite (fun h1 => ?_) (fun h1 => ?_)
    · have ho := b_kindT h1 ho
      walk_at "rp"
      refine ⟨r, L, ts, _, rfl, R, fun h2 v2 H2 hs2 R2 tv2 => ?_, fun h2 => k.err _ (b_readF h2 ho)⟩
      have ho := b_readT h2 ho
      walk_at "rp"
      intro p2 hp2
      have R2' : Rdr C (upd H2 p2 (.tup [])) r L ts.tail := R2.same (Same.new hp2)
      have hs2' := hs2.new (o := .tup []) hp2
      have tv2' := tv2.keep (Keep.new (o := .tup []) hp2)
      have tup2 : Tp (upd H2 p2 (.tup [])) (.ref p2) (.tuple []) := .tup upd_same .nil
      walk_at "rp"
      refine ⟨r, L, ts.tail, _, _, rfl, by decide, R2', ?_⟩
      walk_at "rp"
      refine r_ite (fun h3 => ?_) (fun h3 => ?_)
      · have ho := b_seesT h3 ho
        walk_at "rp"
        refine ⟨r, L, _, rfl, R2', r_sub ho k.err hs2' fun a4 ts4 v4 H4 ho s4 R4 hl4 tv4 => ?_⟩
        walk_at "rp"
        exact r_ret_tup k ho (hs2'.trans s4) R4 (Nat.le_trans hl4 tl_le) (.cons (.str _) (.cons (tv2'.keep (R2'.keep s4)) (.cons tv4 (.cons (.int _) .nil))))
      · have ho := b_seesF h3 ho
        walk_at "rp"
        exact r_ret_tup k ho hs2' R2' tl_le (.cons (.str _) (.cons tv2' (.cons tup2 (.cons (.int _) .nil))))
    have ho := b_kindF h1 ho
    walk_at "rp"
    refine ⟨r, L, ts, _, rfl, R, fun h2 v2 H2 hs2 R2 tv2 => ?_, fun h2 => k.err _ (b_readF h2 ho)⟩
    have ho := b_readT h2 ho
    walk_at "rp"
    refine ⟨r, L, ts.tail, _, _, rfl, by decide, R2, ?_⟩
    walk_at "rp"
    refine r_ite (fun h3 => ?_) (fun h3 => ?_)
    · have ho := b_seesT h3 ho
      walk_at "rp"
      refine ⟨r, L, n, _, rfl, by omega, by omega, R2, r_sub ho k.err hs2 fun a4 ts4 v4 H4 ho s4 R4 hl4 tv4 => ?_⟩
      walk_at "rp"
      exact r_ret_tup k ho (hs2.trans s4) R4 (Nat.le_trans hl4 tl_le) (.cons (.str _) (.cons (tv2.keep (R2.keep s4)) (.cons tv4 (.cons (.int _) .nil))))
    · have ho := b_seesF h3 ho
      walk_at "rp"
      exact r_ret_tup k ho hs2 R2 tl_le (.cons (.str _) (.cons tv2 (.cons (.int _) .nil)))
abbrev s_read_powers : Stmt := top 30
theorem sc_read_powers : FnScope ["reader", "level", "result", "at"] ["reader", "level"] (defScope s_read_powers) := ⟨rfl, rfl, rfl, by decide +kernel, rfl, by decide +kernel, by decide +kernel⟩
theorem cal_read_powers (dx : DefAt K mg "read_powers" s_read_powers) (B : Bl mg) (PL : ParC K w mg) (M : RdM P w K mg base C DM DO) {k N : Nat} (hk : 10 ≤ k) (hN1 : N + 1 ≤ 25) (G_read_primary : Cal P w K mg base (k + 1) "read_primary" ["reader", "level"] (spRN C DM DO pPrim (N + 1))) (G_read_power : Cal P w K mg base 5 "read_power" ["reader"] (spG0 C DM DO pPower (fun a v _ => v = .int a)))  : Cal P w K mg base (k + 2) "read_powers" ["reader", "level"] (spRN C DM DO pPowers (N + 1)) := by
  obtain ⟨RK, M_at, M_sees, M_sees_kind, M_accept, M_expect, M_read, M_whole, M_deeper⟩ := M
  refine cal_mk dx sc_read_powers (fun _ _ _ _ _ _ us hl => match us, hl with | [_, _], _ => rfl) (fun vs H Q E h => ?_) (fun f cdv A outer s H vs Q E hr h => ?_)
  · obtain ⟨r, L, n, ts, rfl, _⟩ := h
    rfl
  · obtain ⟨r, L, n, ts, rfl, hn, hN, R, o, ho, k⟩ := h
    have tk : L2N.Takes (cxOf (L2N.CX P w) P w K mg base ["reader", "level", "result", "at"] "read_powers" (defScope s_read_powers) f cdv A outer s H E) (fun cls d _ H => E cls d H) := L2N.takes_of rfl rfl rfl rfl
    refine ⟨_, (pss_cons (ps_set (i := 2) sc_read_powers.nd rfl (Or.inl rfl) (pe_cal G_read_primary (hr.mono (by first | decide | omega)) tk (pa_cons (pv 0) (pa_cons (pv 1) pa_nil))))
      (pss_cons (ps_while (passes_of rfl) (pt_val (pe_metX M_sees (hr.mono (by first | decide | omega)) tk (pv 0) (pa_cons pe_str (pa_cons pe_str pa_nil))))
      (pss_cons (ps_set (i := 3) sc_read_powers.nd rfl (Or.inl rfl) (pe_metX0 M_at (hr.mono (by first | decide | omega)) tk (pv 0)))
      (pss_cons (ps_expr (pe_metX M_expect (hr.mono (by first | decide | omega)) tk (pv 0) (pa_cons pe_str (pa_cons pe_str pa_nil))))
      (pss_cons (ps_set (i := 1) sc_read_powers.nd rfl (Or.inl rfl) (pe_metX M_deeper (hr.mono (by first | decide | omega)) tk (pv 0) (pa_cons (pv 1) pa_nil)))
      (pss_one (ps_set (i := 2) sc_read_powers.nd rfl (Or.inl rfl) (pe_tup (pa_cons pe_str (pa_cons (pv 2) (pa_cons (pe_cal G_read_power (hr.mono (by first | decide | omega)) tk (pa_cons (pv 0) pa_nil)) (pa_cons (pv 3) pa_nil)))))))))))
      (pss_one (ps_ret (pv 2))))), ?_⟩
    unfold pPowers at ho
    walk_at "rp"
    refine ⟨r, L, n, _, rfl, by omega, by omega, R, r_sub ho k.err RSame.refl fun a ts2 v H2 ho s2 R2 hl2 tv => ?_⟩
    walk_at "rp"
    refine ⟨fun m σ' H' => ∃ (n' : Nat) (a : PyData) (v : V) (v3 : Option V) (ts' : TS1), σ' = [some (.ref r), some (.int (24 - (n' : Int))), some v, v3] ∧ n' ≤ n ∧ RSame r H H' ∧ Rdr C H' r L ts' ∧ Tp H' v a ∧ pPowL L n' a ts' = some o ∧ ts'.length ≤ ts.length ∧ m = n', ⟨_, n, a, v, none, ts2, rfl, Nat.le_refl _, s2, R2, tv, ho, hl2, rfl⟩, ?_⟩
    rintro m3 σ' H3 ⟨n3, a3, v3, w3, ts3, rfl, hn3, hs, R3, tv3, hp, hl3, rfl⟩
    rw [pPowL.eq_def] at hp
    walk_at "rp"
    refine ⟨r, L, ts3, _, _, rfl, by decide, R3, ?_⟩
    walk_at "rp"
    refine r_ite (fun h4 => ?_) (fun h4 => ?_)
    · have hp := b_at (b_seesT h4 hp)
      walk_at "rp"
      refine ⟨fun σ' H' => ∃ m', m' < m3 ∧ ∃ (n' : Nat) (a : PyData) (v : V) (v3 : Option V) (ts' : TS1), σ' = [some (.ref r), some (.int (24 - (n' : Int))), some v, v3] ∧ n' ≤ n ∧ RSame r H H' ∧ Rdr C H' r L ts' ∧ Tp H' v a ∧ pPowL L n' a ts' = some o ∧ ts'.length ≤ ts.length ∧ m' = n', fun _ _ h => h, ?_⟩
      walk_at "rp"
      refine ⟨r, L, ts3, rfl, R3, ?_⟩
      walk_at "rp"
      refine ⟨r, L, ts3, _, _, rfl, by decide, R3, fun h5 H5 hs5 R5 => ?_, fun h5 => by rw [h4] at h5; cases h5⟩
      have hp := b_expT h5 hp
      walk_at "rp"
      refine ⟨r, m3, rfl, R5.ins, by omega, fun h0 => (k.err _ (b_deep0 h0 hp)).mono (hs.trans hs5), fun m hm => ?_⟩
      have hp := b_deepS hm hp
      walk_at "rp"
      refine ⟨r, L, _, rfl, R5, r_sub hp k.err (hs.trans hs5) fun a6 ts6 v6 H6 hp s6 R6 hl6 hv6 => ?_⟩
      subst hv6
      walk_at "rp"
      intro p7 hp7
      walk_at "rp"
      have s7 := ((hs.trans hs5).trans s6).new (o := .tup [.str "power", v3, .int a6, .int (atP L ts3 : Int)]) hp7
      have kp := Keep.new (o := .tup [.str "power", v3, .int a6, .int (atP L ts3 : Int)]) hp7
      refine ⟨m, by omega, m, _, _, _, ts6, rfl, by omega, s7, R6.same (Same.new hp7), .tup upd_same (.cons (.str _) (.cons (((tv3.keep (R3.keep hs5)).keep (R5.keep s6)).keep kp) (.cons (.int _) (.cons (.int _) .nil)))), hp, Nat.le_trans hl6 (Nat.le_trans tl_le hl3), rfl⟩
    · have hp := b_seesF h4 hp
      walk_at "rp"
      exact k.ok _ _ (b_ret hp) _ _ hs R3 hl3 tv3
abbrev s_read_factors : Stmt := top 31
theorem sc_read_factors : FnScope ["reader", "level", "result", "at", "sign"] ["reader", "level"] (defScope s_read_factors) := ⟨rfl, rfl, rfl, by decide +kernel, rfl, by decide +kernel, by decide +kernel⟩
theorem cal_read_factors (dx : DefAt K mg "read_factors" s_read_factors) (B : Bl mg) (PL : ParC K w mg) (M : RdM P w K mg base C DM DO) {k N : Nat} (hk : 10 ≤ k) (hN1 : N + 1 ≤ 25) (G_read_powers : Cal P w K mg base (k + 2) "read_powers" ["reader", "level"] (spRN C DM DO pPowers (N + 1)))  : Cal P w K mg base (k + 3) "read_factors" ["reader", "level"] (spRN C DM DO pFactors (N + 1)) := by
  obtain ⟨RK, M_at, M_sees, M_sees_kind, M_accept, M_expect, M_read, M_whole, M_deeper⟩ := M
  obtain ⟨aPRO, gPRO, f1, f2⟩ := PL.pro
  refine cal_mk dx sc_read_factors (fun _ _ _ _ _ _ us hl => match us, hl with | [_, _], _ => rfl) (fun vs H Q E h => ?_) (fun f cdv A outer s H vs Q E hr h => ?_)
  · obtain ⟨r, L, n, ts, rfl, _⟩ := h
    rfl
  · obtain ⟨r, L, n, ts, rfl, hn, hN, R, o, ho, k⟩ := h
    have tk : L2N.Takes (cxOf (L2N.CX P w) P w K mg base ["reader", "level", "result", "at", "sign"] "read_factors" (defScope s_read_factors) f cdv A outer s H E) (fun cls d _ H => E cls d H) := L2N.takes_of rfl rfl rfl rfl
    refine ⟨_, (pss_cons (ps_set (i := 2) sc_read_factors.nd rfl (Or.inl rfl) (pe_cal G_read_powers (hr.mono (by first | decide | omega)) tk (pa_cons (pv 0) (pa_cons (pv 1) pa_nil))))
      (pss_cons (ps_while (passes_of rfl) (PW.pt (pw_or (pt_val (pe_metX M_sees (hr.mono (by first | decide | omega)) tk (pv 0) (pa_cons pe_str (pa_cons pe_str pa_nil)))) (pw_or1 (pt_val (pe_metX M_sees (hr.mono (by first | decide | omega)) tk (pv 0) (pa_cons pe_str (pa_cons pe_str pa_nil)))))))
      (pss_cons (ps_set (i := 3) sc_read_factors.nd rfl (Or.inl rfl) (pe_metX0 M_at (hr.mono (by first | decide | omega)) tk (pv 0)))
      (pss_cons (ps_set (i := 4) sc_read_factors.nd rfl (Or.inl rfl) (pe_metX M_read (hr.mono (by first | decide | omega)) tk (pv 0) (pa_cons pe_str pa_nil)))
      (pss_cons (ps_set (i := 1) sc_read_factors.nd rfl (Or.inl rfl) (pe_metX M_deeper (hr.mono (by first | decide | omega)) tk (pv 0) (pa_cons (pv 1) pa_nil)))
      (pss_one (ps_set (i := 2) sc_read_factors.nd rfl (Or.inl rfl) (pe_tup (pa_cons (pe_ix ix_kdict (pe_gref gPRO) (pv 4) (fun _ _ => rfl)) (pa_cons (pv 2) (pa_cons (pe_cal G_read_powers (hr.mono (by first | decide | omega)) tk (pa_cons (pv 0) (pa_cons (pv 1) pa_nil))) (pa_cons (pv 3) pa_nil)))))))))))
      (pss_one (ps_ret (pv 2))))), ?_⟩
    unfold pFactors at ho
    walk_at "rp"
    refine ⟨r, L, n, _, rfl, by omega, by omega, R, r_sub ho k.err RSame.refl fun a ts2 v H2 ho s2 R2 hl2 tv => ?_⟩
    walk_at "rp"
    refine ⟨fun m σ' H' => ∃ (n' : Nat) (a : PyData) (v : V) (v3 v4 : Option V) (ts' : TS1), σ' = [some (.ref r), some (.int (24 - (n' : Int))), some v, v3, v4] ∧ n' ≤ n ∧ RSame r H H' ∧ Rdr C H' r L ts' ∧ Tp H' v a ∧ pFacL L n' a ts' = some o ∧ ts'.length ≤ ts.length ∧ m = n', ⟨_, n, a, v, none, none, ts2, rfl, Nat.le_refl _, s2, R2, tv, ho, hl2, rfl⟩, ?_⟩
    rintro m3 σ' H3 ⟨n3, a3, v3, w3, w4, ts3, rfl, hn3, hs, R3, tv3, hp, hl3, rfl⟩
    rw [pFacL.eq_def] at hp
    walk_at "rp"
    refine ⟨r, L, ts3, _, _, rfl, by decide, R3, ?_⟩
    walk_at "rp"
    refine r_ite (fun h4 => ?_) (fun h4 => ?_)
    ·
      have hp := b_at (b_seesT h4 hp)
      walk_at "rp"
      refine ⟨fun σ' H' => ∃ m', m' < m3 ∧ ∃ (n' : Nat) (a : PyData) (v : V) (v3 v4 : Option V) (ts' : TS1), σ' = [some (.ref r), some (.int (24 - (n' : Int))), some v, v3, v4] ∧ n' ≤ n ∧ RSame r H H' ∧ Rdr C H' r L ts' ∧ Tp H' v a ∧ pFacL L n' a ts' = some o ∧ ts'.length ≤ ts.length ∧ m' = n', fun _ _ h => h, ?_⟩
      walk_at "rp"
      refine ⟨r, L, ts3, rfl, R3, ?_⟩
      walk_at "rp"
      have hks : kindB ts3 "sign" = true := sees_kind h4
      refine ⟨r, L, ts3, _, rfl, R3, fun h5 v5 H5 hs5 R5 tv5 => ?_, fun h5 => by rw [hks] at h5; cases h5⟩
      have hp := b_readT h5 hp
      have hv : headV ts3 = .str "*" := sees_head (by decide) h4
      rw [hv] at tv5 hp
      cases tv5 with
      | str _ =>
        walk_at "rp"
        refine ⟨r, m3, rfl, R5.ins, by omega, fun h0 => (k.err _ (b_deep0 h0 hp)).mono (hs.trans hs5), fun m hm => ?_⟩
        have hp := b_deepS hm hp
        walk_at "rp"
        refine ⟨_, _, _, rfl, rfl, f1, ?_⟩
        walk_at "rp"
        refine ⟨r, L, m, _, rfl, by omega, by omega, R5, r_sub hp k.err (hs.trans hs5) fun a6 ts6 v6 H6 hp s6 R6 hl6 tv6 => ?_⟩
        walk_at "rp"
        intro p7 hp7
        walk_at "rp"
        have s7 := ((hs.trans hs5).trans s6).new (o := .tup [.str "mul", v3, v6, .int (atP L ts3 : Int)]) hp7
        have kp := Keep.new (o := .tup [.str "mul", v3, v6, .int (atP L ts3 : Int)]) hp7
        exact ⟨m, by omega, m, _, _, _, _, ts6, rfl, by omega, s7, R6.same (Same.new hp7), .tup upd_same (.cons (.str _) (.cons (((tv3.keep (R3.keep hs5)).keep (R5.keep s6)).keep kp) (.cons (tv6.keep kp) (.cons (.int _) .nil)))), hp, Nat.le_trans hl6 (Nat.le_trans tl_le hl3), rfl⟩

    have hp := b_seesF h4 hp
    walk_at "rp"
    refine ⟨r, L, ts3, _, _, rfl, by decide, R3, ?_⟩
    walk_at "rp"
    refine r_ite (fun h4 => ?_) (fun h4 => ?_)
    ·
      have hp := b_at (b_seesT h4 hp)
      walk_at "rp"
      refine ⟨fun σ' H' => ∃ m', m' < m3 ∧ ∃ (n' : Nat) (a : PyData) (v : V) (v3 v4 : Option V) (ts' : TS1), σ' = [some (.ref r), some (.int (24 - (n' : Int))), some v, v3, v4] ∧ n' ≤ n ∧ RSame r H H' ∧ Rdr C H' r L ts' ∧ Tp H' v a ∧ pFacL L n' a ts' = some o ∧ ts'.length ≤ ts.length ∧ m' = n', fun _ _ h => h, ?_⟩
      walk_at "rp"
      refine ⟨r, L, ts3, rfl, R3, ?_⟩
      walk_at "rp"
      have hks : kindB ts3 "sign" = true := sees_kind h4
      refine ⟨r, L, ts3, _, rfl, R3, fun h5 v5 H5 hs5 R5 tv5 => ?_, fun h5 => by rw [hks] at h5; cases h5⟩
      have hp := b_readT h5 hp
      have hv : headV ts3 = .str "/" := sees_head (by decide) h4
      rw [hv] at tv5 hp
      cases tv5 with
      | str _ =>
        walk_at "rp"
        refine ⟨r, m3, rfl, R5.ins, by omega, fun h0 => (k.err _ (b_deep0 h0 hp)).mono (hs.trans hs5), fun m hm => ?_⟩
        have hp := b_deepS hm hp
        walk_at "rp"
        refine ⟨_, _, _, rfl, rfl, f2, ?_⟩
        walk_at "rp"
        refine ⟨r, L, m, _, rfl, by omega, by omega, R5, r_sub hp k.err (hs.trans hs5) fun a6 ts6 v6 H6 hp s6 R6 hl6 tv6 => ?_⟩
        walk_at "rp"
        intro p7 hp7
        walk_at "rp"
        have s7 := ((hs.trans hs5).trans s6).new (o := .tup [.str "div", v3, v6, .int (atP L ts3 : Int)]) hp7
        have kp := Keep.new (o := .tup [.str "div", v3, v6, .int (atP L ts3 : Int)]) hp7
        exact ⟨m, by omega, m, _, _, _, _, ts6, rfl, by omega, s7, R6.same (Same.new hp7), .tup upd_same (.cons (.str _) (.cons (((tv3.keep (R3.keep hs5)).keep (R5.keep s6)).keep kp) (.cons (tv6.keep kp) (.cons (.int _) .nil)))), hp, Nat.le_trans hl6 (Nat.le_trans tl_le hl3), rfl⟩

    have hp := b_seesF h4 hp
    walk_at "rp"
    exact k.ok _ _ (b_ret hp) _ _ hs R3 hl3 tv3
abbrev s_read_terms : Stmt := top 32
theorem sc_read_terms : FnScope ["reader", "level", "result", "at", "sign"] ["reader", "level"] (defScope s_read_terms) := ⟨rfl, rfl, rfl, by decide +kernel, rfl, by decide +kernel, by decide +kernel⟩
theorem cal_read_terms (dx : DefAt K mg "read_terms" s_read_terms) (B : Bl mg) (PL : ParC K w mg) (M : RdM P w K mg base C DM DO) {k N : Nat} (hk : 10 ≤ k) (hN1 : N + 1 ≤ 25) (G_read_factors : Cal P w K mg base (k + 3) "read_factors" ["reader", "level"] (spRN C DM DO pFactors (N + 1)))  : Cal P w K mg base (k + 4) "read_terms" ["reader", "level"] (spRN C DM DO pTerms (N + 1)) := by
  obtain ⟨RK, M_at, M_sees, M_sees_kind, M_accept, M_expect, M_read, M_whole, M_deeper⟩ := M
  obtain ⟨aSUMS, gSUMS, f1, f2⟩ := PL.sums
  refine cal_mk dx sc_read_terms (fun _ _ _ _ _ _ us hl => match us, hl with | [_, _], _ => rfl) (fun vs H Q E h => ?_) (fun f cdv A outer s H vs Q E hr h => ?_)
  · obtain ⟨r, L, n, ts, rfl, _⟩ := h
    rfl
  · obtain ⟨r, L, n, ts, rfl, hn, hN, R, o, ho, k⟩ := h
    have tk : L2N.Takes (cxOf (L2N.CX P w) P w K mg base ["reader", "level", "result", "at", "sign"] "read_terms" (defScope s_read_terms) f cdv A outer s H E) (fun cls d _ H => E cls d H) := L2N.takes_of rfl rfl rfl rfl
    refine ⟨_, (pss_cons (ps_set (i := 2) sc_read_terms.nd rfl (Or.inl rfl) (pe_cal G_read_factors (hr.mono (by first | decide | omega)) tk (pa_cons (pv 0) (pa_cons (pv 1) pa_nil))))
      (pss_cons (ps_while (passes_of rfl) (PW.pt (pw_or (pt_val (pe_metX M_sees (hr.mono (by first | decide | omega)) tk (pv 0) (pa_cons pe_str (pa_cons pe_str pa_nil)))) (pw_or1 (pt_val (pe_metX M_sees (hr.mono (by first | decide | omega)) tk (pv 0) (pa_cons pe_str (pa_cons pe_str pa_nil)))))))
      (pss_cons (ps_set (i := 3) sc_read_terms.nd rfl (Or.inl rfl) (pe_metX0 M_at (hr.mono (by first | decide | omega)) tk (pv 0)))
      (pss_cons (ps_set (i := 4) sc_read_terms.nd rfl (Or.inl rfl) (pe_metX M_read (hr.mono (by first | decide | omega)) tk (pv 0) (pa_cons pe_str pa_nil)))
      (pss_cons (ps_set (i := 1) sc_read_terms.nd rfl (Or.inl rfl) (pe_metX M_deeper (hr.mono (by first | decide | omega)) tk (pv 0) (pa_cons (pv 1) pa_nil)))
      (pss_one (ps_set (i := 2) sc_read_terms.nd rfl (Or.inl rfl) (pe_tup (pa_cons (pe_ix ix_kdict (pe_gref gSUMS) (pv 4) (fun _ _ => rfl)) (pa_cons (pv 2) (pa_cons (pe_cal G_read_factors (hr.mono (by first | decide | omega)) tk (pa_cons (pv 0) (pa_cons (pv 1) pa_nil))) (pa_cons (pv 3) pa_nil)))))))))))
      (pss_one (ps_ret (pv 2))))), ?_⟩
    unfold pTerms at ho
    walk_at "rp"
    refine ⟨r, L, n, _, rfl, by omega, by omega, R, r_sub ho k.err RSame.refl fun a ts2 v H2 ho s2 R2 hl2 tv => ?_⟩
    walk_at "rp"
    refine ⟨fun m σ' H' => ∃ (n' : Nat) (a : PyData) (v : V) (v3 v4 : Option V) (ts' : TS1), σ' = [some (.ref r), some (.int (24 - (n' : Int))), some v, v3, v4] ∧ n' ≤ n ∧ RSame r H H' ∧ Rdr C H' r L ts' ∧ Tp H' v a ∧ pTermL L n' a ts' = some o ∧ ts'.length ≤ ts.length ∧ m = n', ⟨_, n, a, v, none, none, ts2, rfl, Nat.le_refl _, s2, R2, tv, ho, hl2, rfl⟩, ?_⟩
    rintro m3 σ' H3 ⟨n3, a3, v3, w3, w4, ts3, rfl, hn3, hs, R3, tv3, hp, hl3, rfl⟩
    rw [pTermL.eq_def] at hp
    walk_at "rp"
    refine ⟨r, L, ts3, _, _, rfl, by decide, R3, ?_⟩
    walk_at "rp"
    refine r_ite (fun h4 => ?_) (fun h4 => ?_)
    ·
      have hp := b_at (b_seesT h4 hp)
      walk_at "rp"
      refine ⟨fun σ' H' => ∃ m', m' < m3 ∧ ∃ (n' : Nat) (a : PyData) (v : V) (v3 v4 : Option V) (ts' : TS1), σ' = [some (.ref r), some (.int (24 - (n' : Int))), some v, v3, v4] ∧ n' ≤ n ∧ RSame r H H' ∧ Rdr C H' r L ts' ∧ Tp H' v a ∧ pTermL L n' a ts' = some o ∧ ts'.length ≤ ts.length ∧ m' = n', fun _ _ h => h, ?_⟩
      walk_at "rp"
      refine ⟨r, L, ts3, rfl, R3, ?_⟩
      walk_at "rp"
      have hks : kindB ts3 "sign" = true := sees_kind h4
      refine ⟨r, L, ts3, _, rfl, R3, fun h5 v5 H5 hs5 R5 tv5 => ?_, fun h5 => by rw [hks] at h5; cases h5⟩
      have hp := b_readT h5 hp
      have hv : headV ts3 = .str "+" := sees_head (by decide) h4
      rw [hv] at tv5 hp
      cases tv5 with
      | str _ =>
        walk_at "rp"
        refine ⟨r, m3, rfl, R5.ins, by omega, fun h0 => (k.err _ (b_deep0 h0 hp)).mono (hs.trans hs5), fun m hm => ?_⟩
        have hp := b_deepS hm hp
        walk_at "rp"
        refine ⟨_, _, _, rfl, rfl, f1, ?_⟩
        walk_at "rp"
        refine ⟨r, L, m, _, rfl, by omega, by omega, R5, r_sub hp k.err (hs.trans hs5) fun a6 ts6 v6 H6 hp s6 R6 hl6 tv6 => ?_⟩
        walk_at "rp"
        intro p7 hp7
        walk_at "rp"
        have s7 := ((hs.trans hs5).trans s6).new (o := .tup [.str "add", v3, v6, .int (atP L ts3 : Int)]) hp7
        have kp := Keep.new (o := .tup [.str "add", v3, v6, .int (atP L ts3 : Int)]) hp7
        exact ⟨m, by omega, m, _, _, _, _, ts6, rfl, by omega, s7, R6.same (Same.new hp7), .tup upd_same (.cons (.str _) (.cons (((tv3.keep (R3.keep hs5)).keep (R5.keep s6)).keep kp) (.cons (tv6.keep kp) (.cons (.int _) .nil)))), hp, Nat.le_trans hl6 (Nat.le_trans tl_le hl3), rfl⟩

    have hp := b_seesF h4 hp
    walk_at "rp"
    refine ⟨r, L, ts3, _, _, rfl, by decide, R3, ?_⟩
    walk_at "rp"
    refine r_ite (fun h4 => ?_) (fun h4 => ?_)
    ·
      have hp := b_at (b_seesT h4 hp)
      walk_at "rp"
      refine ⟨fun σ' H' => ∃ m', m' < m3 ∧ ∃ (n' : Nat) (a : PyData) (v : V) (v3 v4 : Option V) (ts' : TS1), σ' = [some (.ref r), some (.int (24 - (n' : Int))), some v, v3, v4] ∧ n' ≤ n ∧ RSame r H H' ∧ Rdr C H' r L ts' ∧ Tp H' v a ∧ pTermL L n' a ts' = some o ∧ ts'.length ≤ ts.length ∧ m' = n', fun _ _ h => h, ?_⟩
      walk_at "rp"
      refine ⟨r, L, ts3, rfl, R3, ?_⟩
      walk_at "rp"
      have hks : kindB ts3 "sign" = true := sees_kind h4
      refine ⟨r, L, ts3, _, rfl, R3, fun h5 v5 H5 hs5 R5 tv5 => ?_, fun h5 => by rw [hks] at h5; cases h5⟩
      have hp := b_readT h5 hp
      have hv : headV ts3 = .str "-" := sees_head (by decide) h4
      rw [hv] at tv5 hp
      cases tv5 with
      | str _ =>
        walk_at "rp"
        refine ⟨r, m3, rfl, R5.ins, by omega, fun h0 => (k.err _ (b_deep0 h0 hp)).mono (hs.trans hs5), fun m hm => ?_⟩
        have hp := b_deepS hm hp
        walk_at "rp"
        refine ⟨_, _, _, rfl, rfl, f2, ?_⟩
        walk_at "rp"
        refine ⟨r, L, m, _, rfl, by omega, by omega, R5, r_sub hp k.err (hs.trans hs5) fun a6 ts6 v6 H6 hp s6 R6 hl6 tv6 => ?_⟩
        walk_at "rp"
        intro p7 hp7
        walk_at "rp"
        have s7 := ((hs.trans hs5).trans s6).new (o := .tup [.str "sub", v3, v6, .int (atP L ts3 : Int)]) hp7
        have kp := Keep.new (o := .tup [.str "sub", v3, v6, .int (atP L ts3 : Int)]) hp7
        exact ⟨m, by omega, m, _, _, _, _, ts6, rfl, by omega, s7, R6.same (Same.new hp7), .tup upd_same (.cons (.str _) (.cons (((tv3.keep (R3.keep hs5)).keep (R5.keep s6)).keep kp) (.cons (tv6.keep kp) (.cons (.int _) .nil)))), hp, Nat.le_trans hl6 (Nat.le_trans tl_le hl3), rfl⟩

    have hp := b_seesF h4 hp
    walk_at "rp"
    exact k.ok _ _ (b_ret hp) _ _ hs R3 hl3 tv3
end
end Al
namespace Al
open PySem PySem.Spec PyProof.Rows L2 NdefX PySem.W
local macro_rules | `(tactic| walk_at "rd1") => `(tactic| with_reducible first
  | (show tVar _ _ _ _; refine r_var (by with_unfolding_all rfl) ?_) | refine r_c ?_ | refine r_op ?_ | refine r_I0 ?_ | refine r_un ?_ | refine r_U ?_
  | (show rI _ _ _ _ _ _; refine r_I (by with_unfolding_all first | exact ⟨by decide, by decide⟩ | (show (0 : Int) < _; decide)) ?_)
  | refine r_eqI ?_ | refine r_neI ?_ | refine r_eqS ?_ | refine r_neS ?_ | refine r_eqB ?_ | refine r_neB ?_ | refine r_chain ?_
  | refine r_test ?_ | refine r_B ?_ | refine r_bl ?_ | refine r_int ?_ | refine r_and ?_ | refine r_or ?_ | refine r_not ?_ | refine r_andV ?_ | refine r_orV ?_ | refine r_notV ?_
  | refine r_if ?_ | refine r_nil ?_ | refine r_cons ?_ | refine r_cb ?_ | refine r_call ?_ | refine r_callS ?_ | refine r_tup ?_ | refine r_lst ?_ | refine r_seq ?_ | refine r_next ?_ | refine r_asg ?_
  | refine r_name ?_ | refine r_ifS ?_ | refine r_ret ?_ | refine r_retN ?_ | refine r_drop ?_ | refine r_brk ?_ | refine r_ct ?_ | refine r_sl ?_ | refine r_part ?_ | refine r_nopart ?_
  | refine r_bm ?_ | refine r_bm0 ?_ | refine r_raiseX ?_ | refine r_mkO ?_ | refine iteF ?_ | refine iteT ?_ | refine r_int1 ?_ | refine r_int1b ?_ | (show _ ≤ sizeLine ∧ _; refine r_sz (by with_unfolding_all first | omega | (simp only [List.length_cons, List.length_nil]; omega)) ?_)
  | (show ∃ _, _; refine ⟨_, rfl, ?_⟩) | (show ∃ _, _; refine ⟨_, _, rfl, rfl, ?_⟩) | (show ∃ _, _; refine ⟨_, _, rfl, ?_⟩))
local macro_rules | `(tactic| walk_at "rd") => `(tactic| repeat (walk_at "rd1"))
local macro_rules | `(tactic| walk_at "rd2") => `(tactic| with_reducible first
  | (show tFld _ _ _ _ _ _; refine r_fldI (by with_unfolding_all rfl) (by with_unfolding_all assumption) (by with_unfolding_all assumption) (by with_unfolding_all assumption) (by with_unfolding_all rfl) ?_)
  | (show tMetS _ _ _ _ _ _ _ _ _; refine r_rm (by with_unfolding_all assumption) (by with_unfolding_all rfl) (by decide) ?_)
  | refine r_sfl ?_ | refine iteNF ?_ | refine iteNT ?_ | refine r_makS ?_)
local macro_rules | `(tactic| walk_at "rp") => `(tactic| repeat first | walk_at "rd1" | walk_at "rd2")

section
variable {P : Program} {w : World} {K : Frag} {mg : Str → Option Value} {base : Heap} {C DM DO : Addr}
abbrev s_read_plain : Stmt := top 33
theorem sc_read_plain : FnScope ["reader", "level", "at", "result", "sign"] ["reader", "level"] (defScope s_read_plain) := ⟨rfl, rfl, rfl, by decide +kernel, rfl, by decide +kernel, by decide +kernel⟩
theorem cal_read_plain (dx : DefAt K mg "read_plain" s_read_plain) (B : Bl mg) (PL : ParC K w mg) (M : RdM P w K mg base C DM DO) {k N : Nat} (hk : 10 ≤ k) (hN1 : N + 1 ≤ 25) (G_read_plain : Cal P w K mg base (k) "read_plain" ["reader", "level"] (spRN C DM DO pPlain (N))) (G_read_terms : Cal P w K mg base (k + 4) "read_terms" ["reader", "level"] (spRN C DM DO pTerms (N + 1)))  : Cal P w K mg base (k + 5) "read_plain" ["reader", "level"] (spRN C DM DO pPlain (N + 1)) := by
  obtain ⟨RK, M_at, M_sees, M_sees_kind, M_accept, M_expect, M_read, M_whole, M_deeper⟩ := M
  obtain ⟨aC, gCMP, fk, fq⟩ := PL.cmp
  refine cal_mk dx sc_read_plain (fun _ _ _ _ _ _ us hl => match us, hl with | [_, _], _ => rfl) (fun vs H Q E h => ?_) (fun f cdv A outer s H vs Q E hr h => ?_)
  · obtain ⟨r, L, n, ts, rfl, _⟩ := h
    rfl
  · obtain ⟨r, L, n, ts, rfl, hn, hN, R, o, ho, k⟩ := h
    have tk : L2N.Takes (cxOf (L2N.CX P w) P w K mg base ["reader", "level", "at", "result", "sign"] "read_plain" (defScope s_read_plain) f cdv A outer s H E) (fun cls d _ H => E cls d H) := L2N.takes_of rfl rfl rfl rfl
    refine ⟨_, (pss_cons (ps_set (i := 2) sc_read_plain.nd rfl (Or.inl rfl) (pe_metX0 M_at (hr.mono (by first | decide | omega)) tk (pv 0)))
      (pss_cons (ps_if (pt_val (pe_metX M_accept (hr.mono (by first | decide | omega)) tk (pv 0) (pa_cons pe_str (pa_cons pe_str pa_nil))))
      (pss_one (ps_ret (pe_tup (pa_cons pe_str (pa_cons (pe_cal G_read_plain (hr.mono (by first | decide | omega)) tk (pa_cons (pv 0) (pa_cons (pe_metX M_deeper (hr.mono (by first | decide | omega)) tk (pv 0) (pa_cons (pv 1) pa_nil)) pa_nil))) (pa_cons (pv 2) pa_nil))))))
      pss_nil)
      (pss_cons (ps_set (i := 3) sc_read_plain.nd rfl (Or.inl rfl) (pe_cal G_read_terms (hr.mono (by first | decide | omega)) tk (pa_cons (pv 0) (pa_cons (pv 1) pa_nil))))
      (pss_cons (ps_for (passes_of rfl) rfl (pi_kk (pe_gref gCMP)) (pg_name (i := 4) sc_read_plain.nd rfl (Or.inl rfl))
      (pss_cons (ps_set (i := 2) sc_read_plain.nd rfl (Or.inl rfl) (pe_metX0 M_at (hr.mono (by first | decide | omega)) tk (pv 0)))
      (pss_one (ps_if (pt_val (pe_metX M_accept (hr.mono (by first | decide | omega)) tk (pv 0) (pa_cons pe_str (pa_cons (pv 4) pa_nil))))
      (pss_one (ps_ret (pe_tup (pa_cons (pe_ix ix_kdict (pe_gref gCMP) (pv 4) (fun _ _ => rfl)) (pa_cons (pv 3) (pa_cons (pe_cal G_read_terms (hr.mono (by first | decide | omega)) tk (pa_cons (pv 0) (pa_cons (pe_metX M_deeper (hr.mono (by first | decide | omega)) tk (pv 0) (pa_cons (pv 1) pa_nil)) pa_nil))) (pa_cons (pv 2) pa_nil)))))))
      pss_nil))))
      (pss_one (ps_ret (pv 3))))))), ?_⟩
    rw [pPlain.eq_def] at ho
    have ho := b_at ho
    walk_at "rp"
    refine ⟨r, L, ts, rfl, R, ?_⟩
    walk_at "rp"
    refine ⟨r, L, ts, _, _, rfl, by decide, R, fun h1 H1 hs1 R1 => ?_, fun h1 => ?_⟩
    · have ho := b_accT h1 ho
      walk_at "rp"
      refine ⟨r, n, rfl, R1.ins, by omega, fun h0 => (k.err _ (b_deep0 h0 ho)).mono hs1, fun m hm => ?_⟩
      have ho := b_deepS hm ho
      walk_at "rp"
      refine ⟨r, L, m, _, rfl, by omega, by omega, R1, r_sub ho k.err hs1 fun a ts2 v H2 ho s2 R2 hl2 tv => ?_⟩
      walk_at "rp"
      exact r_ret_tup k ho (hs1.trans s2) R2 (Nat.le_trans hl2 tl_le) (.cons (.str _) (.cons tv (.cons (.int _) .nil)))
    have ho := b_accF h1 ho
    walk_at "rp"
    refine ⟨r, L, n, _, rfl, by omega, by omega, R, r_sub ho k.err RSame.refl fun a ts2 v H2 ho s2 R2 hl2 tv => ?_⟩
    walk_at "rp"
    refine ⟨_, _, rfl, fk, for_it walk_kk (fun i σ' H' => ∃ v2 v4, σ' = [some (.ref r), some (.int (24 - (n : Int))), v2, some v, v4] ∧ H2 = H' ∧ pCmp L n a (cmps.drop i) ts2 = some o) ⟨_, _, rfl, rfl, ho⟩ (fun _ _ _ _ _ => trivial) ?_ ?_⟩
    · rintro i x σ' H3 H4 hi ⟨v2, v4, rfl, rfl, hp⟩ ⟨rfl, z, hz, rfl⟩
      have hi3 : i < cmps.length := by rw [List.length_map] at hi; exact hi
      have hze : z = (cmps[i]).1 := by
        rw [List.getElem?_map, List.getElem?_eq_getElem hi3] at hz
        exact (Option.some.inj hz).symm
      rw [List.drop_eq_getElem_cons hi3, pCmp.eq_def] at hp
      have hmem := List.getElem_mem hi3
      generalize hq : cmps[i] = q at *
      obtain ⟨z', hd⟩ := q
      subst hze
      have hp := b_at hp
      walk_at "rp"
      refine ⟨r, L, ts2, rfl, R2, ?_⟩
      walk_at "rp"
      refine ⟨r, L, ts2, _, _, rfl, by decide, R2, fun h5 H5 hs5 R5 => ?_, fun h5 => ?_⟩
      · have hp := b_accT h5 hp
        walk_at "rp"
        refine ⟨_, _, _, rfl, rfl, fq _ hmem, ?_⟩
        walk_at "rp"
        refine ⟨r, n, rfl, R5.ins, by omega, fun h0 => (k.err _ (b_deep0 h0 hp)).mono (s2.trans hs5), fun m hm => ?_⟩
        have hp := b_deepS hm hp
        walk_at "rp"
        refine ⟨r, L, m, _, rfl, by omega, by omega, R5, r_sub hp k.err (s2.trans hs5) fun a6 ts6 v6 H6 hp s6 R6 hl6 tv6 => ?_⟩
        walk_at "rp"
        exact r_ret_tup k hp ((s2.trans hs5).trans s6) R6 (Nat.le_trans hl6 (Nat.le_trans tl_le hl2)) (.cons (.str _) (.cons ((tv.keep (R2.keep hs5)).keep (R5.keep s6)) (.cons tv6 (.cons (.int _) .nil))))
      · have hp := b_accF h5 hp
        walk_at "rp"
        first | exact hp | exact ⟨rfl, hp⟩ | exact ⟨_, _, rfl, rfl, hp⟩
    · rintro σ' H3 ⟨v2, v4, rfl, rfl, hp⟩
      rw [show cmps.drop (cmps.map (·.1)).length = [] from rfl, pCmp.eq_def] at hp
      walk_at "rp"
      exact k.ok _ _ (b_ret hp) _ _ s2 R2 hl2 tv
abbrev s_read_both : Stmt := top 34
theorem sc_read_both : FnScope ["reader", "level", "result", "at"] ["reader", "level"] (defScope s_read_both) := ⟨rfl, rfl, rfl, by decide +kernel, rfl, by decide +kernel, by decide +kernel⟩
theorem cal_read_both (dx : DefAt K mg "read_both" s_read_both) (B : Bl mg) (PL : ParC K w mg) (M : RdM P w K mg base C DM DO) {k N : Nat} (hk : 10 ≤ k) (hN1 : N + 1 ≤ 25) (G_read_plain : Cal P w K mg base (k + 5) "read_plain" ["reader", "level"] (spRN C DM DO pPlain (N + 1)))  : Cal P w K mg base (k + 6) "read_both" ["reader", "level"] (spRN C DM DO pBoth (N + 1)) := by
  obtain ⟨RK, M_at, M_sees, M_sees_kind, M_accept, M_expect, M_read, M_whole, M_deeper⟩ := M
  refine cal_mk dx sc_read_both (fun _ _ _ _ _ _ us hl => match us, hl with | [_, _], _ => rfl) (fun vs H Q E h => ?_) (fun f cdv A outer s H vs Q E hr h => ?_)
  · obtain ⟨r, L, n, ts, rfl, _⟩ := h
    rfl
  · obtain ⟨r, L, n, ts, rfl, hn, hN, R, o, ho, k⟩ := h
    have tk : L2N.Takes (cxOf (L2N.CX P w) P w K mg base ["reader", "level", "result", "at"] "read_both" (defScope s_read_both) f cdv A outer s H E) (fun cls d _ H => E cls d H) := L2N.takes_of rfl rfl rfl rfl
    refine ⟨_, (pss_cons (ps_set (i := 2) sc_read_both.nd rfl (Or.inl rfl) (pe_cal G_read_plain (hr.mono (by first | decide | omega)) tk (pa_cons (pv 0) (pa_cons (pv 1) pa_nil))))
      (pss_cons (ps_while (passes_of rfl) (pt_val (pe_metX M_sees (hr.mono (by first | decide | omega)) tk (pv 0) (pa_cons pe_str (pa_cons pe_str pa_nil))))
      (pss_cons (ps_set (i := 3) sc_read_both.nd rfl (Or.inl rfl) (pe_metX0 M_at (hr.mono (by first | decide | omega)) tk (pv 0)))
      (pss_cons (ps_expr (pe_metX M_expect (hr.mono (by first | decide | omega)) tk (pv 0) (pa_cons pe_str (pa_cons pe_str pa_nil))))
      (pss_cons (ps_set (i := 1) sc_read_both.nd rfl (Or.inl rfl) (pe_metX M_deeper (hr.mono (by first | decide | omega)) tk (pv 0) (pa_cons (pv 1) pa_nil)))
      (pss_one (ps_set (i := 2) sc_read_both.nd rfl (Or.inl rfl) (pe_tup (pa_cons pe_str (pa_cons (pv 2) (pa_cons (pe_cal G_read_plain (hr.mono (by first | decide | omega)) tk (pa_cons (pv 0) (pa_cons (pv 1) pa_nil))) (pa_cons (pv 3) pa_nil)))))))))))
      (pss_one (ps_ret (pv 2))))), ?_⟩
    unfold pBoth at ho
    walk_at "rp"
    refine ⟨r, L, n, _, rfl, by omega, by omega, R, r_sub ho k.err RSame.refl fun a ts2 v H2 ho s2 R2 hl2 tv => ?_⟩
    walk_at "rp"
    refine ⟨fun m σ' H' => ∃ (n' : Nat) (a : PyData) (v : V) (v3 : Option V) (ts' : TS1), σ' = [some (.ref r), some (.int (24 - (n' : Int))), some v, v3] ∧ n' ≤ n ∧ RSame r H H' ∧ Rdr C H' r L ts' ∧ Tp H' v a ∧ pBothL L n' a ts' = some o ∧ ts'.length ≤ ts.length ∧ m = n', ⟨_, n, a, v, none, ts2, rfl, Nat.le_refl _, s2, R2, tv, ho, hl2, rfl⟩, ?_⟩
    rintro m3 σ' H3 ⟨n3, a3, v3, w3, ts3, rfl, hn3, hs, R3, tv3, hp, hl3, rfl⟩
    rw [pBothL.eq_def] at hp
    walk_at "rp"
    refine ⟨r, L, ts3, _, _, rfl, by decide, R3, ?_⟩
    walk_at "rp"
    refine r_ite (fun h4 => ?_) (fun h4 => ?_)
    · have hp := b_at (b_seesT h4 hp)
      walk_at "rp"
      refine ⟨fun σ' H' => ∃ m', m' < m3 ∧ ∃ (n' : Nat) (a : PyData) (v : V) (v3 : Option V) (ts' : TS1), σ' = [some (.ref r), some (.int (24 - (n' : Int))), some v, v3] ∧ n' ≤ n ∧ RSame r H H' ∧ Rdr C H' r L ts' ∧ Tp H' v a ∧ pBothL L n' a ts' = some o ∧ ts'.length ≤ ts.length ∧ m' = n', fun _ _ h => h, ?_⟩
      walk_at "rp"
      refine ⟨r, L, ts3, rfl, R3, ?_⟩
      walk_at "rp"
      refine ⟨r, L, ts3, _, _, rfl, by decide, R3, fun h5 H5 hs5 R5 => ?_, fun h5 => by rw [h4] at h5; cases h5⟩
      have hp := b_expT h5 hp
      walk_at "rp"
      refine ⟨r, m3, rfl, R5.ins, by omega, fun h0 => (k.err _ (b_deep0 h0 hp)).mono (hs.trans hs5), fun m hm => ?_⟩
      have hp := b_deepS hm hp
      walk_at "rp"
      refine ⟨r, L, m, _, rfl, by omega, by omega, R5, r_sub hp k.err (hs.trans hs5) fun a6 ts6 v6 H6 hp s6 R6 hl6 tv6 => ?_⟩
      walk_at "rp"
      intro p7 hp7
      walk_at "rp"
      have s7 := ((hs.trans hs5).trans s6).new (o := .tup [.str "and", v3, v6, .int (atP L ts3 : Int)]) hp7
      have kp := Keep.new (o := .tup [.str "and", v3, v6, .int (atP L ts3 : Int)]) hp7
      exact ⟨m, by omega, m, _, _, _, ts6, rfl, by omega, s7, R6.same (Same.new hp7), .tup upd_same (.cons (.str _) (.cons (((tv3.keep (R3.keep hs5)).keep (R5.keep s6)).keep kp) (.cons (tv6.keep kp) (.cons (.int _) .nil)))), hp, Nat.le_trans hl6 (Nat.le_trans tl_le hl3), rfl⟩
    · have hp := b_seesF h4 hp
      walk_at "rp"
      exact k.ok _ _ (b_ret hp) _ _ hs R3 hl3 tv3
abbrev s_read_expression : Stmt := top 35
theorem sc_read_expression : FnScope ["reader", "level", "at", "test", "first", "name", "value", "result"] ["reader", "level"] (defScope s_read_expression) := ⟨rfl, rfl, rfl, by decide +kernel, rfl, by decide +kernel, by decide +kernel⟩
theorem cal_read_expression (dx : DefAt K mg "read_expression" s_read_expression) (B : Bl mg) (PL : ParC K w mg) (M : RdM P w K mg base C DM DO) {k N : Nat} (hk : 10 ≤ k) (hN1 : N + 1 ≤ 25) (G_read_expression : Cal P w K mg base (k) "read_expression" ["reader", "level"] (spRN C DM DO pExpr (N))) (G_read_both : Cal P w K mg base (k + 6) "read_both" ["reader", "level"] (spRN C DM DO pBoth (N + 1)))  : Cal P w K mg base (k + 7) "read_expression" ["reader", "level"] (spRN C DM DO pExpr (N + 1)) := by
  obtain ⟨RK, M_at, M_sees, M_sees_kind, M_accept, M_expect, M_read, M_whole, M_deeper⟩ := M
  refine cal_mk dx sc_read_expression (fun _ _ _ _ _ _ us hl => match us, hl with | [_, _], _ => rfl) (fun vs H Q E h => ?_) (fun f cdv A outer s H vs Q E hr h => ?_)
  · obtain ⟨r, L, n, ts, rfl, _⟩ := h
    rfl
  · obtain ⟨r, L, n, ts, rfl, hn, hN, R, o, ho, k⟩ := h
    have tk : L2N.Takes (cxOf (L2N.CX P w) P w K mg base ["reader", "level", "at", "test", "first", "name", "value", "result"] "read_expression" (defScope s_read_expression) f cdv A outer s H E) (fun cls d _ H => E cls d H) := L2N.takes_of rfl rfl rfl rfl
    refine ⟨_, (pss_cons (ps_set (i := 2) sc_read_expression.nd rfl (Or.inl rfl) (pe_metX0 M_at (hr.mono (by first | decide | omega)) tk (pv 0)))
      (pss_cons (ps_if (pt_val (pe_metX M_accept (hr.mono (by first | decide | omega)) tk (pv 0) (pa_cons pe_str (pa_cons pe_str pa_nil))))
      (pss_cons (ps_set (i := 3) sc_read_expression.nd rfl (Or.inl rfl) (pe_cal G_read_expression (hr.mono (by first | decide | omega)) tk (pa_cons (pv 0) (pa_cons (pe_metX M_deeper (hr.mono (by first | decide | omega)) tk (pv 0) (pa_cons (pv 1) pa_nil)) pa_nil))))
      (pss_cons (ps_expr (pe_metX M_expect (hr.mono (by first | decide | omega)) tk (pv 0) (pa_cons pe_str (pa_cons pe_str pa_nil))))
      (pss_cons (ps_set (i := 4) sc_read_expression.nd rfl (Or.inl rfl) (pe_cal G_read_expression (hr.mono (by first | decide | omega)) tk (pa_cons (pv 0) (pa_cons (pe_metX M_deeper (hr.mono (by first | decide | omega)) tk (pv 0) (pa_cons (pv 1) pa_nil)) pa_nil))))
      (pss_cons (ps_expr (pe_metX M_expect (hr.mono (by first | decide | omega)) tk (pv 0) (pa_cons pe_str (pa_cons pe_str pa_nil))))
      (pss_one (ps_ret (pe_tup (pa_cons pe_str (pa_cons (pv 3) (pa_cons (pv 4) (pa_cons (pe_cal G_read_expression (hr.mono (by first | decide | omega)) tk (pa_cons (pv 0) (pa_cons (pe_metX M_deeper (hr.mono (by first | decide | omega)) tk (pv 0) (pa_cons (pv 1) pa_nil)) pa_nil))) (pa_cons (pv 2) pa_nil))))))))))))
      pss_nil)
      (pss_cons (ps_if (pt_val (pe_metX M_accept (hr.mono (by first | decide | omega)) tk (pv 0) (pa_cons pe_str (pa_cons pe_str pa_nil))))
      (pss_cons (ps_set (i := 5) sc_read_expression.nd rfl (Or.inl rfl) (pe_metX M_read (hr.mono (by first | decide | omega)) tk (pv 0) (pa_cons pe_str pa_nil)))
      (pss_cons (ps_expr (pe_metX M_expect (hr.mono (by first | decide | omega)) tk (pv 0) (pa_cons pe_str (pa_cons pe_str pa_nil))))
      (pss_cons (ps_set (i := 6) sc_read_expression.nd rfl (Or.inl rfl) (pe_cal G_read_expression (hr.mono (by first | decide | omega)) tk (pa_cons (pv 0) (pa_cons (pe_metX M_deeper (hr.mono (by first | decide | omega)) tk (pv 0) (pa_cons (pv 1) pa_nil)) pa_nil))))
      (pss_cons (ps_expr (pe_metX M_expect (hr.mono (by first | decide | omega)) tk (pv 0) (pa_cons pe_str (pa_cons pe_str pa_nil))))
      (pss_one (ps_ret (pe_tup (pa_cons pe_str (pa_cons (pv 5) (pa_cons (pv 6) (pa_cons (pe_cal G_read_expression (hr.mono (by first | decide | omega)) tk (pa_cons (pv 0) (pa_cons (pe_metX M_deeper (hr.mono (by first | decide | omega)) tk (pv 0) (pa_cons (pv 1) pa_nil)) pa_nil))) (pa_cons (pv 2) pa_nil))))))))))))
      pss_nil)
      (pss_cons (ps_set (i := 7) sc_read_expression.nd rfl (Or.inl rfl) (pe_cal G_read_both (hr.mono (by first | decide | omega)) tk (pa_cons (pv 0) (pa_cons (pv 1) pa_nil))))
      (pss_cons (ps_while (passes_of rfl) (pt_val (pe_metX M_sees (hr.mono (by first | decide | omega)) tk (pv 0) (pa_cons pe_str (pa_cons pe_str pa_nil))))
      (pss_cons (ps_set (i := 2) sc_read_expression.nd rfl (Or.inl rfl) (pe_metX0 M_at (hr.mono (by first | decide | omega)) tk (pv 0)))
      (pss_cons (ps_expr (pe_metX M_expect (hr.mono (by first | decide | omega)) tk (pv 0) (pa_cons pe_str (pa_cons pe_str pa_nil))))
      (pss_cons (ps_set (i := 1) sc_read_expression.nd rfl (Or.inl rfl) (pe_metX M_deeper (hr.mono (by first | decide | omega)) tk (pv 0) (pa_cons (pv 1) pa_nil)))
      (pss_one (ps_set (i := 7) sc_read_expression.nd rfl (Or.inl rfl) (pe_tup (pa_cons pe_str (pa_cons (pv 7) (pa_cons (pe_cal G_read_both (hr.mono (by first | decide | omega)) tk (pa_cons (pv 0) (pa_cons (pv 1) pa_nil))) (pa_cons (pv 2) pa_nil)))))))))))
      (pss_one (ps_ret (pv 7)))))))), ?_⟩
    rw [pExpr.eq_def] at ho
    have ho := b_at ho
    walk_at "rp"
    refine ⟨r, L, ts, rfl, R, ?_⟩
    walk_at "rp"
    refine ⟨r, L, ts, _, _, rfl, by decide, R, fun h1 H1 hs1 R1 => ?_, fun h1 => ?_⟩
    · have ho := b_accT h1 ho
      walk_at "rp"
      refine ⟨r, n, rfl, R1.ins, by omega, fun h0 => (k.err _ (b_deep0 h0 ho)).mono hs1, fun m hm => ?_⟩
      have ho := b_deepS hm ho
      walk_at "rp"
      refine ⟨r, L, m, _, rfl, by omega, by omega, R1, r_sub ho k.err hs1 fun a2 ts2 v2 H2 ho s2 R2 hl2 tv2 => ?_⟩
      walk_at "rp"
      refine ⟨r, L, ts2, _, _, rfl, by decide, R2, fun h3 H3 hs3 R3 => ?_, fun h3 => (k.err _ (b_expF h3 ho)).mono (hs1.trans s2)⟩
      have ho := b_expT h3 ho
      have s3 := (hs1.trans s2).trans hs3
      walk_at "rp"
      refine ⟨r, n, rfl, R3.ins, by omega, fun h0 => (k.err _ (b_deep0 h0 ho)).mono s3, fun m hm => ?_⟩
      have ho := b_deepS hm ho
      walk_at "rp"
      refine ⟨r, L, m, _, rfl, by omega, by omega, R3, r_sub ho k.err s3 fun a4 ts4 v4 H4 ho s4 R4 hl4 tv4 => ?_⟩
      walk_at "rp"
      refine ⟨r, L, ts4, _, _, rfl, by decide, R4, fun h5 H5 hs5 R5 => ?_, fun h5 => (k.err _ (b_expF h5 ho)).mono (s3.trans s4)⟩
      have ho := b_expT h5 ho
      have s5 := (s3.trans s4).trans hs5
      walk_at "rp"
      refine ⟨r, n, rfl, R5.ins, by omega, fun h0 => (k.err _ (b_deep0 h0 ho)).mono s5, fun m hm => ?_⟩
      have ho := b_deepS hm ho
      walk_at "rp"
      refine ⟨r, L, m, _, rfl, by omega, by omega, R5, r_sub ho k.err s5 fun a6 ts6 v6 H6 ho s6 R6 hl6 tv6 => ?_⟩
      walk_at "rp"
      exact r_ret_tup k ho (s5.trans s6) R6 (Nat.le_trans hl6 (Nat.le_trans tl_le (Nat.le_trans hl4 (Nat.le_trans tl_le (Nat.le_trans hl2 tl_le)))))
        (.cons (.str _) (.cons ((((tv2.keep (R2.keep hs3)).keep (R3.keep s4)).keep (R4.keep hs5)).keep (R5.keep s6)) (.cons ((tv4.keep (R4.keep hs5)).keep (R5.keep s6)) (.cons tv6 (.cons (.int _) .nil)))))
    have ho := b_accF h1 ho
    walk_at "rp"
    refine ⟨r, L, ts, _, _, rfl, by decide, R, fun h1 H1 hs1 R1 => ?_, fun h1 => ?_⟩
    · have ho := b_accT h1 ho
      walk_at "rp"
      refine ⟨r, L, ts.tail, _, rfl, R1, fun h2 v2 H2 hs2 R2 tv2 => ?_, fun h2 => (k.err _ (b_readF h2 ho)).mono hs1⟩
      have ho := b_readT h2 ho
      walk_at "rp"
      refine ⟨r, L, _, _, _, rfl, by decide, R2, fun h3 H3 hs3 R3 => ?_, fun h3 => (k.err _ (b_expF h3 ho)).mono (hs1.trans hs2)⟩
      have ho := b_expT h3 ho
      have s3 := (hs1.trans hs2).trans hs3
      walk_at "rp"
      refine ⟨r, n, rfl, R3.ins, by omega, fun h0 => (k.err _ (b_deep0 h0 ho)).mono s3, fun m hm => ?_⟩
      have ho := b_deepS hm ho
      walk_at "rp"
      refine ⟨r, L, m, _, rfl, by omega, by omega, R3, r_sub ho k.err s3 fun a4 ts4 v4 H4 ho s4 R4 hl4 tv4 => ?_⟩
      walk_at "rp"
      refine ⟨r, L, ts4, _, _, rfl, by decide, R4, fun h5 H5 hs5 R5 => ?_, fun h5 => (k.err _ (b_expF h5 ho)).mono (s3.trans s4)⟩
      have ho := b_expT h5 ho
      have s5 := (s3.trans s4).trans hs5
      walk_at "rp"
      refine ⟨r, n, rfl, R5.ins, by omega, fun h0 => (k.err _ (b_deep0 h0 ho)).mono s5, fun m hm => ?_⟩
      have ho := b_deepS hm ho
      walk_at "rp"
      refine ⟨r, L, m, _, rfl, by omega, by omega, R5, r_sub ho k.err s5 fun a6 ts6 v6 H6 ho s6 R6 hl6 tv6 => ?_⟩
      walk_at "rp"
      exact r_ret_tup k ho (s5.trans s6) R6 (Nat.le_trans hl6 (Nat.le_trans tl_le (Nat.le_trans hl4 (Nat.le_trans tl_le (Nat.le_trans tl_le tl_le)))))
        (.cons (.str _) (.cons ((((tv2.keep (R2.keep hs3)).keep (R3.keep s4)).keep (R4.keep hs5)).keep (R5.keep s6)) (.cons ((tv4.keep (R4.keep hs5)).keep (R5.keep s6)) (.cons tv6 (.cons (.int _) .nil)))))
    have ho := b_accF h1 ho
    walk_at "rp"
    refine ⟨r, L, n, _, rfl, by omega, by omega, R, r_sub ho k.err RSame.refl fun a ts2 v H2 ho s2 R2 hl2 tv => ?_⟩
    walk_at "rp"
    refine ⟨fun m σ' H' => ∃ (n' : Nat) (a : PyData) (v : V) (w2 : Option V) (ts' : TS1), σ' = [some (.ref r), some (.int (24 - (n' : Int))), w2, none, none, none, none, some v] ∧ n' ≤ n ∧ RSame r H H' ∧ Rdr C H' r L ts' ∧ Tp H' v a ∧ pOrL L n' (atP L ts) a ts' = some o ∧ ts'.length ≤ ts.length ∧ m = n', ⟨_, n, a, v, _, ts2, rfl, Nat.le_refl _, s2, R2, tv, ho, hl2, rfl⟩, ?_⟩
    rintro m3 σ' H3 ⟨n3, a3, v3, w3, ts3, rfl, hn3, hs, R3, tv3, hp, hl3, rfl⟩
    rw [pOrL.eq_def] at hp
    walk_at "rp"
    refine ⟨r, L, ts3, _, _, rfl, by decide, R3, ?_⟩
    walk_at "rp"
    refine r_ite (fun h4 => ?_) (fun h4 => ?_)
    · have hp := b_at (b_seesT h4 hp)
      walk_at "rp"
      refine ⟨fun σ' H' => ∃ m', m' < m3 ∧ ∃ (n' : Nat) (a : PyData) (v : V) (w2 : Option V) (ts' : TS1), σ' = [some (.ref r), some (.int (24 - (n' : Int))), w2, none, none, none, none, some v] ∧ n' ≤ n ∧ RSame r H H' ∧ Rdr C H' r L ts' ∧ Tp H' v a ∧ pOrL L n' (atP L ts) a ts' = some o ∧ ts'.length ≤ ts.length ∧ m' = n', fun _ _ h => h, ?_⟩
      walk_at "rp"
      refine ⟨r, L, ts3, rfl, R3, ?_⟩
      walk_at "rp"
      refine ⟨r, L, ts3, _, _, rfl, by decide, R3, fun h5 H5 hs5 R5 => ?_, fun h5 => by rw [h4] at h5; cases h5⟩
      have hp := b_expT h5 hp
      walk_at "rp"
      refine ⟨r, m3, rfl, R5.ins, by omega, fun h0 => (k.err _ (b_deep0 h0 hp)).mono (hs.trans hs5), fun m hm => ?_⟩
      have hp := b_deepS hm hp
      walk_at "rp"
      refine ⟨r, L, m, _, rfl, by omega, by omega, R5, r_sub hp k.err (hs.trans hs5) fun a6 ts6 v6 H6 hp s6 R6 hl6 tv6 => ?_⟩
      walk_at "rp"
      intro p7 hp7
      walk_at "rp"
      have s7 := ((hs.trans hs5).trans s6).new (o := .tup [.str "or", v3, v6, .int (atP L ts3 : Int)]) hp7
      have kp := Keep.new (o := .tup [.str "or", v3, v6, .int (atP L ts3 : Int)]) hp7
      exact ⟨m, by omega, m, _, _, _, ts6, rfl, by omega, s7, R6.same (Same.new hp7), .tup upd_same (.cons (.str _) (.cons (((tv3.keep (R3.keep hs5)).keep (R5.keep s6)).keep kp) (.cons (tv6.keep kp) (.cons (.int _) .nil)))), hp, Nat.le_trans hl6 (Nat.le_trans tl_le hl3), rfl⟩
    · have hp := b_seesF h4 hp
      walk_at "rp"
      exact k.ok _ _ (b_ret hp) _ _ hs R3 hl3 tv3
end
end Al
namespace Al
open PySem PySem.Spec PyProof.Rows L2 NdefX PySem.W
local macro_rules | `(tactic| walk_at "rd1") => `(tactic| with_reducible first
  | (show tVar _ _ _ _; refine r_var (by with_unfolding_all rfl) ?_) | refine r_c ?_ | refine r_op ?_ | refine r_I0 ?_ | refine r_un ?_ | refine r_U ?_
  | (show rI _ _ _ _ _ _; refine r_I (by with_unfolding_all first | exact ⟨by decide, by decide⟩ | (show (0 : Int) < _; decide)) ?_)
  | refine r_eqI ?_ | refine r_neI ?_ | refine r_eqS ?_ | refine r_neS ?_ | refine r_eqB ?_ | refine r_neB ?_ | refine r_chain ?_
  | refine r_test ?_ | refine r_B ?_ | refine r_bl ?_ | refine r_int ?_ | refine r_and ?_ | refine r_or ?_ | refine r_not ?_ | refine r_andV ?_ | refine r_orV ?_ | refine r_notV ?_
  | refine r_if ?_ | refine r_nil ?_ | refine r_cons ?_ | refine r_cb ?_ | refine r_call ?_ | refine r_callS ?_ | refine r_tup ?_ | refine r_lst ?_ | refine r_seq ?_ | refine r_next ?_ | refine r_asg ?_
  | refine r_name ?_ | refine r_ifS ?_ | refine r_ret ?_ | refine r_retN ?_ | refine r_drop ?_ | refine r_brk ?_ | refine r_ct ?_ | refine r_sl ?_ | refine r_part ?_ | refine r_nopart ?_
  | refine r_bm ?_ | refine r_bm0 ?_ | refine r_raiseX ?_ | refine r_mkO ?_ | refine iteF ?_ | refine iteT ?_ | refine r_int1 ?_ | refine r_int1b ?_ | (show _ ≤ sizeLine ∧ _; refine r_sz (by with_unfolding_all first | omega | (simp only [List.length_cons, List.length_nil]; omega)) ?_)
  | (show ∃ _, _; refine ⟨_, rfl, ?_⟩) | (show ∃ _, _; refine ⟨_, _, rfl, rfl, ?_⟩) | (show ∃ _, _; refine ⟨_, _, rfl, ?_⟩))
local macro_rules | `(tactic| walk_at "rd") => `(tactic| repeat (walk_at "rd1"))
local macro_rules | `(tactic| walk_at "rd2") => `(tactic| with_reducible first
  | (show tFld _ _ _ _ _ _; refine r_fldI (by with_unfolding_all rfl) (by with_unfolding_all assumption) (by with_unfolding_all assumption) (by with_unfolding_all assumption) (by with_unfolding_all rfl) ?_)
  | (show tMetS _ _ _ _ _ _ _ _ _; refine r_rm (by with_unfolding_all assumption) (by with_unfolding_all rfl) (by decide) ?_)
  | refine r_sfl ?_ | refine iteNF ?_ | refine iteNT ?_ | refine r_makS ?_)
local macro_rules | `(tactic| walk_at "rp") => `(tactic| repeat first | walk_at "rd1" | walk_at "rd2")

section
variable {P : Program} {w : World} {K : Frag} {mg : Str → Option Value} {base : Heap} {C DM DO : Addr}
abbrev s_read_parameters : Stmt := top 36
theorem sc_read_parameters : FnScope ["reader", "result", "more", "name", "units"] ["reader"] (defScope s_read_parameters) := ⟨rfl, rfl, rfl, by decide +kernel, rfl, by decide +kernel, by decide +kernel⟩
theorem cal_read_parameters (dx : DefAt K mg "read_parameters" s_read_parameters) (B : Bl mg) (PL : ParC K w mg) (M : RdM P w K mg base C DM DO) (G_read_product : Cal P w K mg base 6 "read_product" ["reader"] (spR0 C DM DO pProd))  : Cal P w K mg base (7) "read_parameters" ["reader"] (spR0 C DM DO pPars) := by
  obtain ⟨RK, M_at, M_sees, M_sees_kind, M_accept, M_expect, M_read, M_whole, M_deeper⟩ := M
  refine cal_mk dx sc_read_parameters (fun _ _ _ _ _ _ us hl => match us, hl with | [_], _ => rfl) (fun vs H Q E h => ?_) (fun f cdv A outer s H vs Q E hr h => ?_)
  · obtain ⟨r, L, ts, rfl, _⟩ := h
    rfl
  · obtain ⟨r, L, ts, rfl, R, o, ho, k⟩ := h
    have tk : L2N.Takes (cxOf (L2N.CX P w) P w K mg base ["reader", "result", "more", "name", "units"] "read_parameters" (defScope s_read_parameters) f cdv A outer s H E) (fun cls d _ H => E cls d H) := L2N.takes_of rfl rfl rfl rfl
    refine ⟨_, (pss_cons (ps_set (i := 1) sc_read_parameters.nd rfl (Or.inl rfl) (pe_lst pa_nil))
      (pss_cons (ps_expr (pe_metX M_expect (hr.mono (by first | decide | omega)) tk (pv 0) (pa_cons pe_str (pa_cons pe_str pa_nil))))
      (pss_cons (ps_if (pt_not (pt_val (pe_metX M_accept (hr.mono (by first | decide | omega)) tk (pv 0) (pa_cons pe_str (pa_cons pe_str pa_nil)))))
      (pss_cons (ps_set (i := 2) sc_read_parameters.nd rfl (Or.inl rfl) pe_bl)
      (pss_cons (ps_while (passes_of rfl) (pt_val (pv 2))
      (pss_cons (ps_set (i := 3) sc_read_parameters.nd rfl (Or.inl rfl) (pe_metX M_read (hr.mono (by first | decide | omega)) tk (pv 0) (pa_cons pe_str pa_nil)))
      (pss_cons (ps_set (i := 4) sc_read_parameters.nd rfl (Or.inl rfl) pe_non)
      (pss_cons (ps_if (pt_val (pe_metX M_accept (hr.mono (by first | decide | omega)) tk (pv 0) (pa_cons pe_str (pa_cons pe_str pa_nil))))
      (pss_one (ps_set (i := 4) sc_read_parameters.nd rfl (Or.inl rfl) (pe_cal G_read_product (hr.mono (by first | decide | omega)) tk (pa_cons (pv 0) pa_nil))))
      pss_nil)
      (pss_cons (ps_expr (pe_bm PySem.F.plainAttrs_list PySem.F.slot_list_append PySem.F.type_list_append mt_append (pv 1) (pa_cons (pe_tup (pa_cons (pv 3) (pa_cons (pv 4) pa_nil))) pa_nil)))
      (pss_one (ps_set (i := 2) sc_read_parameters.nd rfl (Or.inl rfl) (pe_metX M_accept (hr.mono (by first | decide | omega)) tk (pv 0) (pa_cons pe_str (pa_cons pe_str pa_nil))))))))))
      (pss_one (ps_expr (pe_metX M_expect (hr.mono (by first | decide | omega)) tk (pv 0) (pa_cons pe_str (pa_cons pe_str pa_nil)))))))
      pss_nil)
      (pss_one (ps_ret (pe_callTy call_tuple_of (by rfl) B.tuple (by decide +kernel) (pa_cons (pv 1) pa_nil))))))), ?_⟩
    unfold pPars at ho
    walk_at "rp"
    intro q hq
    have R0 : Rdr C (upd H q (.lst [])) r L ts := R.same (Same.new hq)
    walk_at "rp"
    have hqr : q ≠ r := by
      obtain ⟨dx, fs, hi⟩ := R.ins
      exact (RSame.fresh RSame.refl hi hq).2
    refine ⟨r, L, ts, _, _, rfl, by decide, R0, fun h1 H1 hs1 R1 => ?_, fun h1 => (k.err _ (b_expF h1 ho)).mono (RSame.refl.new hq)⟩
    have ho := b_expT h1 ho
    have s1 := (RSame.refl.new hq).trans hs1
    have hq1 := hs1.get _ _ hqr upd_same
    have hl1 := tl_lt h1
    walk_at "rp"
    refine ⟨r, L, ts.tail, _, _, rfl, by decide, R1, fun h2 H2 hs2 R2 => ?_, fun h2 => ?_⟩
    · have ho := b_accT h2 ho
      have hq2 := hs2.get _ _ hqr hq1
      walk_at "rp"
      refine ⟨q, [], rfl, .inl ⟨SqL.of hq2, ?_⟩⟩
      exact r_ret_tup k ho (s1.trans hs2) R2 (Nat.le_trans tl_le (by omega)) .nil
    have ho := b_accF h2 ho
    have hlen := R.len
    walk_at "rp"
    refine ⟨fun m σ' H' => ∃ (acc : List PyData) (us : List V) (b : Bool) (v3 v4 : Option V) (ts' : TS1), σ' = [some (.ref r), some (.ref q), some (.bl b), v3, v4] ∧ RSame r H H' ∧ Rdr C H' r L ts' ∧ H' q = some (.lst us) ∧ TpAll H' us acc ∧ parK L b acc ts' = some o ∧ ts'.length ≤ ts.length ∧ us.length + ts'.length ≤ 20000 ∧ m = (if b = true then 1 else 0) + ts'.length, ⟨_, [], [], true, none, none, ts.tail, rfl, s1, R1, hq1, .nil, ho, by omega, by simp only [List.length_nil]; omega, rfl⟩, ?_⟩
    rintro m σ' H3 ⟨acc, us, b, v3, v4, ts3, rfl, hs, R3, hq3, hus, hp, htl3, hlen3, rfl⟩
    cases b with
    | false =>
      have hp : (pExp L "sign" ")" >>= fun _ => (pure (.tuple acc) : Pr PyData)) ts3 = some o := hp
      walk_at "rp"
      refine ⟨r, L, ts3, _, _, rfl, by decide, R3, fun h5 H5 hs5 R5 => ?_, fun h5 => (k.err _ (b_expF h5 hp)).mono hs⟩
      have hp := b_expT h5 hp
      have hq5 := hs5.get _ _ hqr hq3
      walk_at "rp"
      refine ⟨q, us, rfl, .inl ⟨SqL.of hq5, ?_⟩⟩
      exact r_ret_tup k hp (hs.trans hs5) R5 (Nat.le_trans tl_le htl3) (hus.keep (R3.keep hs5))
    | true =>
      have hp : pParL L acc ts3 = some o := hp
      rw [pParL.eq_def] at hp
      walk_at "rp"
      refine ⟨fun σ' H' => ∃ m', m' < 1 + ts3.length ∧ ∃ (acc : List PyData) (us : List V) (b : Bool) (v3 v4 : Option V) (ts' : TS1), σ' = [some (.ref r), some (.ref q), some (.bl b), v3, v4] ∧ RSame r H H' ∧ Rdr C H' r L ts' ∧ H' q = some (.lst us) ∧ TpAll H' us acc ∧ parK L b acc ts' = some o ∧ ts'.length ≤ ts.length ∧ us.length + ts'.length ≤ 20000 ∧ m' = (if b = true then 1 else 0) + ts'.length, fun _ _ h => h, ?_⟩
      walk_at "rp"
      refine ⟨r, L, ts3, _, rfl, R3, fun h5 v5 H5 hs5 R5 tv5 => ?_, fun h5 => (k.err _ (b_readF h5 hp)).mono hs⟩
      have hp := b_readT h5 hp
      have hq5 := hs5.get _ _ hqr hq3
      walk_at "rp"
      have hlt5 : ts3.tail.length + 1 = ts3.length := by
        cases ts3 with
        | nil => cases h5
        | cons t rr => rfl
      refine ⟨r, L, ts3.tail, _, _, rfl, by decide, R5, fun h6 H6 hs6 R6 => ?_, fun h6 => ?_⟩
      · have hp := b_accT2 h6 hp
        have hq6 := hs6.get _ _ hqr hq5
        have hl6 := tl_lt h6
        walk_at "rp"
        refine ⟨r, L, _, rfl, R6, r_sub hp k.err ((hs.trans hs5).trans hs6) fun a7 ts7 v7 H7 hp s7 R7 hl7 tv7 => ?_⟩
        have hq7 := s7.get _ _ hqr hq6
        walk_at "rp"
        refine ⟨.inl ⟨rfl, _, SqL.of hq7⟩, ?_⟩
        walk_at "rp"
        intro p8 hp8
        have hqp : q ≠ p8 := ne_of_none hq7 hp8
        refine ⟨q, us, .ref p8, rfl, rfl, by rw [upd_ne hqp]; exact hq7, by rw [sizeLine_eq]; omega, ?_⟩
        have kp8 := Keep.new (o := .tup [v5, v7]) hp8
        have hq8 : upd H7 p8 (.tup [v5, v7]) q = some (.lst us) := by rw [upd_ne hqp]; exact hq7
        have kq8 := Keep.mut (o := .lst (us ++ [.ref p8])) hq8 fun xs z => nomatch z
        have kk := kp8.trans kq8
        have s8 := ((((hs.trans hs5).trans hs6).trans s7).new (o := .tup [v5, v7]) hp8).mut (o := .lst (us ++ [.ref p8])) hq hqr
        have R8 := Rdr.mut (us' := us ++ [.ref p8]) R hq ((((hs.trans hs5).trans hs6).trans s7).new (o := .tup [v5, v7]) hp8) (R7.same (Same.new hp8)) hq8
        have tp8 := TpAll.app ((((hus.keep (R3.keep hs5)).keep (R5.keep hs6)).keep (R6.keep s7)).keep kk) (.cons (.tup (a := p8) (kq8 _ _ upd_same) (.cons (((tv5.keep (R5.keep hs6)).keep (R6.keep s7)).keep kk) (.cons ((show Tp H7 v7 a7 from tv7).keep kk) .nil))) .nil)
        have hq9 : upd (upd H7 p8 (.tup [v5, v7])) q (.lst (us ++ [.ref p8])) q = _ := upd_same
        generalize upd (upd H7 p8 (.tup [v5, v7])) q (.lst (us ++ [.ref p8])) = H8 at *
        walk_at "rp"
        refine ⟨r, L, ts7, _, _, rfl, by decide, R8, fun h9 H9 hs9 R9 => ?_, fun h9 => ?_⟩
        · have hp := b_accT h9 hp
          have hq10 := hs9.get _ _ hqr hq9
          have hl9 := tl_lt h9
          walk_at "rp"
          refine ⟨1 + ts7.tail.length, ?_, _, _, true, _, _, ts7.tail, rfl, s8.trans hs9, R9, hq10, tp8.keep (R8.keep hs9), hp, ?_, ?_, rfl⟩
          · omega
          · omega
          · rw [List.length_append]; simp only [List.length_cons, List.length_nil]; omega
        · have hp := b_accF h9 hp
          walk_at "rp"
          refine ⟨0 + ts7.length, ?_, _, _, false, _, _, ts7, rfl, s8, R8, hq9, tp8, hp, ?_, ?_, rfl⟩
          · omega
          · omega
          · rw [List.length_append]; simp only [List.length_cons, List.length_nil]; omega

      · have hp := b_pure (b_accF2 h6 hp)
        walk_at "rp"
        refine ⟨.inl ⟨rfl, _, SqL.of hq5⟩, ?_⟩
        walk_at "rp"
        intro p8 hp8
        have hqp : q ≠ p8 := ne_of_none hq5 hp8
        refine ⟨q, us, .ref p8, rfl, rfl, by rw [upd_ne hqp]; exact hq5, by rw [sizeLine_eq]; omega, ?_⟩
        have kp8 := Keep.new (o := .tup [v5, .non]) hp8
        have hq8 : upd H5 p8 (.tup [v5, .non]) q = some (.lst us) := by rw [upd_ne hqp]; exact hq5
        have kq8 := Keep.mut (o := .lst (us ++ [.ref p8])) hq8 fun xs z => nomatch z
        have kk := kp8.trans kq8
        have s8 := ((hs.trans hs5).new (o := .tup [v5, .non]) hp8).mut (o := .lst (us ++ [.ref p8])) hq hqr
        have R8 := Rdr.mut (us' := us ++ [.ref p8]) R hq ((hs.trans hs5).new (o := .tup [v5, .non]) hp8) (R5.same (Same.new hp8)) hq8
        have tp8 := TpAll.app ((hus.keep (R3.keep hs5)).keep kk) (.cons (.tup (a := p8) (kq8 _ _ upd_same) (.cons ((tv5).keep kk) (.cons (((Tp.non : Tp H5 .non .none)).keep kk) .nil))) .nil)
        have hq9 : upd (upd H5 p8 (.tup [v5, .non])) q (.lst (us ++ [.ref p8])) q = _ := upd_same
        generalize upd (upd H5 p8 (.tup [v5, .non])) q (.lst (us ++ [.ref p8])) = H8 at *
        walk_at "rp"
        refine ⟨r, L, ts3.tail, _, _, rfl, by decide, R8, fun h9 H9 hs9 R9 => ?_, fun h9 => ?_⟩
        · have hp := b_accT h9 hp
          have hq10 := hs9.get _ _ hqr hq9
          have hl9 := tl_lt h9
          walk_at "rp"
          refine ⟨1 + ts3.tail.tail.length, ?_, _, _, true, _, _, ts3.tail.tail, rfl, s8.trans hs9, R9, hq10, tp8.keep (R8.keep hs9), hp, ?_, ?_, rfl⟩
          · omega
          · omega
          · rw [List.length_append]; simp only [List.length_cons, List.length_nil]; omega
        · have hp := b_accF h9 hp
          walk_at "rp"
          refine ⟨0 + ts3.tail.length, ?_, _, _, false, _, _, ts3.tail, rfl, s8, R8, hq9, tp8, hp, ?_, ?_, rfl⟩
          · omega
          · omega
          · rw [List.length_append]; simp only [List.length_cons, List.length_nil]; omega
end
end Al
namespace Al
open PySem PySem.Spec PyProof.Rows L2 NdefX PySem.W
local macro_rules | `(tactic| walk_at "rd1") => `(tactic| with_reducible first
  | (show tVar _ _ _ _; refine r_var (by with_unfolding_all rfl) ?_) | refine r_c ?_ | refine r_op ?_ | refine r_I0 ?_ | refine r_un ?_ | refine r_U ?_
  | (show rI _ _ _ _ _ _; refine r_I (by with_unfolding_all first | exact ⟨by decide, by decide⟩ | (show (0 : Int) < _; decide)) ?_)
  | refine r_eqI ?_ | refine r_neI ?_ | refine r_eqS ?_ | refine r_neS ?_ | refine r_eqB ?_ | refine r_neB ?_ | refine r_chain ?_
  | refine r_test ?_ | refine r_B ?_ | refine r_bl ?_ | refine r_int ?_ | refine r_and ?_ | refine r_or ?_ | refine r_not ?_ | refine r_andV ?_ | refine r_orV ?_ | refine r_notV ?_
  | refine r_if ?_ | refine r_nil ?_ | refine r_cons ?_ | refine r_cb ?_ | refine r_call ?_ | refine r_callS ?_ | refine r_tup ?_ | refine r_lst ?_ | refine r_seq ?_ | refine r_next ?_ | refine r_asg ?_
  | refine r_name ?_ | refine r_ifS ?_ | refine r_ret ?_ | refine r_retN ?_ | refine r_drop ?_ | refine r_brk ?_ | refine r_ct ?_ | refine r_sl ?_ | refine r_part ?_ | refine r_nopart ?_
  | refine r_bm ?_ | refine r_bm0 ?_ | refine r_raiseX ?_ | refine r_mkO ?_ | refine iteF ?_ | refine iteT ?_ | refine r_int1 ?_ | refine r_int1b ?_ | (show _ ≤ sizeLine ∧ _; refine r_sz (by with_unfolding_all first | omega | (simp only [List.length_cons, List.length_nil]; omega)) ?_)
  | (show ∃ _, _; refine ⟨_, rfl, ?_⟩) | (show ∃ _, _; refine ⟨_, _, rfl, rfl, ?_⟩) | (show ∃ _, _; refine ⟨_, _, rfl, ?_⟩))
local macro_rules | `(tactic| walk_at "rd") => `(tactic| repeat (walk_at "rd1"))
local macro_rules | `(tactic| walk_at "rd2") => `(tactic| with_reducible first
  | (show tFld _ _ _ _ _ _; refine r_fldI (by with_unfolding_all rfl) (by with_unfolding_all assumption) (by with_unfolding_all assumption) (by with_unfolding_all assumption) (by with_unfolding_all rfl) ?_)
  | (show tMetS _ _ _ _ _ _ _ _ _; refine r_rm (by with_unfolding_all assumption) (by with_unfolding_all rfl) (by decide) ?_)
  | refine r_sfl ?_ | refine iteNF ?_ | refine iteNT ?_ | refine r_makS ?_)
local macro_rules | `(tactic| walk_at "rp") => `(tactic| repeat first | walk_at "rd1" | walk_at "rd2")

section
variable {P : Program} {w : World} {K : Frag} {mg : Str → Option Value} {base : Heap} {C DM DO : Addr}
abbrev s_read_line : Stmt := top 37
theorem sc_read_line : FnScope ["reader", "at", "line", "name", "number", "parameters", "units", "value"] ["reader"] (defScope s_read_line) := ⟨rfl, rfl, rfl, by decide +kernel, rfl, by decide +kernel, by decide +kernel⟩
theorem cal_read_line (dx : DefAt K mg "read_line" s_read_line) (B : Bl mg) (PL : ParC K w mg) (M : RdM P w K mg base C DM DO) {k : Nat} (hk : 10 ≤ k) (G_read_expression : Cal P w K mg base k "read_expression" ["reader", "level"] (spRN C DM DO pExpr 24)) (G_read_product : Cal P w K mg base 6 "read_product" ["reader"] (spR0 C DM DO pProd)) (G_read_parameters : Cal P w K mg base 7 "read_parameters" ["reader"] (spR0 C DM DO pPars))  : Cal P w K mg base (k + 1) "read_line" ["reader"] (spLine C DM DO pLine) := by
  obtain ⟨RK, M_at, M_sees, M_sees_kind, M_accept, M_expect, M_read, M_whole, M_deeper⟩ := M
  refine cal_mk dx sc_read_line (fun _ _ _ _ _ _ us hl => match us, hl with | [_], _ => rfl) (fun vs H Q E h => ?_) (fun f cdv A outer s H vs Q E hr h => ?_)
  · obtain ⟨r, L, ts, rfl, _⟩ := h
    rfl
  · obtain ⟨r, L, ts, rfl, R, o, ho, k⟩ := h
    have tk : L2N.Takes (cxOf (L2N.CX P w) P w K mg base ["reader", "at", "line", "name", "number", "parameters", "units", "value"] "read_line" (defScope s_read_line) f cdv A outer s H E) (fun cls d _ H => E cls d H) := L2N.takes_of rfl rfl rfl rfl
    refine ⟨_, (pss_cons (ps_set (i := 1) sc_read_line.nd rfl (Or.inl rfl) (pe_metX0 M_at (hr.mono (by first | decide | omega)) tk (pv 0)))
      (pss_cons (ps_if (pt_val (pe_metX M_accept (hr.mono (by first | decide | omega)) tk (pv 0) (pa_cons pe_str (pa_cons pe_str pa_nil))))
      (pss_one (ps_set (i := 2) sc_read_line.nd rfl (Or.inl rfl) (pe_tup (pa_cons pe_str (pa_cons (pe_metX M_read (hr.mono (by first | decide | omega)) tk (pv 0) (pa_cons pe_str pa_nil)) (pa_cons (pv 1) pa_nil))))))
      (pss_one (ps_if (pt_val (pe_metX M_accept (hr.mono (by first | decide | omega)) tk (pv 0) (pa_cons pe_str (pa_cons pe_str pa_nil))))
      (pss_cons (ps_set (i := 3) sc_read_line.nd rfl (Or.inl rfl) (pe_metX M_read (hr.mono (by first | decide | omega)) tk (pv 0) (pa_cons pe_str pa_nil)))
      (pss_cons (ps_expr (pe_metX M_expect (hr.mono (by first | decide | omega)) tk (pv 0) (pa_cons pe_str (pa_cons pe_str pa_nil))))
      (pss_cons (ps_set (i := 4) sc_read_line.nd rfl (Or.inl rfl) (pe_metX M_read (hr.mono (by first | decide | omega)) tk (pv 0) (pa_cons pe_str pa_nil)))
      (pss_one (ps_set (i := 2) sc_read_line.nd rfl (Or.inl rfl) (pe_tup (pa_cons pe_str (pa_cons (pv 3) (pa_cons (pv 4) (pa_cons (pe_cal G_read_product (hr.mono (by first | decide | omega)) tk (pa_cons (pv 0) pa_nil)) (pa_cons (pv 1) pa_nil)))))))))))
      (pss_one (ps_if (pt_val (pe_metX M_accept (hr.mono (by first | decide | omega)) tk (pv 0) (pa_cons pe_str (pa_cons pe_str pa_nil))))
      (pss_cons (ps_set (i := 3) sc_read_line.nd rfl (Or.inl rfl) (pe_metX M_read (hr.mono (by first | decide | omega)) tk (pv 0) (pa_cons pe_str pa_nil)))
      (pss_cons (ps_set (i := 5) sc_read_line.nd rfl (Or.inl rfl) (pe_cal G_read_parameters (hr.mono (by first | decide | omega)) tk (pa_cons (pv 0) pa_nil)))
      (pss_cons (ps_set (i := 6) sc_read_line.nd rfl (Or.inl rfl) pe_non)
      (pss_cons (ps_if (pt_val (pe_metX M_accept (hr.mono (by first | decide | omega)) tk (pv 0) (pa_cons pe_str (pa_cons pe_str pa_nil))))
      (pss_one (ps_set (i := 6) sc_read_line.nd rfl (Or.inl rfl) (pe_cal G_read_product (hr.mono (by first | decide | omega)) tk (pa_cons (pv 0) pa_nil))))
      pss_nil)
      (pss_cons (ps_expr (pe_metX M_expect (hr.mono (by first | decide | omega)) tk (pv 0) (pa_cons pe_str (pa_cons pe_str pa_nil))))
      (pss_one (ps_set (i := 2) sc_read_line.nd rfl (Or.inl rfl) (pe_tup (pa_cons pe_str (pa_cons (pv 3) (pa_cons (pv 5) (pa_cons (pv 6) (pa_cons (pe_cal G_read_expression (hr.mono (by first | decide | omega)) tk (pa_cons (pv 0) (pa_cons pe_int pa_nil))) (pa_cons (pv 1) pa_nil))))))))))))))
      (pss_cons (ps_expr (pe_metX M_expect (hr.mono (by first | decide | omega)) tk (pv 0) (pa_cons pe_str (pa_cons pe_str pa_nil))))
      (pss_cons (ps_set (i := 7) sc_read_line.nd rfl (Or.inl rfl) (pe_cal G_read_expression (hr.mono (by first | decide | omega)) tk (pa_cons (pv 0) (pa_cons pe_int pa_nil))))
      (pss_cons (ps_set (i := 6) sc_read_line.nd rfl (Or.inl rfl) pe_non)
      (pss_cons (ps_if (pt_val (pe_metX M_accept (hr.mono (by first | decide | omega)) tk (pv 0) (pa_cons pe_str (pa_cons pe_str pa_nil))))
      (pss_one (ps_set (i := 6) sc_read_line.nd rfl (Or.inl rfl) (pe_cal G_read_product (hr.mono (by first | decide | omega)) tk (pa_cons (pv 0) pa_nil))))
      pss_nil)
      (pss_one (ps_set (i := 2) sc_read_line.nd rfl (Or.inl rfl) (pe_tup (pa_cons pe_str (pa_cons (pv 7) (pa_cons (pv 6) (pa_cons (pv 1) pa_nil))))))))))))))))
      (pss_cons (ps_expr (pe_metX M_expect (hr.mono (by first | decide | omega)) tk (pv 0) (pa_cons pe_str (pa_cons pe_str pa_nil))))
      (pss_one (ps_ret (pv 2)))))), ?_⟩
    unfold pLine at ho
    have ho := b_at ho
    walk_at "rp"
    refine ⟨r, L, ts, rfl, R, ?_⟩
    walk_at "rp"
    refine ⟨r, L, ts, _, _, rfl, by decide, R, fun h1 H1 hs1 R1 => ?_, fun h1 => ?_⟩
    · have ho := b_accT h1 ho
      walk_at "rp"
      refine ⟨r, L, ts.tail, _, rfl, R1, fun h2 v2 H2 hs2 R2 tv2 => ?_, fun h2 => (k.err _ (b_readF h2 ho)).mono hs1⟩
      have ho := b_readT h2 ho
      walk_at "rp"
      intro p9 hp9
      walk_at "rp"
      have s9 := (hs1.trans hs2).new (o := .tup [.str "base", v2, .int (atP L ts : Int)]) hp9
      have R9 : Rdr C (upd H2 p9 (.tup [.str "base", v2, .int (atP L ts : Int)])) r L ts.tail.tail := R2.same (Same.new hp9)
      have t9 : Tp (upd H2 p9 (.tup [.str "base", v2, .int (atP L ts : Int)])) (.ref p9) (.tuple _) := .tup upd_same (TpAll.keep (Keep.new hp9) (.cons (.str _) (.cons tv2 (.cons (.int _) .nil))))
      generalize upd H2 p9 (.tup [.str "base", v2, .int (atP L ts : Int)]) = HZ at *
      unfold pSemi at ho
      walk_at "rp"
      refine ⟨r, L, ts.tail.tail, _, _, rfl, by decide, R9, fun hz H10 hs10 R10 => ?_, fun hz => (k.err _ (b_expF hz ho)).mono s9⟩
      have ho := b_expT hz ho
      walk_at "rp"
      exact k.ok _ _ (b_ret ho) _ _ (s9.trans hs10) R10 (tl_lt_le hz (Nat.le_trans tl_le tl_le)) (t9.keep (R9.keep hs10))
    have ho := b_accF h1 ho
    walk_at "rp"
    refine ⟨r, L, ts, _, _, rfl, by decide, R, fun h1 H1 hs1 R1 => ?_, fun h1 => ?_⟩
    · have ho := b_accT h1 ho
      walk_at "rp"
      refine ⟨r, L, ts.tail, _, rfl, R1, fun h2 v2 H2 hs2 R2 tv2 => ?_, fun h2 => (k.err _ (b_readF h2 ho)).mono hs1⟩
      have ho := b_readT h2 ho
      walk_at "rp"
      refine ⟨r, L, _, _, _, rfl, by decide, R2, fun h3 H3 hs3 R3 => ?_, fun h3 => (k.err _ (b_expF h3 ho)).mono (hs1.trans hs2)⟩
      have ho := b_expT h3 ho
      have s3 := (hs1.trans hs2).trans hs3
      walk_at "rp"
      refine ⟨r, L, _, _, rfl, R3, fun h4 v4 H4 hs4 R4 tv4 => ?_, fun h4 => (k.err _ (b_readF h4 ho)).mono s3⟩
      have ho := b_readT h4 ho
      walk_at "rp"
      refine ⟨r, L, _, rfl, R4, r_sub ho k.err (s3.trans hs4) fun a5 ts5 v5 H5 ho s5 R5 hl5 tv5 => ?_⟩
      walk_at "rp"
      intro p9 hp9
      walk_at "rp"
      have s9 := ((s3.trans hs4).trans s5).new (o := .tup [.str "unit", v2, v4, v5, .int (atP L ts : Int)]) hp9
      have R9 : Rdr C (upd H5 p9 (.tup [.str "unit", v2, v4, v5, .int (atP L ts : Int)])) r L ts5 := R5.same (Same.new hp9)
      have t9 : Tp (upd H5 p9 (.tup [.str "unit", v2, v4, v5, .int (atP L ts : Int)])) (.ref p9) (.tuple _) := .tup upd_same (TpAll.keep (Keep.new hp9) (.cons (.str _) (.cons (((tv2.keep (R2.keep hs3)).keep (R3.keep hs4)).keep (R4.keep s5)) (.cons (tv4.keep (R4.keep s5)) (.cons tv5 (.cons (.int _) .nil))))))
      generalize upd H5 p9 (.tup [.str "unit", v2, v4, v5, .int (atP L ts : Int)]) = HZ at *
      unfold pSemi at ho
      walk_at "rp"
      refine ⟨r, L, ts5, _, _, rfl, by decide, R9, fun hz H10 hs10 R10 => ?_, fun hz => (k.err _ (b_expF hz ho)).mono s9⟩
      have ho := b_expT hz ho
      walk_at "rp"
      exact k.ok _ _ (b_ret ho) _ _ (s9.trans hs10) R10 (tl_lt_le hz (Nat.le_trans hl5 (Nat.le_trans tl_le (Nat.le_trans tl_le (Nat.le_trans tl_le tl_le))))) (t9.keep (R9.keep hs10))
    have ho := b_accF h1 ho
    walk_at "rp"
    refine ⟨r, L, ts, _, _, rfl, by decide, R, fun h1 H1 hs1 R1 => ?_, fun h1 => ?_⟩
    · have ho := b_accT h1 ho
      walk_at "rp"
      refine ⟨r, L, ts.tail, _, rfl, R1, fun h2 v2 H2 hs2 R2 tv2 => ?_, fun h2 => (k.err _ (b_readF h2 ho)).mono hs1⟩
      have ho := b_readT h2 ho
      walk_at "rp"
      refine ⟨r, L, _, rfl, R2, r_sub ho k.err (hs1.trans hs2) fun a3 ts3 v3 H3 ho s3 R3 hl3 tv3 => ?_⟩
      have l3 : ts3.length ≤ ts.length := Nat.le_trans hl3 (Nat.le_trans tl_le tl_le)
      have S3 := (hs1.trans hs2).trans s3
      walk_at "rp"
      refine ⟨r, L, ts3, _, _, rfl, by decide, R3, fun h4 H4 hs4 R4 => ?_, fun h4 => ?_⟩
      · have ho := b_accT2 h4 ho
        walk_at "rp"
        refine ⟨r, L, _, rfl, R4, r_sub ho k.err (S3.trans hs4) fun a5 ts5 v5 H5 ho s5 R5 hl5 tv5 => ?_⟩
        walk_at "rp"
        refine ⟨r, L, _, _, _, rfl, by decide, R5, fun h6 H6 hs6 R6 => ?_, fun h6 => (k.err _ (b_expF h6 ho)).mono ((S3.trans hs4).trans s5)⟩
        have ho := b_expT h6 ho
        walk_at "rp"
        refine ⟨r, L, 23, _, rfl, by omega, by omega, R6, r_sub ho k.err (((S3.trans hs4).trans s5).trans hs6) fun a7 ts7 v7 H7 ho s7 R7 hl7 tv7 => ?_⟩
        walk_at "rp"
        intro p9 hp9
        walk_at "rp"
        have s9 := ((((S3.trans hs4).trans s5).trans hs6).trans s7).new (o := .tup [.str "fun", v2, v3, v5, v7, .int (atP L ts : Int)]) hp9
        have R9 : Rdr C (upd H7 p9 (.tup [.str "fun", v2, v3, v5, v7, .int (atP L ts : Int)])) r L ts7 := R7.same (Same.new hp9)
        have t9 : Tp (upd H7 p9 (.tup [.str "fun", v2, v3, v5, v7, .int (atP L ts : Int)])) (.ref p9) (.tuple _) := .tup upd_same (TpAll.keep (Keep.new hp9) (.cons (.str _) (.cons (((((tv2.keep (R2.keep s3)).keep (R3.keep hs4)).keep (R4.keep s5)).keep (R5.keep hs6)).keep (R6.keep s7)) (.cons ((((tv3.keep (R3.keep hs4)).keep (R4.keep s5)).keep (R5.keep hs6)).keep (R6.keep s7)) (.cons ((tv5.keep (R5.keep hs6)).keep (R6.keep s7)) (.cons tv7 (.cons (.int _) .nil)))))))
        generalize upd H7 p9 (.tup [.str "fun", v2, v3, v5, v7, .int (atP L ts : Int)]) = HZ at *
        unfold pSemi at ho
        walk_at "rp"
        refine ⟨r, L, ts7, _, _, rfl, by decide, R9, fun hz H10 hs10 R10 => ?_, fun hz => (k.err _ (b_expF hz ho)).mono s9⟩
        have ho := b_expT hz ho
        walk_at "rp"
        exact k.ok _ _ (b_ret ho) _ _ (s9.trans hs10) R10 (tl_lt_le hz (Nat.le_trans hl7 (Nat.le_trans tl_le (Nat.le_trans hl5 (Nat.le_trans tl_le l3))))) (t9.keep (R9.keep hs10))
      · have ho := b_pure (b_accF2 h4 ho)
        walk_at "rp"
        refine ⟨r, L, _, _, _, rfl, by decide, R3, fun h6 H6 hs6 R6 => ?_, fun h6 => (k.err _ (b_expF h6 ho)).mono S3⟩
        have ho := b_expT h6 ho
        walk_at "rp"
        refine ⟨r, L, 23, _, rfl, by omega, by omega, R6, r_sub ho k.err (S3.trans hs6) fun a7 ts7 v7 H7 ho s7 R7 hl7 tv7 => ?_⟩
        walk_at "rp"
        intro p9 hp9
        walk_at "rp"
        have s9 := ((S3.trans hs6).trans s7).new (o := .tup [.str "fun", v2, v3, .non, v7, .int (atP L ts : Int)]) hp9
        have R9 : Rdr C (upd H7 p9 (.tup [.str "fun", v2, v3, .non, v7, .int (atP L ts : Int)])) r L ts7 := R7.same (Same.new hp9)
        have t9 : Tp (upd H7 p9 (.tup [.str "fun", v2, v3, .non, v7, .int (atP L ts : Int)])) (.ref p9) (.tuple _) := .tup upd_same (TpAll.keep (Keep.new hp9) (.cons (.str _) (.cons (((tv2.keep (R2.keep s3)).keep (R3.keep hs6)).keep (R6.keep s7)) (.cons ((tv3.keep (R3.keep hs6)).keep (R6.keep s7)) (.cons .non (.cons tv7 (.cons (.int _) .nil)))))))
        generalize upd H7 p9 (.tup [.str "fun", v2, v3, .non, v7, .int (atP L ts : Int)]) = HZ at *
        unfold pSemi at ho
        walk_at "rp"
        refine ⟨r, L, ts7, _, _, rfl, by decide, R9, fun hz H10 hs10 R10 => ?_, fun hz => (k.err _ (b_expF hz ho)).mono s9⟩
        have ho := b_expT hz ho
        walk_at "rp"
        exact k.ok _ _ (b_ret ho) _ _ (s9.trans hs10) R10 (tl_lt_le hz (Nat.le_trans hl7 (Nat.le_trans tl_le l3))) (t9.keep (R9.keep hs10))
    have ho := b_accF h1 ho
    walk_at "rp"
    refine ⟨r, L, _, _, _, rfl, by decide, R, fun h6 H6 hs6 R6 => ?_, fun h6 => (k.err _ (b_expF h6 ho))⟩
    have ho := b_expT h6 ho
    walk_at "rp"
    refine ⟨r, L, 23, _, rfl, by omega, by omega, R6, r_sub ho k.err hs6 fun a7 ts7 v7 H7 ho s7 R7 hl7 tv7 => ?_⟩
    walk_at "rp"
    refine ⟨r, L, ts7, _, _, rfl, by decide, R7, fun h4 H4 hs4 R4 => ?_, fun h4 => ?_⟩
    · have ho := b_accT2 h4 ho
      walk_at "rp"
      refine ⟨r, L, _, rfl, R4, r_sub ho k.err ((hs6.trans s7).trans hs4) fun a5 ts5 v5 H5 ho s5 R5 hl5 tv5 => ?_⟩
      walk_at "rp"
      intro p9 hp9
      walk_at "rp"
      have s9 := (((hs6.trans s7).trans hs4).trans s5).new (o := .tup [.str "show", v7, v5, .int (atP L ts : Int)]) hp9
      have R9 : Rdr C (upd H5 p9 (.tup [.str "show", v7, v5, .int (atP L ts : Int)])) r L ts5 := R5.same (Same.new hp9)
      have t9 : Tp (upd H5 p9 (.tup [.str "show", v7, v5, .int (atP L ts : Int)])) (.ref p9) (.tuple _) := .tup upd_same (TpAll.keep (Keep.new hp9) (.cons (.str _) (.cons ((tv7.keep (R7.keep hs4)).keep (R4.keep s5)) (.cons tv5 (.cons (.int _) .nil)))))
      generalize upd H5 p9 (.tup [.str "show", v7, v5, .int (atP L ts : Int)]) = HZ at *
      unfold pSemi at ho
      walk_at "rp"
      refine ⟨r, L, ts5, _, _, rfl, by decide, R9, fun hz H10 hs10 R10 => ?_, fun hz => (k.err _ (b_expF hz ho)).mono s9⟩
      have ho := b_expT hz ho
      walk_at "rp"
      exact k.ok _ _ (b_ret ho) _ _ (s9.trans hs10) R10 (tl_lt_le hz (Nat.le_trans hl5 (Nat.le_trans tl_le (Nat.le_trans hl7 tl_le)))) (t9.keep (R9.keep hs10))
    · have ho := b_pure (b_accF2 h4 ho)
      walk_at "rp"
      intro p9 hp9
      walk_at "rp"
      have s9 := (hs6.trans s7).new (o := .tup [.str "show", v7, .non, .int (atP L ts : Int)]) hp9
      have R9 : Rdr C (upd H7 p9 (.tup [.str "show", v7, .non, .int (atP L ts : Int)])) r L ts7 := R7.same (Same.new hp9)
      have t9 : Tp (upd H7 p9 (.tup [.str "show", v7, .non, .int (atP L ts : Int)])) (.ref p9) (.tuple _) := .tup upd_same (TpAll.keep (Keep.new hp9) (.cons (.str _) (.cons tv7 (.cons .non (.cons (.int _) .nil)))))
      generalize upd H7 p9 (.tup [.str "show", v7, .non, .int (atP L ts : Int)]) = HZ at *
      unfold pSemi at ho
      walk_at "rp"
      refine ⟨r, L, ts7, _, _, rfl, by decide, R9, fun hz H10 hs10 R10 => ?_, fun hz => (k.err _ (b_expF hz ho)).mono s9⟩
      have ho := b_expT hz ho
      walk_at "rp"
      exact k.ok _ _ (b_ret ho) _ _ (s9.trans hs10) R10 (tl_lt_le hz (Nat.le_trans hl7 tl_le)) (t9.keep (R9.keep hs10))
end
end Al
namespace Al
open PySem PySem.Spec PyProof.Rows L2 NdefX PySem.W
local macro_rules | `(tactic| walk_at "rd1") => `(tactic| with_reducible first
  | (show tVar _ _ _ _; refine r_var (by with_unfolding_all rfl) ?_) | refine r_c ?_ | refine r_op ?_ | refine r_I0 ?_ | refine r_un ?_ | refine r_U ?_
  | (show rI _ _ _ _ _ _; refine r_I (by with_unfolding_all first | exact ⟨by decide, by decide⟩ | (show (0 : Int) < _; decide)) ?_)
  | refine r_eqI ?_ | refine r_neI ?_ | refine r_eqS ?_ | refine r_neS ?_ | refine r_eqB ?_ | refine r_neB ?_ | refine r_chain ?_
  | refine r_test ?_ | refine r_B ?_ | refine r_bl ?_ | refine r_int ?_ | refine r_and ?_ | refine r_or ?_ | refine r_not ?_ | refine r_andV ?_ | refine r_orV ?_ | refine r_notV ?_
  | refine r_if ?_ | refine r_nil ?_ | refine r_cons ?_ | refine r_cb ?_ | refine r_call ?_ | refine r_callS ?_ | refine r_tup ?_ | refine r_lst ?_ | refine r_seq ?_ | refine r_next ?_ | refine r_asg ?_
  | refine r_name ?_ | refine r_ifS ?_ | refine r_ret ?_ | refine r_retN ?_ | refine r_drop ?_ | refine r_brk ?_ | refine r_ct ?_ | refine r_sl ?_ | refine r_part ?_ | refine r_nopart ?_
  | refine r_bm ?_ | refine r_bm0 ?_ | refine r_raiseX ?_ | refine r_mkO ?_ | refine iteF ?_ | refine iteT ?_ | refine r_int1 ?_ | refine r_int1b ?_ | (show _ ≤ sizeLine ∧ _; refine r_sz (by with_unfolding_all first | omega | (simp only [List.length_cons, List.length_nil]; omega)) ?_)
  | (show ∃ _, _; refine ⟨_, rfl, ?_⟩) | (show ∃ _, _; refine ⟨_, _, rfl, rfl, ?_⟩) | (show ∃ _, _; refine ⟨_, _, rfl, ?_⟩))
local macro_rules | `(tactic| walk_at "rd") => `(tactic| repeat (walk_at "rd1"))
local macro_rules | `(tactic| walk_at "rd2") => `(tactic| with_reducible first
  | (show tFld _ _ _ _ _ _; refine r_fldI (by with_unfolding_all rfl) (by with_unfolding_all assumption) (by with_unfolding_all assumption) (by with_unfolding_all assumption) (by with_unfolding_all rfl) ?_)
  | (show tMetS _ _ _ _ _ _ _ _ _; refine r_rm (by with_unfolding_all assumption) (by with_unfolding_all rfl) (by decide) ?_)
  | refine r_sfl ?_ | refine iteNF ?_ | refine iteNT ?_ | refine r_makS ?_)
local macro_rules | `(tactic| walk_at "rp") => `(tactic| repeat first | walk_at "rd1" | walk_at "rd2")

section
variable {P : Program} {w : World} {K : Frag} {mg : Str → Option Value} {base : Heap} {C DM DO : Addr}
/-! ### the levels -/
structure Stage (P : Program) (w : World) (K : Frag) (mg : Str → Option Value) (base : Heap) (C DM DO : Addr) (N k : Nat) : Prop where
  expr : Cal P w K mg base k "read_expression" ["reader", "level"] (spRN C DM DO pExpr N)
  prim : Cal P w K mg base k "read_primary" ["reader", "level"] (spRN C DM DO pPrim N)
  plain : Cal P w K mg base k "read_plain" ["reader", "level"] (spRN C DM DO pPlain N)
theorem cal_none {x : Str} {st : Stmt} {NN ps : List Str} {g : Nat → Nat → Pr PyData} {k : Nat} (dx : DefAt K mg x st) (S : FnScope NN ps (defScope st))
    (hb : ∀ (kV doc pm : Value) (an : Option Addr) (cdv ct : Value) (us : List Value), us.length = ps.length → bindArgs (fnOf x x (defArgs st) (defBody st) (defScope st) .none kV doc pm an cdv ct) ⟨us, []⟩ = pure (ps.zip us)) :
    Cal P w K mg base (k + 1) x ps (spRN C DM DO g 0) := by
  refine cal_mk dx S hb (fun vs H Q E h => ?_) (fun f cdv A outer s H vs Q E hr h => ?_)
  · obtain ⟨r, L, n, ts, _, h, _⟩ := h
    omega
  · obtain ⟨r, L, n, ts, _, h, _⟩ := h
    omega
structure ParDefs (K : Frag) (mg : Str → Option Value) : Prop where
  d1 : DefAt K mg "read_power" s_read_power
  d2 : DefAt K mg "read_product" s_read_product
  d3 : DefAt K mg "read_call" s_read_call
  d4 : DefAt K mg "read_primary" s_read_primary
  d5 : DefAt K mg "read_powers" s_read_powers
  d6 : DefAt K mg "read_factors" s_read_factors
  d7 : DefAt K mg "read_terms" s_read_terms
  d8 : DefAt K mg "read_plain" s_read_plain
  d9 : DefAt K mg "read_both" s_read_both
  d10 : DefAt K mg "read_expression" s_read_expression
  d11 : DefAt K mg "read_parameters" s_read_parameters
  d12 : DefAt K mg "read_line" s_read_line
theorem stages (D : ParDefs K mg) (B : Bl mg) (PL : ParC K w mg) (M : RdM P w K mg base C DM DO) : ∀ N, N ≤ 25 → Stage P w K mg base C DM DO N (10 + 8 * N)
  | 0, _ => ⟨cal_none D.d10 sc_read_expression (fun _ _ _ _ _ _ us hl => match us, hl with | [_, _], _ => rfl), cal_none D.d4 sc_read_primary (fun _ _ _ _ _ _ us hl => match us, hl with | [_, _], _ => rfl), cal_none D.d8 sc_read_plain (fun _ _ _ _ _ _ us hl => match us, hl with | [_, _], _ => rfl)⟩
  | N + 1, hN => by
    have S := stages D B PL M N (by omega)
    have hk : 10 ≤ 10 + 8 * N := by omega
    have gp := cal_read_power D.d1 B PL M
    have gpr := cal_read_product D.d2 B PL M gp
    have c1 := cal_read_call D.d3 B PL M hk hN S.expr
    have c2 := cal_read_primary D.d4 B PL M (k := 10 + 8 * N + 1) (by omega) hN (S.expr.mono (by omega)) (S.prim.mono (by omega)) c1 gpr
    have c3 := cal_read_powers D.d5 B PL M (k := 10 + 8 * N + 1) (by omega) hN c2 gp
    have c4 := cal_read_factors D.d6 B PL M (k := 10 + 8 * N + 1) (by omega) hN c3
    have c5 := cal_read_terms D.d7 B PL M (k := 10 + 8 * N + 1) (by omega) hN c4
    have c6 := cal_read_plain D.d8 B PL M (k := 10 + 8 * N + 1) (by omega) hN (S.plain.mono (by omega)) c5
    have c7 := cal_read_both D.d9 B PL M (k := 10 + 8 * N + 1) (by omega) hN c6
    have c8 := cal_read_expression D.d10 B PL M (k := 10 + 8 * N + 1) (by omega) hN (S.expr.mono (by omega)) c7
    exact ⟨c8.mono (by omega), c2.mono (by omega), c6.mono (by omega)⟩
theorem cal_line (D : ParDefs K mg) (B : Bl mg) (PL : ParC K w mg) (M : RdM P w K mg base C DM DO) : Cal P w K mg base 203 "read_line" ["reader"] (spLine C DM DO pLine) := by
  have gp := cal_read_power D.d1 B PL M
  have gpr := cal_read_product D.d2 B PL M gp
  have gps := cal_read_parameters D.d11 B PL M gpr
  exact cal_read_line D.d12 B PL M (k := 202) (by omega) (stages D B PL M 24 (by omega)).expr gpr gps
end
end Al
namespace Al
open PySem PySem.Spec PyProof.Rows L2 NdefX PySem.W
local macro_rules | `(tactic| walk_at "rd1") => `(tactic| with_reducible first
  | (show tVar _ _ _ _; refine r_var (by with_unfolding_all rfl) ?_) | refine r_c ?_ | refine r_op ?_ | refine r_I0 ?_ | refine r_un ?_ | refine r_U ?_
  | (show rI _ _ _ _ _ _; refine r_I (by with_unfolding_all first | exact ⟨by decide, by decide⟩ | (show (0 : Int) < _; decide)) ?_)
  | refine r_eqI ?_ | refine r_neI ?_ | refine r_eqS ?_ | refine r_neS ?_ | refine r_eqB ?_ | refine r_neB ?_ | refine r_chain ?_
  | refine r_test ?_ | refine r_B ?_ | refine r_bl ?_ | refine r_int ?_ | refine r_and ?_ | refine r_or ?_ | refine r_not ?_ | refine r_andV ?_ | refine r_orV ?_ | refine r_notV ?_
  | refine r_if ?_ | refine r_nil ?_ | refine r_cons ?_ | refine r_cb ?_ | refine r_call ?_ | refine r_callS ?_ | refine r_tup ?_ | refine r_lst ?_ | refine r_seq ?_ | refine r_next ?_ | refine r_asg ?_
  | refine r_name ?_ | refine r_ifS ?_ | refine r_ret ?_ | refine r_retN ?_ | refine r_drop ?_ | refine r_brk ?_ | refine r_ct ?_ | refine r_sl ?_ | refine r_part ?_ | refine r_nopart ?_
  | refine r_bm ?_ | refine r_bm0 ?_ | refine r_raiseX ?_ | refine r_mkO ?_ | refine iteF ?_ | refine iteT ?_ | refine r_int1 ?_ | refine r_int1b ?_ | (show _ ≤ sizeLine ∧ _; refine r_sz (by with_unfolding_all first | omega | (simp only [List.length_cons, List.length_nil]; omega)) ?_)
  | (show ∃ _, _; refine ⟨_, rfl, ?_⟩) | (show ∃ _, _; refine ⟨_, _, rfl, rfl, ?_⟩) | (show ∃ _, _; refine ⟨_, _, rfl, ?_⟩))
local macro_rules | `(tactic| walk_at "rd") => `(tactic| repeat (walk_at "rd1"))
local macro_rules | `(tactic| walk_at "rd2") => `(tactic| with_reducible first
  | (show tFld _ _ _ _ _ _; refine r_fldI (by with_unfolding_all rfl) (by with_unfolding_all assumption) (by with_unfolding_all assumption) (by with_unfolding_all assumption) (by with_unfolding_all rfl) ?_)
  | (show tMetS _ _ _ _ _ _ _ _ _; refine r_rm (by with_unfolding_all assumption) (by with_unfolding_all rfl) (by decide) ?_)
  | refine r_sfl ?_ | refine iteNF ?_ | refine iteNT ?_ | refine r_makS ?_)
local macro_rules | `(tactic| walk_at "rp") => `(tactic| repeat first | walk_at "rd1" | walk_at "rd2")

theorem tok1_pos {s : List Nat} {t : Tk} {k : Nat} (h : tok1 s = some (t, k)) : 0 < k := by
  cases s with
  | nil => cases h
  | cons c s => exact (tok1_len h).1
theorem lex_len {i : Nat} {s : List Nat} {ts : List (Tk × Nat)} {e : Option Nat} (h : Lex i s ts e) : ts.length ≤ s.length := by
  induction h with
  | nil => exact Nat.le_refl _
  | sp _ _ ih => rw [List.length_cons]; omega
  | com _ ih => rw [List.length_drop] at ih; rw [List.length_cons]; omega
  | tok _ _ h1 _ ih =>
    have := tok1_pos h1
    rw [List.length_drop, List.length_cons] at ih
    rw [List.length_cons, List.length_cons]; omega
  | bad _ _ _ => exact Nat.zero_le _
theorem lex_at {i : Nat} {s : List Nat} {ts : List (Tk × Nat)} {e : Option Nat} (h : Lex i s ts e) : ∀ t ∈ ts, t.2 ≤ i + s.length := by
  induction h with
  | nil => intro t ht; cases ht
  | sp _ _ ih => intro t ht; have := ih t ht; rw [List.length_cons]; omega
  | @com i s ts e _ ih =>
    intro t ht
    have := ih t ht
    have h1 : (s.takeWhile notNl).length ≤ s.length := (List.takeWhile_sublist _).length_le
    rw [List.length_drop] at this
    rw [List.length_cons]; omega
  | @tok i c k s t ts e _ _ _ hr ih =>
    intro u hu
    rcases List.mem_cons.mp hu with rfl | hu
    · exact Nat.le_add_right _ _
    · have := ih u hu
      have h2 := lex_len hr
      have h3 : 0 < ts.length := List.length_pos_of_mem hu
      rw [List.length_drop] at this h2
      omega
  | bad _ _ _ => intro t ht; cases ht
section
variable (C DM DO : Addr)
def spInit : Sp := fun vs H Q E => ∃ (x dx : Addr) (z : Str), vs = [.ref x, .str z] ∧ H x = some (.ins C dx []) ∧ z.length ≤ 20000 ∧
  ((12000 < z.length ∧ ∀ d H', RSame x H H' → H' d = some (.xd [("limit", .str "text")]) → E (.ref DO) (some d) H') ∨
    ∃ ts e, z.length ≤ 12000 ∧ Lex 0 (lS z) ts e ∧ match e with
    | none => ∀ H', (∀ b o, b ≠ x → H b = some o → H' b = some o) → Rdr C H' x z.length ts → Q .non H'
    | some i => ∀ d H', RSame x H H' → H' d = some (.xd [("at", .int (i : Int))]) → E (.ref DM) (some d) H')
end
section
variable {P : Program} {w : World} {K : Frag} {mg : Str → Option Value} {base : Heap} {C DM DO : Addr}
abbrev s_Reader___init__ : Stmt := inClass (top 25) 0
theorem sc_Reader___init__ : FnScope ["self", "text"] ["self", "text"] (defScope s_Reader___init__) := ⟨rfl, rfl, rfl, by decide +kernel, rfl, by decide +kernel, by decide +kernel⟩
theorem mak_Reader (dx : MakAt K mg "Reader" "Reader.__init__" C s_Reader___init__) (B : Bl mg) (RK : RC K C) (G_tokens : Cal P w K mg base 5 "tokens" ["text"] (spTokens DM DO)) : MakX P w K mg base 6 "Reader" C ["self", "text"] (spInit C DM DO) := by
  refine mak_mk dx sc_Reader___init__ (fun _ _ _ _ _ _ us hl => match us, hl with | [_, _], _ => rfl) (fun vs H Q E h => ?_) (fun f cdv A outer s H vs Q E hr h => ?_)
  · obtain ⟨x, dx, z, rfl, _⟩ := h
    rfl
  · obtain ⟨x, dx, z, rfl, hx, hz, k⟩ := h
    have tk : L2N.Takes (cxOf (L2N.CX P w) P w K mg base ["self", "text"] "Reader.__init__" (defScope s_Reader___init__) f cdv A outer s H E) (fun cls d _ H => E cls d H) := L2N.takes_of rfl rfl rfl rfl
    have hcl := RK.cls
    have hn1 := RK.na "rest" (by decide)
    have hn2 := RK.na "place" (by decide)
    have hn3 := RK.na "limit" (by decide)
    refine ⟨_, (pss_cons (ps_fld (pv 0) (pe_cal G_tokens (hr.mono (by first | decide | omega)) tk (pa_cons (pv 1) pa_nil)) rfl)
      (pss_cons (ps_fld (pv 0) pe_int rfl)
      (pss_one (ps_fld (pv 0) (pe_callB call_len_str (by rfl) B.len PySem.boot_len (pa_cons (pv 1) pa_nil)) rfl)))), ?_⟩
    walk_at "rp"
    rcases k with ⟨hl, kO⟩ | ⟨ts, e, hl, hlex, k⟩
    · exact ⟨z, rfl, hz, .inl ⟨hl, fun d H' hs hx => kO d H' (RSame.same hs) hx⟩⟩
    · refine ⟨z, rfl, hz, .inr ⟨ts, e, hl, hlex, ?_⟩⟩
      cases e with
      | some i => exact fun d H' hs hx => k d H' (RSame.same hs) hx
      | none =>
        intro p vs H1 hs1 hp hpl htp
        have hx1 := hs1 _ _ hx
        have hpx : p ≠ x := fun e => by rw [e, hx] at hp; cases hp
        walk_at "rp"
        refine ⟨x, C, dx, [], rfl, hx1, hcl, hn1, by simp, ?_⟩
        have h2 : upd H1 x (.ins C dx (putF "rest" (.ref p) [])) x = some (.ins C dx [("rest", .ref p)]) := upd_same
        generalize hH2 : upd H1 x (.ins C dx (putF "rest" (.ref p) [])) = H2 at *
        walk_at "rp"
        refine ⟨x, C, dx, _, rfl, h2, hcl, hn2, by simp, ?_⟩
        have h3 : upd H2 x (.ins C dx (putF "place" (.int 0) [("rest", .ref p)])) x = some (.ins C dx [("rest", .ref p), ("place", .int 0)]) := upd_same
        generalize hH3 : upd H2 x (.ins C dx (putF "place" (.int 0) [("rest", .ref p)])) = H3 at *
        walk_at "rp"
        refine ⟨x, C, dx, _, rfl, h3, hcl, hn3, by simp, ?_⟩
        have h4 : upd H3 x (.ins C dx (putF "limit" (.int (z.length : Int)) [("rest", .ref p), ("place", .int 0)])) x = some (.ins C dx (rfs p 0 z.length)) := upd_same
        have fr : ∀ b o, b ≠ x → H1 b = some o → upd H3 x (.ins C dx (putF "limit" (.int (z.length : Int)) [("rest", .ref p), ("place", .int 0)])) b = some o := fun b o hb h => by
          rw [upd_ne hb, ← hH3, upd_ne hb, ← hH2, upd_ne hb]; exact h
        refine k _ (fun b o hb h => fr b o hb (hs1 b o h)) ⟨ts, dx, p, 0, vs, rfl, Nat.zero_le _, h4, fr _ _ hpx hpl, htp.keep fun a xs ha => fr a _ (fun e => by rw [e, hx1] at ha; cases ha) ha, ?_, ?_, by omega⟩
        · have := lex_len hlex
          have e1 : (lS z).length = z.length := Array.length_toList
          omega
        · intro t ht
          have := lex_at hlex t ht
          have e1 : (lS z).length = z.length := Array.length_toList
          omega
abbrev s_parse : Stmt := top 38
theorem sc_parse : FnScope ["text", "reader", "lines"] ["text"] (defScope s_parse) := ⟨rfl, rfl, rfl, by decide +kernel, rfl, by decide +kernel, by decide +kernel⟩
def FinS (DM DO : Addr) (H0 : Hp) (E : XK) (e : PErr) : Prop := match e with
  | .mal i => ∀ d H', Same H0 H' → H' d = some (.xd [("at", .int (i : Int))]) → E (.ref DM) (some d) H'
  | .over => ∀ d H', Same H0 H' → H' d = some (.xd [("limit", .str "depth")]) → E (.ref DO) (some d) H'
def spParse (DM DO : Addr) : Sp := fun vs H Q E => ∃ (z : Str), vs = [.str z] ∧ z.length ≤ 20000 ∧
  ((12000 < z.length ∧ ∀ d H', Same H H' → H' d = some (.xd [("limit", .str "text")]) → E (.ref DO) (some d) H') ∨
    ∃ ts e, z.length ≤ 12000 ∧ Lex 0 (lS z) ts e ∧ match e with
    | none => ∃ o, pLines z.length [] ts = some o ∧ (∀ e, o = .error e → FinS DM DO H E e) ∧ ∀ ds ts', o = .ok (ds, ts') → ∀ p vs H', Same H H' → H p = none → H' p = some (.lst vs) → TpAll H' vs ds → Q (.ref p) H'
    | some i => ∀ d H', Same H H' → H' d = some (.xd [("at", .int (i : Int))]) → E (.ref DM) (some d) H')
theorem cal_parse (dx : DefAt K mg "parse" s_parse) (B : Bl mg) (RK : RC K C) (K_Reader : MakX P w K mg base 6 "Reader" C ["self", "text"] (spInit C DM DO)) (G_read_line : Cal P w K mg base 203 "read_line" ["reader"] (spLine C DM DO pLine)) : Cal P w K mg base 204 "parse" ["text"] (spParse DM DO) := by
  refine cal_mk dx sc_parse (fun _ _ _ _ _ _ us hl => match us, hl with | [_], _ => rfl) (fun vs H Q E h => ?_) (fun f cdv A outer s H vs Q E hr h => ?_)
  · obtain ⟨z, rfl, _⟩ := h
    rfl
  · obtain ⟨z, rfl, hz, k⟩ := h
    have tk : L2N.Takes (cxOf (L2N.CX P w) P w K mg base ["text", "reader", "lines"] "parse" (defScope s_parse) f cdv A outer s H E) (fun cls d _ H => E cls d H) := L2N.takes_of rfl rfl rfl rfl
    have hcl := RK.cls
    have hn1 := RK.na "rest" (by decide)
    have hn2 := RK.na "place" (by decide)
    have hn3 := RK.na "limit" (by decide)
    refine ⟨_, (pss_cons (ps_set (i := 1) sc_parse.nd rfl (Or.inl rfl) (pe_makX K_Reader (hr.mono (by first | decide | omega)) tk (pa_cons (pv 0) pa_nil)))
      (pss_cons (ps_set (i := 2) sc_parse.nd rfl (Or.inl rfl) (pe_lst pa_nil))
      (pss_cons (ps_while (passes_of rfl) (pt_cmpR op_lt (pe_fld (pv 1) rfl) (pe_callB call_len_seq (by rfl) B.len PySem.boot_len (pa_cons (pe_fld (pv 1) rfl) pa_nil)) (nomark _))
      (pss_one (ps_expr (pe_bm PySem.F.plainAttrs_list PySem.F.slot_list_append PySem.F.type_list_append mt_append (pv 2) (pa_cons (pe_cal G_read_line (hr.mono (by first | decide | omega)) tk (pa_cons (pv 1) pa_nil)) pa_nil)))))
      (pss_one (ps_ret (pv 2)))))), ?_⟩
    walk_at "rp"
    intro x dx hx hdx hne
    have sm : ∀ H', (∀ b o, b ≠ x → upd (upd H dx (.own x)) x (.ins C dx []) b = some o → H' b = some o) → Same H H' := fun H' h b o hb => by
      have h1 : b ≠ x := ne_of_none hb hx
      exact h b o h1 ((upd_ne h1).trans ((upd_ne (ne_of_none hb hdx)).trans hb))
    refine ⟨x, dx, z, rfl, upd_same, hz, ?_⟩
    rcases k with ⟨hl, kO⟩ | ⟨ts, e, hl, hlex, k⟩
    · exact .inl ⟨hl, fun d H' hs hx => kO d H' (sm H' hs.get) hx⟩
    · refine .inr ⟨ts, e, hl, hlex, ?_⟩
      cases e with
      | some i => exact fun d H' hs hx => k d H' (sm H' hs.get) hx
      | none =>
        obtain ⟨o, ho, kE, kk⟩ := k
        intro H1 hs1 R1
        have sm1 := sm H1 hs1
        have smR : ∀ H', RSame x H1 H' → Same H H' := fun H' h b o hb => h.get b o (ne_of_none hb hx) (sm1 b o hb)
        refine ⟨rfl, ?_⟩
        walk_at "rp"
        intro q hq
        have hqx : q ≠ x := by
          obtain ⟨dx, fs, hi⟩ := R1.ins
          exact (RSame.fresh RSame.refl hi hq).2
        have hHq : H q = none := by
          cases e : H q with
          | none => rfl
          | some u => rw [sm1 _ _ e] at hq; cases hq
        have hlen := R1.len
        walk_at "rp"
        refine ⟨fun m σ' H' => ∃ (acc : List PyData) (us : List V) (ts' : TS1), σ' = [some (.str z), some (.ref x), some (.ref q)] ∧ RSame x H1 H' ∧ Rdr C H' x z.length ts' ∧ H' q = some (.lst us) ∧ TpAll H' us acc ∧ pLines z.length acc ts' = some o ∧ us.length + ts'.length ≤ 20000 ∧ m = ts'.length, ⟨_, [], [], ts, rfl, RSame.refl.new hq, R1.same (Same.new hq), upd_same, .nil, ho, by simp only [List.length_nil]; omega, rfl⟩, ?_⟩
        rintro m σ' H2 ⟨acc, us, ts2, rfl, hs2, R2, hq2, hus, hp, hlen2, rfl⟩
        have R2' := R2
        obtain ⟨T, dx2, l, p, vs, rfl, hp2, hr2, hl2, hT, hb1, hb2, hb3⟩ := R2'.ex
        rw [pLines.eq_def] at hp
        walk_at "rp"
        refine ⟨l, vs, rfl, .inl (SqL.of hl2), ?_⟩
        walk_at "rp"
        have hlv : vs.length = T.length := by rw [hT.len, List.length_map]
        rw [hlv]
        refine r_ite (fun h3 => ?_) (fun h3 => ?_)
        · have h3 : p < T.length := by have := of_decide_eq_true h3; omega
          refine ⟨fun σ' H' => ∃ m', m' < (T.drop p).length ∧ ∃ (acc : List PyData) (us : List V) (ts' : TS1), σ' = [some (.str z), some (.ref x), some (.ref q)] ∧ RSame x H1 H' ∧ Rdr C H' x z.length ts' ∧ H' q = some (.lst us) ∧ TpAll H' us acc ∧ pLines z.length acc ts' = some o ∧ us.length + ts'.length ≤ 20000 ∧ m' = ts'.length, fun _ _ h => h, ?_⟩
          walk_at "rp"
          refine ⟨.inl ⟨rfl, _, SqL.of hq2⟩, ?_⟩
          walk_at "rp"
          have hne2 : (T.drop p).isEmpty = false := by
            rw [List.drop_eq_getElem_cons h3] <;> rfl
          have hp : (pLine z.length >>= fun l => pLines z.length (acc ++ [l])) (T.drop p) = some o := by
            rw [bind_run] at hp
            have e1 : pEnd (T.drop p) = (some (Except.ok (false, T.drop p)) : Option (Except PErr (Bool × TS1))) := by
              show (some (Except.ok ((T.drop p).isEmpty, T.drop p)) : Option (Except PErr (Bool × TS1))) = _
              rw [hne2]
            rw [e1] at hp
            exact hp
          obtain ⟨o2, g1, g2, g3⟩ := b_bind hp
          refine ⟨x, z.length, _, rfl, R2, o2, g1, fun e he => ?_, fun a ts4 he v4 H4 s4 R4 hl4 tv4 => ?_⟩
          · have := kE e (g2 e he)
            cases e with
            | mal i => exact fun d H' hs hx => this d H' (smR _ (hs2.trans hs)) hx
            | over => exact fun d H' hs hx => this d H' (smR _ (hs2.trans hs)) hx
          have hp := g3 _ _ he
          have hq4 := s4.get _ _ hqx hq2
          have kq := Keep.mut (o := .lst (us ++ [v4])) hq4 fun xs z => nomatch z
          walk_at "rp"
          refine ⟨q, us, v4, rfl, rfl, hq4, by rw [sizeLine_eq]; omega, ?_⟩
          walk_at "rp"
          refine ⟨_, hl4, _, _, ts4, rfl, (hs2.trans s4).mut hq hqx, Rdr.mut R1 hq (hs2.trans s4) R4 hq4, upd_same, ((hus.keep (R2.keep s4)).keep kq).app (.cons (tv4.keep kq) .nil), hp, ?_, rfl⟩
          rw [List.length_append]; simp only [List.length_cons, List.length_nil]; omega
        · have h3 : ¬ p < T.length := by have := of_decide_eq_false h3; omega
          rw [drop_all h3] at hp
          walk_at "rp"
          exact kk _ _ (Option.some.inj (show some (.ok (acc, [])) = some o from hp)).symm _ _ _ (smR _ hs2) hHq hq2 hus
end
end Al
namespace Al
open PySem PySem.Spec PyProof.Rows L2 NdefX PySem.W
/-! ### the parser's steps as equations -/
section
variable {α β : Type} {ts ts' : TS1} {L : Nat} {k v : Str} {A B : Pr β}
theorem e_accT (e : seesB ts k v = true) : (pAcc k v >>= fun b => if b = true then A else B) ts = A ts.tail := by
  rw [bind_run]
  unfold pAcc
  rw [if_pos e]
  rfl
theorem e_accF (e : seesB ts k v = false) : (pAcc k v >>= fun b => if b = true then A else B) ts = B ts := by
  rw [bind_run]
  unfold pAcc
  rw [if_neg (by rw [e]; decide)]
  rfl
theorem e_seesT (e : seesB ts k v = true) : (pSees k v >>= fun b => if b = true then A else B) ts = A ts := by
  rw [bind_run]
  unfold pSees
  rw [e]
  rfl
theorem e_seesF (e : seesB ts k v = false) : (pSees k v >>= fun b => if b = true then A else B) ts = B ts := by
  rw [bind_run]
  unfold pSees
  rw [e]
  rfl
theorem e_kindT (e : kindB ts k = true) : (pKind k >>= fun b => if b = true then A else B) ts = A ts := by
  rw [bind_run]
  unfold pKind
  rw [e]
  rfl
theorem e_kindF (e : kindB ts k = false) : (pKind k >>= fun b => if b = true then A else B) ts = B ts := by
  rw [bind_run]
  unfold pKind
  rw [e]
  rfl
theorem e_at {f : Nat → Pr β} : (pAt L >>= f) ts = f (atP L ts) ts := by
  rw [bind_run]
  rfl
theorem e_exp {f : Unit → Pr β} (e : seesB ts k v = true) : (pExp L k v >>= f) ts = f () ts.tail := by
  rw [bind_run]
  unfold pExp
  rw [if_pos e]
theorem e_expF {f : Unit → Pr β} (e : seesB ts k v = false) : (pExp L k v >>= f) ts = some (.error (.mal (atP L ts))) := by
  rw [bind_run]
  unfold pExp
  rw [if_neg (by rw [e]; decide)]
theorem e_read {f : PyData → Pr β} (e : kindB ts k = true) : (pRead L k >>= f) ts = f (headV ts) ts.tail := by
  rw [bind_run]
  unfold pRead
  rw [if_pos e]
theorem e_readF {f : PyData → Pr β} (e : kindB ts k = false) : (pRead L k >>= f) ts = some (.error (.mal (atP L ts))) := by
  rw [bind_run]
  unfold pRead
  rw [if_neg (by rw [e]; decide)]
theorem e_deep {f : Nat → Pr β} {n : Nat} : (pDeep (n + 1) >>= f) ts = f n ts := by
  rw [bind_run]
  rfl
theorem e_deep0 {f : Nat → Pr β} : (pDeep 0 >>= f) ts = some (.error .over) := by
  rw [bind_run]
  rfl
theorem e_ok {g : Pr α} {f : α → Pr β} {a : α} (e : g ts = some (.ok (a, ts'))) : (g >>= f) ts = f a ts' := by
  rw [bind_run, e]
theorem e_err {g : Pr α} {f : α → Pr β} {x : PErr} (e : g ts = some (.error x)) : (g >>= f) ts = some (.error x) := by
  rw [bind_run, e]
theorem e_pure {f : α → Pr β} {a : α} : ((pure a : Pr α) >>= f) ts = f a ts := by
  rw [bind_run]
  rfl
theorem e_ret {a : α} : (pure a : Pr α) ts = some (.ok (a, ts)) := rfl
theorem e_accT2 {g : β → Pr α} (e : seesB ts k v = true) : ((pAcc k v >>= fun b => if b = true then A else B) >>= g) ts = (A >>= g) ts.tail := by
  rw [bind_run, e_accT e, bind_run]
theorem e_accF2 {g : β → Pr α} (e : seesB ts k v = false) : ((pAcc k v >>= fun b => if b = true then A else B) >>= g) ts = (B >>= g) ts := by
  rw [bind_run, e_accF e, bind_run]
end
end Al
namespace Al
open PySem PySem.Spec PyProof.Rows L2 NdefX PySem.W
/-! ### k02: chains in plain Lean -/
inductive Op2 where
  | or | and | lt | le | eq | add | sub | mul | div
  deriving DecidableEq
def Op2.txt : Op2 → Str
  | .or => "or" | .and => "and" | .lt => "<" | .le => "<=" | .eq => "==" | .add => "+" | .sub => "-" | .mul => "*" | .div => "/"
def Op2.head : Op2 → Str
  | .or => "or" | .and => "and" | .lt => "lt" | .le => "le" | .eq => "eq" | .add => "add" | .sub => "sub" | .mul => "mul" | .div => "div"
def Op2.tier : Op2 → Nat
  | .or => 0 | .and => 1 | .lt => 2 | .le => 2 | .eq => 2 | .add => 3 | .sub => 3 | .mul => 4 | .div => 4
def Op2.tk : Op2 → Tk
  | .or => .word "or" | .and => .word "and" | .lt => .sign "<" | .le => .sign "<=" | .eq => .sign "==" | .add => .sign "+" | .sub => .sign "-" | .mul => .sign "*" | .div => .sign "/"
inductive Opd where
  | x | num (n : Nat) | call | pow
def Opd.toks : Opd → Nat → TS1
  | .x, i => [(.name "x", i)]
  | .num n, i => [(.num n 1, i)]
  | .call, i => [(.name "f", i), (.sign "(", i + 1), (.name "y", i + 2), (.sign ")", i + 3)]
  | .pow, i => [(.name "x", i), (.sign "^", i + 1), (.num 2 1, i + 2), (.sign "^", i + 3), (.sign "-", i + 4), (.num 3 1, i + 5)]
def Opd.tree : Opd → Nat → PyData
  | .x, i => .tuple [.str "var", .str "x", .int (i : Int)]
  | .num n, i => .tuple [.str "number", .tuple [.int (n : Int), .int 1], .tuple [], .int (i : Int)]
  | .call, i => .tuple [.str "call", .str "f", .tuple [.tuple [.str "var", .str "y", .int ((i + 2 : Nat) : Int)]], .int (i : Int)]
  | .pow, i => .tuple [.str "power", .tuple [.str "power", .tuple [.str "var", .str "x", .int (i : Int)], .int 2, .int ((i + 1 : Nat) : Int)], .int (-3), .int ((i + 3 : Nat) : Int)]
structure Lk where
  op : Op2
  at_ : Nat
  q : Opd
  j : Nat
def toksC (o : Opd) (i : Nat) (ch : List Lk) : TS1 := o.toks i ++ ch.flatMap fun l => (l.op.tk, l.at_) :: l.q.toks l.j
structure Gr where
  l : Lk
  g : List Lk
def cut (w : Nat) : List Lk → List Lk × List Gr
  | [] => ([], [])
  | l :: r => if l.op.tier = w then ([], ⟨l, (cut w r).1⟩ :: (cut w r).2) else (l :: (cut w r).1, (cut w r).2)
def tr : Nat → Opd → Nat → List Lk → PyData
  | 0, o, i, _ => o.tree i
  | f + 1, o, i, ch => (cut (4 - f) ch).2.foldl (fun t r => .tuple [.str r.l.op.head, t, tr f r.l.q r.l.j r.g, .int (r.l.at_ : Int)]) (tr f o i (cut (4 - f) ch).1)
def cok : Bool → List Lk → Prop
  | _, [] => True
  | b, l :: r => if l.op.tier = 2 then b = false ∧ cok true r else if l.op.tier < 2 then cok false r else cok b r
def grToks (r : Gr) : TS1 := (r.l.op.tk, r.l.at_) :: toksC r.l.q r.l.j r.g
theorem cut_toks (w : Nat) (o : Opd) (i : Nat) : ∀ ch : List Lk, toksC o i ch = toksC o i (cut w ch).1 ++ (cut w ch).2.flatMap grToks
  | [] => by simp [toksC, cut]
  | l :: r => by
    have ih := cut_toks w l.q l.j r
    unfold cut
    by_cases h : l.op.tier = w
    · rw [if_pos h]
      simp only [toksC, List.flatMap_cons, List.flatMap_nil, List.append_nil, grToks] at ih ⊢
      rw [← List.append_assoc, ← List.append_assoc] at *
      simp only [List.append_assoc, List.cons_append] at ih ⊢
      rw [ih]
    · rw [if_neg h]
      simp only [toksC, List.flatMap_cons, List.append_assoc, List.cons_append] at ih ⊢
      rw [ih]
theorem cut_mem (w : Nat) : ∀ ch : List Lk, (∀ l ∈ (cut w ch).1, l ∈ ch ∧ l.op.tier ≠ w) ∧ ∀ r ∈ (cut w ch).2, r.l ∈ ch ∧ r.l.op.tier = w ∧ ∀ l ∈ r.g, l ∈ ch ∧ l.op.tier ≠ w
  | [] => ⟨(fun _ h => by cases h), (fun _ h => by cases h)⟩
  | l :: r => by
    obtain ⟨h1, h2⟩ := cut_mem w r
    unfold cut
    by_cases h : l.op.tier = w
    · rw [if_pos h]
      refine ⟨(fun _ h => by cases h), fun u hu => ?_⟩
      rcases List.mem_cons.mp hu with rfl | hu
      · exact ⟨List.mem_cons_self, h, fun x hx => ⟨List.mem_cons_of_mem _ (h1 x hx).1, (h1 x hx).2⟩⟩
      · exact ⟨List.mem_cons_of_mem _ (h2 u hu).1, (h2 u hu).2.1, fun x hx => ⟨List.mem_cons_of_mem _ ((h2 u hu).2.2 x hx).1, ((h2 u hu).2.2 x hx).2⟩⟩
    · rw [if_neg h]
      refine ⟨fun u hu => ?_, fun u hu => ⟨List.mem_cons_of_mem _ (h2 u hu).1, (h2 u hu).2.1, fun x hx => ⟨List.mem_cons_of_mem _ ((h2 u hu).2.2 x hx).1, ((h2 u hu).2.2 x hx).2⟩⟩⟩
      rcases List.mem_cons.mp hu with rfl | hu
      · exact ⟨List.mem_cons_self, h⟩
      · exact ⟨List.mem_cons_of_mem _ (h1 u hu).1, (h1 u hu).2⟩
/-- how many links: the first group's, and one and its own for each further group -/
theorem cut_len (w : Nat) : ∀ ch : List Lk, ch.length = (cut w ch).1.length + ((cut w ch).2.map fun r => 1 + r.g.length).sum
  | [] => rfl
  | l :: r => by
    have ih := cut_len w r
    unfold cut
    by_cases h : l.op.tier = w
    · rw [if_pos h]
      simp only [List.length_cons, List.length_nil, List.map_cons, List.sum_cons]
      omega
    · rw [if_neg h]
      simp only [List.length_cons]
      omega
/-- what stands behind a chain of tier f -/
def Stop (f : Nat) (rest : TS1) : Prop := ∃ t i r, rest = (t, i) :: r ∧ (t = .sign ";" ∨ ∃ p : Op2, t = p.tk ∧ p.tier < 5 - f)
theorem Stop.mono {f g : Nat} {rest : TS1} (h : Stop f rest) (hg : g ≤ f) : Stop g rest := by
  obtain ⟨t, i, r, e, h⟩ := h
  refine ⟨t, i, r, e, h.imp id ?_⟩
  rintro ⟨p, e, hp⟩
  exact ⟨p, e, by omega⟩
theorem sees_tk {t : Tk} {i : Nat} {r : TS1} {k v : Str} : seesB ((t, i) :: r) k v = (decide (t.kind = k) && decide (t.txt = v)) := rfl
theorem stop_no {f : Nat} {rest : TS1} {k v : Str} (h : Stop f rest) (hs : seesB [(.sign ";", 0)] k v = false) (hp : ∀ p : Op2, p.tier < 5 - f → seesB [(p.tk, 0)] k v = false) : seesB rest k v = false := by
  obtain ⟨t, i, r, rfl, h⟩ := h
  rcases h with rfl | ⟨p, rfl, h⟩
  · exact hs
  · exact hp p h
theorem all_ops {k v : Str} (h : (seesB [(Op2.tk .or, 0)] k v || seesB [(Op2.tk .and, 0)] k v || seesB [(Op2.tk .lt, 0)] k v || seesB [(Op2.tk .le, 0)] k v || seesB [(Op2.tk .eq, 0)] k v || seesB [(Op2.tk .add, 0)] k v || seesB [(Op2.tk .sub, 0)] k v || seesB [(Op2.tk .mul, 0)] k v || seesB [(Op2.tk .div, 0)] k v) = false) (p : Op2) : seesB [(p.tk, 0)] k v = false := by
  simp only [Bool.or_eq_false_iff] at h
  obtain ⟨⟨⟨⟨⟨⟨⟨⟨h1, h2⟩, h3⟩, h4⟩, h5⟩, h6⟩, h7⟩, h8⟩, h9⟩ := h
  cases p <;> assumption
section
variable {L n i : Nat} {rest : TS1}
theorem prim_x {z : Str} (hz : seesB rest "sign" "(" = false) : pPrim L n ((.name z, i) :: rest) = some (.ok (.tuple [.str "var", .str z, .int (i : Int)], rest)) := by
  rw [pPrim.eq_def, e_at, e_accF, e_accF, e_accF, e_accF, e_kindF, e_read, e_seesF]
  all_goals first | rfl | exact hz
theorem prim_num {a b : Nat} (hz : seesB rest "sign" "[" = false) : pPrim L n ((.num a b, i) :: rest) = some (.ok (.tuple [.str "number", .tuple [.int (a : Int), .int (b : Int)], .tuple [], .int (i : Int)], rest)) := by
  rw [pPrim.eq_def, e_at, e_accF, e_accF, e_accF, e_accF, e_kindT, e_read, e_seesF]
  all_goals first | rfl | exact hz
theorem powl_no {a : PyData} (hz : seesB rest "sign" "^" = false) : pPowL L n a rest = some (.ok (a, rest)) := by
  rw [pPowL.eq_def, e_seesF hz] <;> rfl
theorem powers_of {ts : TS1} {a : PyData} (h : pPrim L n ts = some (.ok (a, rest))) (hz : seesB rest "sign" "^" = false) : pPowers L n ts = some (.ok (a, rest)) := by
  unfold pPowers
  rw [e_ok h, powl_no hz]
theorem pow_pos {a : PyData} {e : Nat} {j : Nat} (he : e ≤ 9) : pPowL L (n + 1) a ((.sign "^", i) :: (.num e 1, j) :: rest) = pPowL L n (.tuple [.str "power", a, .int (e : Int), .int (i : Int)]) rest := by
  rw [pPowL.eq_def, e_seesT, e_at, e_exp, e_deep]
  · have h : pPower L ((.num e 1, j) :: rest) = some (.ok ((e : Int), rest)) := by
      unfold pPower
      rw [e_accF]
      · show (if (1 : Nat) ≠ 1 ∨ 9 < e then _ else _) = _
        rw [if_neg (by omega)]
      · rfl
    exact e_ok h
  all_goals rfl
theorem pow_neg {a : PyData} {e : Nat} {j m : Nat} (he : e ≤ 9) : pPowL L (n + 1) a ((.sign "^", i) :: (.sign "-", m) :: (.num e 1, j) :: rest) = pPowL L n (.tuple [.str "power", a, .int (-(e : Int)), .int (i : Int)]) rest := by
  rw [pPowL.eq_def, e_seesT, e_at, e_exp, e_deep]
  · have h : pPower L ((.sign "-", m) :: (.num e 1, j) :: rest) = some (.ok (-(e : Int), rest)) := by
      unfold pPower
      rw [e_accT]
      · have h2 : pWhole L 9 ((.num e 1, j) :: rest) = some (.ok ((e : Int), rest)) := by
          show (if (1 : Nat) ≠ 1 ∨ 9 < e then _ else _) = _
          rw [if_neg (by omega)]
        exact e_ok h2
      · rfl
    exact e_ok h
  all_goals rfl
/-- no operator stands ahead -/
structure Quiet (f : Nat) (rest : TS1) : Prop where
  q1 : 1 ≤ f → seesB rest "sign" "*" = false ∧ seesB rest "sign" "/" = false
  q2 : 2 ≤ f → seesB rest "sign" "+" = false ∧ seesB rest "sign" "-" = false
  q3 : 3 ≤ f → seesB rest "sign" "<" = false ∧ seesB rest "sign" "<=" = false ∧ seesB rest "sign" "==" = false
  q4 : 4 ≤ f → seesB rest "word" "and" = false
  q5 : 5 ≤ f → seesB rest "word" "or" = false
theorem facL_no {a : PyData} (q : Quiet 1 rest) : pFacL L n a rest = some (.ok (a, rest)) := by
  rw [pFacL.eq_def, e_seesF (q.q1 (by decide)).1, e_seesF (q.q1 (by decide)).2] <;> rfl
theorem termL_no {a : PyData} (q : Quiet 2 rest) : pTermL L n a rest = some (.ok (a, rest)) := by
  rw [pTermL.eq_def, e_seesF (q.q2 (by decide)).1, e_seesF (q.q2 (by decide)).2] <;> rfl
theorem cmp_no {a : PyData} (q : Quiet 3 rest) : pCmp L n a cmps rest = some (.ok (a, rest)) := by
  obtain ⟨h1, h2, h3⟩ := q.q3 (by decide)
  unfold cmps
  rw [pCmp.eq_def]
  show (pAt L >>= _) rest = _
  rw [e_at, e_accF h1, pCmp.eq_def]
  show (pAt L >>= _) rest = _
  rw [e_at, e_accF h2, pCmp.eq_def]
  show (pAt L >>= _) rest = _
  rw [e_at, e_accF h3, pCmp.eq_def] <;> rfl
theorem bothL_no {a : PyData} (q : Quiet 4 rest) : pBothL L n a rest = some (.ok (a, rest)) := by
  rw [pBothL.eq_def, e_seesF (q.q4 (by decide))] <;> rfl
theorem orL_no {a : PyData} {m : Nat} (q : Quiet 5 rest) : pOrL L n m a rest = some (.ok (a, rest)) := by
  rw [pOrL.eq_def, e_seesF (q.q5 (by decide))] <;> rfl
theorem Quiet.mono {f g : Nat} (q : Quiet f rest) (h : g ≤ f) : Quiet g rest := ⟨fun h1 => q.q1 (by omega), fun h1 => q.q2 (by omega), fun h1 => q.q3 (by omega), fun h1 => q.q4 (by omega), fun h1 => q.q5 (by omega)⟩
/-- from the powers up: nothing but one operand -/
theorem expr_up {ts : TS1} {a : PyData} (h : pPowers L n ts = some (.ok (a, rest))) (q : Quiet 5 rest) (h1 : seesB ts "word" "if" = false) (h2 : seesB ts "word" "let" = false) (h3 : seesB ts "word" "not" = false) : pExpr L n ts = some (.ok (a, rest)) := by
  have f1 : pFactors L n ts = some (.ok (a, rest)) := by
    unfold pFactors
    rw [e_ok h, facL_no (q.mono (by decide))]
  have f2 : pTerms L n ts = some (.ok (a, rest)) := by
    unfold pTerms
    rw [e_ok f1, termL_no (q.mono (by decide))]
  have f3 : pPlain L n ts = some (.ok (a, rest)) := by
    rw [pPlain.eq_def, e_at, e_accF h3, e_ok f2, cmp_no (q.mono (by decide))]
  have f4 : pBoth L n ts = some (.ok (a, rest)) := by
    unfold pBoth
    rw [e_ok f3, bothL_no (q.mono (by decide))]
  rw [pExpr.eq_def, e_at, e_accF h1, e_accF h2, e_ok f4, orL_no q]
end
end Al
namespace Al
open PySem PySem.Spec PyProof.Rows L2 NdefX PySem.W
/-! ### k02: the parser reads a chain as the tree -/
section
variable {L n i : Nat} {rest : TS1}
theorem quiet_of {f : Nat} (h : Stop f rest) : Quiet f rest := by
  obtain ⟨t, i, r, rfl, rfl | ⟨p, rfl, hp⟩⟩ := h
  · exact ⟨fun _ => ⟨rfl, rfl⟩, fun _ => ⟨rfl, rfl⟩, fun _ => ⟨rfl, rfl, rfl⟩, fun _ => rfl, fun _ => rfl⟩
  · cases p <;> (simp only [Op2.tier] at hp) <;> refine ⟨fun h => ?_, fun h => ?_, fun h => ?_, fun h => ?_, fun h => ?_⟩ <;> first | omega | exact ⟨rfl, rfl⟩ | exact ⟨rfl, rfl, rfl⟩ | rfl
theorem stop_paren {f : Nat} (h : Stop f rest) : seesB rest "sign" "(" = false ∧ seesB rest "sign" "[" = false ∧ seesB rest "sign" "^" = false := by
  obtain ⟨t, i, r, rfl, rfl | ⟨p, rfl, hp⟩⟩ := h
  · exact ⟨rfl, rfl, rfl⟩
  · cases p <;> exact ⟨rfl, rfl, rfl⟩
theorem quiet_paren {r : TS1} {j : Nat} : Quiet 5 ((.sign ")", j) :: r) := ⟨fun _ => ⟨rfl, rfl⟩, fun _ => ⟨rfl, rfl⟩, fun _ => ⟨rfl, rfl, rfl⟩, fun _ => rfl, fun _ => rfl⟩
theorem opd_read {f : Nat} (o : Opd) (h : Stop f rest) : pPowers L (n + 2) (o.toks i ++ rest) = some (.ok (o.tree i, rest)) := by
  obtain ⟨h1, h2, h3⟩ := stop_paren h
  cases o with
  | x => exact powers_of (prim_x h1) h3
  | num m => exact powers_of (prim_num h2) h3
  | call =>
    refine powers_of ?_ h3
    show pPrim L (n + 2) ((.name "f", i) :: (.sign "(", i + 1) :: (.name "y", i + 2) :: (.sign ")", i + 3) :: rest) = _
    have ha : pExpr L (n + 1) ((.name "y", i + 2) :: (.sign ")", i + 3) :: rest) = some (.ok (.tuple [.str "var", .str "y", .int ((i + 2 : Nat) : Int)], (.sign ")", i + 3) :: rest)) :=
      expr_up (powers_of (prim_x rfl) rfl) quiet_paren rfl rfl rfl
    have hb : ∀ acc, pArgs L (n + 2) acc ((.sign ")", i + 3) :: rest) = some (.ok (.tuple acc, rest)) := by
      intro acc
      rw [pArgs.eq_def, e_accF, e_exp] <;> rfl
    have hc : pCall L (n + 2) ((.sign "(", i + 1) :: (.name "y", i + 2) :: (.sign ")", i + 3) :: rest) = some (.ok (.tuple [.tuple [.str "var", .str "y", .int ((i + 2 : Nat) : Int)]], rest)) := by
      rw [pCall.eq_def, e_exp, e_accF, e_deep]
      · exact (e_ok ha).trans (hb _)
      all_goals rfl
    rw [pPrim.eq_def, e_at, e_accF, e_accF, e_accF, e_accF, e_kindF, e_read, e_seesT]
    · exact e_ok hc
    all_goals rfl
  | pow =>
    show pPowers L (n + 2) ((.name "x", i) :: (.sign "^", i + 1) :: (.num 2 1, i + 2) :: (.sign "^", i + 3) :: (.sign "-", i + 4) :: (.num 3 1, i + 5) :: rest) = _
    unfold pPowers
    rw [e_ok (prim_x rfl), pow_pos (by decide), pow_neg (by decide), powl_no h3]
    rfl
end
def PP (L n : Nat) : Nat → Pr PyData
  | 0 => pPowers L n
  | 1 => pFactors L n
  | 2 => pTerms L n
  | 3 => pPlain L n
  | 4 => pBoth L n
  | _ => pExpr L n
theorem first_word (o : Opd) (i : Nat) (r : TS1) (v : Str) : seesB (o.toks i ++ r) "word" v = false := by
  cases o <;> rfl
theorem chain_word (o : Opd) (i : Nat) (ch : List Lk) (r : TS1) (v : Str) : seesB (toksC o i ch ++ r) "word" v = false := by
  unfold toksC
  rw [List.append_assoc]
  exact first_word _ _ _ _
theorem cok_cons (b : Bool) (l : Lk) (r : List Lk) : cok b (l :: r) = if l.op.tier = 2 then b = false ∧ cok true r else if l.op.tier < 2 then cok false r else cok b r := rfl
theorem cok_cut {w : Nat} (hw : w < 2) : ∀ (ch : List Lk) (b : Bool), cok b ch → cok b (cut w ch).1 ∧ ∀ r ∈ (cut w ch).2, cok false r.g
  | [], b, _ => ⟨trivial, fun _ h => by cases h⟩
  | l :: r, b, h => by
    unfold cok at h
    unfold cut
    by_cases hl : l.op.tier = w
    · rw [if_neg (by omega), if_pos (by omega)] at h
      rw [if_pos hl]
      obtain ⟨h1, h2⟩ := cok_cut hw r false h
      refine ⟨trivial, fun u hu => ?_⟩
      rcases List.mem_cons.mp hu with rfl | hu
      · exact h1
      · exact h2 u hu
    · rw [if_neg hl]
      show cok b (l :: (cut w r).1) ∧ ∀ u ∈ (cut w r).2, cok false u.g
      rw [cok_cons]
      by_cases h2 : l.op.tier = 2
      · rw [if_pos h2] at h
        rw [if_pos h2]
        obtain ⟨g1, g2⟩ := cok_cut hw r true h.2
        exact ⟨⟨h.1, g1⟩, g2⟩
      · rw [if_neg h2] at h
        rw [if_neg h2]
        by_cases h3 : l.op.tier < 2
        · rw [if_pos h3] at h
          rw [if_pos h3]
          exact cok_cut hw r false h
        · rw [if_neg h3] at h
          rw [if_neg h3]
          exact cok_cut hw r b h
theorem cok_one : ∀ (ch : List Lk) (b : Bool), (∀ l ∈ ch, 2 ≤ l.op.tier) → cok b ch → (cut 2 ch).2.length ≤ (if b = true then 0 else 1)
  | [], b, _, _ => Nat.zero_le _
  | l :: r, b, ht, h => by
    unfold cok at h
    have ht1 := ht l List.mem_cons_self
    have htr := fun x hx => ht x (List.mem_cons_of_mem _ hx)
    unfold cut
    by_cases h2 : l.op.tier = 2
    · rw [if_pos h2] at h
      rw [if_pos h2, h.1]
      have := cok_one r true htr h.2
      rw [if_pos rfl] at this
      show (cut 2 r).2.length + 1 ≤ _
      rw [if_neg (by decide)]
      omega
    · rw [if_neg h2, if_neg (by omega)] at h
      rw [if_neg h2]
      exact cok_one r b htr h
def trG (f : Nat) (t : PyData) (r : Gr) : PyData := .tuple [.str r.l.op.head, t, tr f r.l.q r.l.j r.g, .int (r.l.at_ : Int)]
theorem tr_succ (f : Nat) (o : Opd) (i : Nat) (ch : List Lk) : tr (f + 1) o i ch = (cut (4 - f) ch).2.foldl (trG f) (tr f o i (cut (4 - f) ch).1) := rfl
theorem loop_run {f w : Nat} {rest : TS1} {Lp : Nat → PyData → Pr PyData} {g : Nat → Pr PyData} (hfw : w + f = 4) (hs : Stop f rest)
    (hstep : ∀ (p : Op2) (at_ n : Nat) (a b : PyData) (r r' : TS1), p.tier = w → g n r = some (.ok (b, r')) → Lp (n + 1) a ((p.tk, at_) :: r) = Lp n (.tuple [.str p.head, a, b, .int (at_ : Int)]) r')
    (hend : ∀ n a, Lp n a rest = some (.ok (a, rest)))
    (hg : ∀ (n : Nat) (o : Opd) (i : Nat) (ch : List Lk) (rest' : TS1), (∀ l ∈ ch, w + 1 ≤ l.op.tier) → cok false ch → Stop f rest' → 2 + ch.length ≤ n → g n (toksC o i ch ++ rest') = some (.ok (tr f o i ch, rest'))) :
    ∀ (gs : List Gr) (n : Nat) (a : PyData), (∀ r ∈ gs, r.l.op.tier = w ∧ (∀ l ∈ r.g, w + 1 ≤ l.op.tier) ∧ cok false r.g) → 2 + (gs.map fun r => 1 + r.g.length).sum ≤ n → Lp n a (gs.flatMap grToks ++ rest) = some (.ok (gs.foldl (trG f) a, rest))
  | [], n, a, _, _ => hend n a
  | r :: gs, n, a, h, hn => by
    obtain ⟨h1, h2, h3⟩ := h r List.mem_cons_self
    rw [List.map_cons, List.sum_cons] at hn
    obtain ⟨m, rfl⟩ : ∃ m, n = m + 1 := ⟨n - 1, by omega⟩
    have hgo : g m (toksC r.l.q r.l.j r.g ++ (gs.flatMap grToks ++ rest)) = some (.ok (tr f r.l.q r.l.j r.g, gs.flatMap grToks ++ rest)) := by
      refine hg m _ _ _ _ h2 h3 ?_ (by omega)
      cases gs with
      | nil => exact hs
      | cons r2 gs =>
        refine ⟨r2.l.op.tk, r2.l.at_, _, rfl, .inr ⟨r2.l.op, rfl, ?_⟩⟩
        have := (h r2 (List.mem_cons_of_mem _ List.mem_cons_self)).1
        omega
    have e : (r :: gs).flatMap grToks ++ rest = (r.l.op.tk, r.l.at_) :: (toksC r.l.q r.l.j r.g ++ (gs.flatMap grToks ++ rest)) := by
      simp [grToks]
    rw [e, hstep _ _ _ _ _ _ _ h1 hgo]
    exact loop_run hfw hs hstep hend hg gs m _ (fun x hx => h x (List.mem_cons_of_mem _ hx)) (by omega)
theorem facL_step {L : Nat} {p : Op2} {at_ n : Nat} {a b : PyData} {r r' : TS1} (hp : p.tier = 4) (h : pPowers L n r = some (.ok (b, r'))) : pFacL L (n + 1) a ((p.tk, at_) :: r) = pFacL L n (.tuple [.str p.head, a, b, .int (at_ : Int)]) r' := by
  cases p <;> (simp only [Op2.tier] at hp) <;> try omega
  · rw [pFacL.eq_def, e_seesT, e_at, e_read, e_deep]
    · exact e_ok h
    all_goals rfl
  · rw [pFacL.eq_def, e_seesF, e_seesT, e_at, e_read, e_deep]
    · exact e_ok h
    all_goals rfl
theorem termL_step {L : Nat} {p : Op2} {at_ n : Nat} {a b : PyData} {r r' : TS1} (hp : p.tier = 3) (h : pFactors L n r = some (.ok (b, r'))) : pTermL L (n + 1) a ((p.tk, at_) :: r) = pTermL L n (.tuple [.str p.head, a, b, .int (at_ : Int)]) r' := by
  cases p <;> (simp only [Op2.tier] at hp) <;> try omega
  · rw [pTermL.eq_def, e_seesT, e_at, e_read, e_deep]
    · exact e_ok h
    all_goals rfl
  · rw [pTermL.eq_def, e_seesF, e_seesT, e_at, e_read, e_deep]
    · exact e_ok h
    all_goals rfl
theorem bothL_step {L : Nat} {p : Op2} {at_ n : Nat} {a b : PyData} {r r' : TS1} (hp : p.tier = 1) (h : pPlain L n r = some (.ok (b, r'))) : pBothL L (n + 1) a ((p.tk, at_) :: r) = pBothL L n (.tuple [.str p.head, a, b, .int (at_ : Int)]) r' := by
  cases p <;> (simp only [Op2.tier] at hp) <;> try omega
  · rw [pBothL.eq_def, e_seesT, e_at, e_exp, e_deep]
    · exact e_ok h
    all_goals rfl
theorem orL_step {L : Nat} {p : Op2} {at_ n m : Nat} {a b : PyData} {r r' : TS1} (hp : p.tier = 0) (h : pBoth L n r = some (.ok (b, r'))) : pOrL L (n + 1) m a ((p.tk, at_) :: r) = pOrL L n m (.tuple [.str p.head, a, b, .int (at_ : Int)]) r' := by
  cases p <;> (simp only [Op2.tier] at hp) <;> try omega
  · rw [pOrL.eq_def, e_seesT, e_at, e_exp, e_deep]
    · exact e_ok h
    all_goals rfl
theorem cmp_step {L : Nat} {p : Op2} {at_ n : Nat} {a b : PyData} {r r' : TS1} (hp : p.tier = 2) (h : pTerms L n r = some (.ok (b, r'))) : pCmp L (n + 1) a cmps ((p.tk, at_) :: r) = some (.ok (.tuple [.str p.head, a, b, .int (at_ : Int)], r')) := by
  unfold cmps
  cases p <;> (simp only [Op2.tier] at hp) <;> try omega
  · rw [pCmp.eq_def]
    show (pAt L >>= _) _ = _
    rw [e_at, e_accT, e_deep]
    · exact e_ok h
    all_goals rfl
  · rw [pCmp.eq_def]
    show (pAt L >>= _) _ = _
    rw [e_at, e_accF, pCmp.eq_def]
    show (pAt L >>= _) _ = _
    rw [e_at, e_accT, e_deep]
    · exact e_ok h
    all_goals rfl
  · rw [pCmp.eq_def]
    show (pAt L >>= _) _ = _
    rw [e_at, e_accF, pCmp.eq_def]
    show (pAt L >>= _) _ = _
    rw [e_at, e_accF, pCmp.eq_def]
    show (pAt L >>= _) _ = _
    rw [e_at, e_accT, e_deep]
    · exact e_ok h
    all_goals rfl
/-- a chain of tier f is read as its tree -/
theorem chain_read (L : Nat) : ∀ (f : Nat), f ≤ 5 → ∀ (n : Nat) (o : Opd) (i : Nat) (ch : List Lk) (rest : TS1), (∀ l ∈ ch, 5 - f ≤ l.op.tier) → cok false ch → Stop f rest → 2 + ch.length ≤ n → PP L n f (toksC o i ch ++ rest) = some (.ok (tr f o i ch, rest))
  | 0, _, n, o, i, ch, rest, ht, _, hs, hn => by
    cases ch with
    | cons l r =>
      have := ht l List.mem_cons_self
      cases hl : l.op <;> (rw [hl] at this; simp [Op2.tier] at this)
    | nil =>
      obtain ⟨m, rfl⟩ : ∃ m, n = m + 2 := ⟨n - 2, by have := hn; omega⟩
      have e : toksC o i [] ++ rest = o.toks i ++ rest := by simp [toksC]
      rw [e]
      exact opd_read o hs
  | f + 1, hf, n, o, i, ch, rest, ht, hc, hs, hn => by
    have ih := chain_read L f (by omega)
    have hm := cut_mem (4 - f) ch
    have hlen := cut_len (4 - f) ch
    have htk := cut_toks (4 - f) o i ch
    have h1 : ∀ l ∈ (cut (4 - f) ch).1, 5 - f ≤ l.op.tier := fun l hl => by
      have := ht l (hm.1 l hl).1
      have := (hm.1 l hl).2
      omega
    have h2 : ∀ r ∈ (cut (4 - f) ch).2, r.l.op.tier = 4 - f ∧ (∀ l ∈ r.g, 5 - f ≤ l.op.tier) := fun r hr => by
      obtain ⟨_, a, b⟩ := hm.2 r hr
      refine ⟨a, fun l hl => ?_⟩
      have := ht l (b l hl).1
      have := (b l hl).2
      omega
    have hcc : cok false (cut (4 - f) ch).1 ∧ ∀ r ∈ (cut (4 - f) ch).2, cok false r.g := by
      by_cases hw : 4 - f < 2
      · exact cok_cut hw ch false hc
      · have easy : ∀ c : List Lk, (∀ l ∈ c, 3 ≤ l.op.tier) → cok false c := by
          intro c
          induction c with
          | nil => intro _; trivial
          | cons l c ihc =>
            intro h
            have := h l List.mem_cons_self
            unfold cok
            rw [if_neg (by omega), if_neg (by omega)]
            exact ihc fun x hx => h x (List.mem_cons_of_mem _ hx)
        refine ⟨easy _ fun l hl => ?_, fun r hr => easy _ fun l hl => ?_⟩
        · have := h1 l hl; omega
        · have := (h2 r hr).2 l hl; omega
    have hsf : Stop f rest := hs.mono (by omega)
    have hgs : Stop f ((cut (4 - f) ch).2.flatMap grToks ++ rest) := by
      cases hg : (cut (4 - f) ch).2 with
      | nil => exact hsf
      | cons r gs =>
        refine ⟨r.l.op.tk, r.l.at_, _, rfl, .inr ⟨r.l.op, rfl, ?_⟩⟩
        have := (h2 r (by rw [hg]; exact List.mem_cons_self)).1
        omega
    have first := ih n o i _ _ h1 hcc.1 hgs (by omega)
    rw [← List.append_assoc, ← htk] at first
    have hq := quiet_of hs
    have hgr : ∀ r ∈ (cut (4 - f) ch).2, r.l.op.tier = 4 - f ∧ (∀ l ∈ r.g, (4 - f) + 1 ≤ l.op.tier) ∧ cok false r.g := fun r hr => ⟨(h2 r hr).1, fun l hl => by have := (h2 r hr).2 l hl; omega, hcc.2 r hr⟩
    have hsum : 2 + ((cut (4 - f) ch).2.map fun r => 1 + r.g.length).sum ≤ n := by omega
    have hG : ∀ (n : Nat) (o : Opd) (i : Nat) (ch : List Lk) (rest' : TS1), (∀ l ∈ ch, (4 - f) + 1 ≤ l.op.tier) → cok false ch → Stop f rest' → 2 + ch.length ≤ n → PP L n f (toksC o i ch ++ rest') = some (.ok (tr f o i ch, rest')) := fun n o i ch rest' a b c d => ih n o i ch rest' (fun l hl => by have := a l hl; omega) b c d
    have hw1 := chain_word o i ch rest
    rw [tr_succ]
    obtain rfl | rfl | rfl | rfl | rfl : f = 0 ∨ f = 1 ∨ f = 2 ∨ f = 3 ∨ f = 4 := by omega
    · change pPowers L n _ = _ at first
      show pFactors L n _ = _
      unfold pFactors
      rw [e_ok first]
      exact loop_run (f := 0) (w := 4) rfl hsf (fun p at_ n a b r r' hp h => facL_step hp h) (fun n a => facL_no hq) hG _ n _ hgr hsum
    · change pFactors L n _ = _ at first
      show pTerms L n _ = _
      unfold pTerms
      rw [e_ok first]
      exact loop_run (f := 1) (w := 3) rfl hsf (fun p at_ n a b r r' hp h => termL_step hp h) (fun n a => termL_no hq) hG _ n _ hgr hsum
    · change pTerms L n _ = _ at first
      show pPlain L n _ = _
      rw [pPlain.eq_def, e_at, e_accF (hw1 _), e_ok first]
      have hone := cok_one ch false (fun l hl => by have := ht l hl; omega) hc
      rw [if_neg (by decide)] at hone
      match hgg : (cut (4 - 2) ch).2, hone with
      | [], _ =>
        exact cmp_no hq
      | [r], _ =>
        rw [hgg] at hgr hsum
        rw [List.map_cons, List.sum_cons] at hsum
        obtain ⟨m, rfl⟩ : ∃ m, n = m + 1 := ⟨n - 1, by omega⟩
        obtain ⟨a1, a2, a3⟩ := hgr r List.mem_cons_self
        have e : [r].flatMap grToks ++ rest = (r.l.op.tk, r.l.at_) :: (toksC r.l.q r.l.j r.g ++ rest) := by simp [grToks]
        rw [e]
        exact cmp_step a1 (hG m _ _ _ _ a2 a3 hsf (by omega))
      | r1 :: r2 :: g, h => 
        have h : (r1 :: r2 :: g).length ≤ 1 := by rw [← hgg]; exact hone
        simp at h
    · change pPlain L n _ = _ at first
      show pBoth L n _ = _
      unfold pBoth
      rw [e_ok first]
      exact loop_run (f := 3) (w := 1) rfl hsf (fun p at_ n a b r r' hp h => bothL_step hp h) (fun n a => bothL_no hq) hG _ n _ hgr hsum
    · change pBoth L n _ = _ at first
      show pExpr L n _ = _
      rw [pExpr.eq_def, e_at, e_accF (hw1 _), e_accF (hw1 _), e_ok first]
      exact loop_run (f := 4) (w := 0) (g := fun n => pBoth L n) (Lp := fun n a => pOrL L n (atP L (toksC o i ch ++ rest)) a) rfl hsf (fun p at_ n a b r r' hp h => orL_step hp h) (fun n a => orL_no hq) hG _ n _ hgr hsum
/-! ### the line -/
theorem line_read {L : Nat} {o : Opd} {i i1 : Nat} {ch : List Lk} {e : Nat} (ht : cok false ch) (hn : ch.length ≤ 20) :
    pLines L [] ((.word "show", i) :: (toksC o i1 ch ++ [(.sign ";", e)])) = some (.ok ([.tuple [.str "show", tr 5 o i1 ch, .none, .int (i : Int)]], [])) := by
  have hx := chain_read L 5 (by decide) 23 o i1 ch [(.sign ";", e)] (fun l _ => Nat.zero_le _) ht ⟨_, _, _, rfl, .inl rfl⟩ (by omega)
  have hx : pExpr L 23 (toksC o i1 ch ++ [(.sign ";", e)]) = some (.ok (tr 5 o i1 ch, [(.sign ";", e)])) := hx
  have hl : pLine L ((.word "show", i) :: (toksC o i1 ch ++ [(.sign ";", e)])) = some (.ok (.tuple [.str "show", tr 5 o i1 ch, .none, .int (i : Int)], [])) := by
    unfold pLine
    rw [e_at, e_accF, e_accF, e_accF, e_exp]
    · show (pExpr L 23 >>= _) (toksC o i1 ch ++ [(.sign ";", e)]) = _
      rw [e_ok hx, e_accF2, e_pure]
      · unfold pSemi
        rw [e_exp] <;> rfl
      all_goals rfl
    all_goals rfl
  rw [pLines.eq_def]
  have e1 : ∀ ts : TS1, pEnd ts = some (.ok (ts.isEmpty, ts)) := fun _ => rfl
  rw [e_ok (e1 _)]
  show (pLine L >>= _) _ = _
  rw [e_ok hl, pLines.eq_def, e_ok (e1 _)]
  rfl
end Al
namespace Al
open PySem PySem.Spec PyProof.Rows L2 NdefX PySem.W
/-! ### the law's own makers in plain Lean -/
def LETs : Str := "abcdefghijklmnopqrstuvwxyzABCDEFGHIJKLMNOPQRSTUVWXYZ"
def MOREs : Str := LETs ++ ("0123456789_" : Str)
def lawW (c : Nat) : List Nat := (lS LETs).getD (c % 52) 0 :: (List.range (c / 52 % 16)).map fun k => (lS MOREs).getD (c / 52 / (3 + k) % 63) 0
def parts : List Str := ["", "0", "5", "25", "007", "1234"]
def worths : List Nat := [1, 10, 10, 100, 1000, 10000]
def zers : List Str := ["", "0", "00"]
def wholeN (r : Nat) : Nat := r % (if r / 7 % 2 = 0 then 10 else 1000000)
def numS (n : Nat) : List Nat := lS (Str.ofString (toString ((n : Nat) : Int)))
def last6 (l : List Nat) : List Nat := l.drop (l.length - min 6 l.length)
def shOf (r : Nat) : List Nat := last6 (lS (zers.getD (r / 84 % 3) "") ++ numS (wholeN r))
def ptOf (r : Nat) : List Nat := lS (parts.getD (r / 14 % 6) "")
def lawTok (c : Nat) : Tk × List Nat :=
  if c % 5 = 0 then (.word (RES.getD (c / 5 % 16) ""), lS (RES.getD (c / 5 % 16) ""))
  else if c % 5 = 1 then (if uS (lawW (c / 5)) ∈ RES then .word (uS (lawW (c / 5))) else .name (uS (lawW (c / 5))), lawW (c / 5))
  else if c % 5 < 4 then (.num (digV (shOf (c / 5) ++ ptOf (c / 5))) (10 ^ (ptOf (c / 5)).length), shOf (c / 5) ++ (if ptOf (c / 5) = [] then [] else [46]) ++ ptOf (c / 5))
  else (.sign (SIG.getD (c / 5 % 16) ""), lS (SIG.getD (c / 5 % 16) ""))
def sepS : List Str := [" ", "\n", "\t", "  ", " # == fun\n", "\n\n"]
def sepOf (c : Nat) : List Nat := lS (sepS.getD (c / 3 % 6) "")
def bads : List Str := ["@", "1234567", "1.23456", "7a", "1.5x", "aaaaaaaaaaaaaaaaa", "!", ".", ".5", "{", "1_", "$"]
/-! ### facts -/
theorem tw_app {p : Nat → Bool} {x : Nat} {r : List Nat} (hx : p x = false) : ∀ l : List Nat, (∀ a ∈ l, p a = true) → (l ++ x :: r).takeWhile p = l
  | [], _ => by rw [List.nil_append, List.takeWhile_cons, if_neg (by rw [hx]; decide)]
  | a :: l, h => by
    rw [List.cons_append, List.takeWhile_cons, if_pos (h a List.mem_cons_self), tw_app hx l fun b hb => h b (List.mem_cons_of_mem _ hb)]
def blank3 (x : Nat) : Prop := x = 32 ∨ x = 10 ∨ x = 9
theorem blank_in {x : Nat} (h : blank3 x) : inName x = false ∧ isDigit x = false ∧ x ≠ 46 ∧ isSp x = true := by
  rcases h with rfl | rfl | rfl <;> decide
theorem word_lex {w : List Nat} {c : Nat} {x : Nat} {R : List Nat} (h0 : w.head? = some c) (hc : isLetter c = true) (hw : ∀ a ∈ w, inName a = true) (hl : w.length ≤ 16) (hx : blank3 x) :
    tok1 (w ++ x :: R) = some (if uS w ∈ RES then .word (uS w) else .name (uS w), w.length) := by
  cases w with
  | nil => cases h0
  | cons c' w =>
    cases h0
    have e := tw_app (r := R) (blank_in hx).1 (c :: w) hw
    show (if isLetter c = true then wordTok ((c :: w) ++ x :: R) else _) = _
    rw [if_pos hc]
    unfold wordTok
    rw [e]
    by_cases hm : uS (c :: w) ∈ RES
    · rw [if_pos hm, if_pos hm]
    · rw [if_neg hm, if_neg hm, if_neg (by omega)]
theorem letter_not_digit {c : Nat} (h : isDigit c = true) : isLetter c = false := by
  have := isDigit_ok h
  unfold isLetter
  rw [decide_eq_false (show ¬ 97 ≤ c by omega), decide_eq_false (show ¬ 65 ≤ c by omega)]
  rfl
theorem num_lex {sh pt : List Nat} {x : Nat} {R : List Nat} (h0 : sh ≠ []) (h1 : ∀ a ∈ sh, isDigit a = true) (h2 : ∀ a ∈ pt, isDigit a = true) (h3 : sh.length ≤ 6) (h4 : pt.length ≤ 4) (hx : blank3 x) :
    tok1 ((sh ++ (if pt = [] then [] else [46]) ++ pt) ++ x :: R) = some (.num (digV (sh ++ pt)) (10 ^ pt.length), (sh ++ (if pt = [] then [] else [46]) ++ pt).length) := by
  obtain ⟨b1, b2, b3, b4⟩ := blank_in hx
  have head : ∀ T, tok1 (sh ++ T) = numTok (sh ++ T) := fun T => by
    cases sh with
    | nil => exact absurd rfl h0
    | cons c s =>
      have hc := h1 c List.mem_cons_self
      show (if isLetter c = true then _ else if isDigit c = true then _ else _) = _
      rw [if_neg (by rw [letter_not_digit hc]; decide), if_pos hc] <;> rfl
  by_cases hp : pt = []
  · subst hp
    simp only [if_true, List.append_nil]
    rw [head]
    have e := tw_app (r := R) b2 sh h1
    have e2 : (sh ++ x :: R).drop sh.length = x :: R := by simp
    have e3 : partOf (x :: R) = [] := by
      cases R with
      | nil => rfl
      | cons d r =>
        show (if x = 46 ∧ isDigit d = true then _ else _) = _
        rw [if_neg (fun z => b3 z.1)]
    unfold numTok numLen
    rw [e, e2, e3]
    simp only [if_true, Nat.add_zero, List.length_nil, List.append_nil]
    rw [e2, if_neg]
    · rintro (z | z | z)
      · omega
      · omega
      · have : inName x = true := z
        rw [b1] at this; cases this
  · rw [if_neg hp]
    have ea : sh ++ [46] ++ pt ++ x :: R = sh ++ 46 :: (pt ++ x :: R) := by simp
    rw [ea, head]
    have e := tw_app (r := pt ++ x :: R) (by decide : isDigit 46 = false) sh h1
    have e2 : (sh ++ 46 :: (pt ++ x :: R)).drop sh.length = 46 :: (pt ++ x :: R) := by simp
    have e3 : partOf (46 :: (pt ++ x :: R)) = pt := by
      cases pt with
      | nil => exact absurd rfl hp
      | cons d r =>
        show (if 46 = 46 ∧ isDigit d = true then ((d :: r) ++ x :: R).takeWhile isDigit else []) = _
        rw [if_pos ⟨rfl, h2 d List.mem_cons_self⟩]
        exact tw_app b2 (d :: r) h2
    unfold numTok numLen
    rw [e, e2, e3, if_neg hp]
    have e4 : (sh ++ 46 :: (pt ++ x :: R)).drop (sh.length + (1 + pt.length)) = x :: R := by
      have : sh ++ 46 :: (pt ++ x :: R) = (sh ++ 46 :: pt) ++ x :: R := by simp
      rw [this]
      have hl : sh.length + (1 + pt.length) = (sh ++ 46 :: pt).length := by simp; omega
      rw [hl, List.drop_left]
    rw [e4, if_neg]
    · have hl : sh.length + (1 + pt.length) = (sh ++ [46] ++ pt).length := by simp; omega
      rw [hl]
    · rintro (z | z | z)
      · omega
      · omega
      · have : inName x = true := z
        rw [b1] at this; cases this
theorem sign_lex {k : Nat} {x : Nat} {R : List Nat} (hk : k < 16) (hx : blank3 x) : tok1 (lS (SIG.getD k "") ++ x :: R) = some (.sign (SIG.getD k ""), (lS (SIG.getD k "")).length) := by
  match k, hk with
  | 0, _ => rfl
  | 1, _ => rfl
  | 2, _ => rcases hx with rfl | rfl | rfl <;> rfl
  | 3, _ => rcases hx with rfl | rfl | rfl <;> rfl
  | 4, _ => rfl
  | 5, _ => rfl
  | 6, _ => rfl
  | 7, _ => rfl
  | 8, _ => rfl
  | 9, _ => rfl
  | 10, _ => rfl
  | 11, _ => rfl
  | 12, _ => rfl
  | 13, _ => rfl
  | 14, _ => rfl
  | 15, _ => rfl
  | k + 16, h => omega
theorem getD_mem {α : Type} {l : List α} {k : Nat} {d : α} (h : k < l.length) : l.getD k d ∈ l := by
  rw [List.getD_eq_getElem?_getD, List.getElem?_eq_getElem h]
  exact List.getElem_mem h
theorem lawW_facts (c : Nat) : ∃ a, (lawW c).head? = some a ∧ isLetter a = true ∧ (∀ b ∈ lawW c, inName b = true) ∧ (lawW c).length ≤ 16 := by
  have h1 : ∀ a ∈ lS LETs, isLetter a = true := by decide +kernel
  have h2 : ∀ a ∈ lS MOREs, inName a = true := by decide +kernel
  have l1 : (lS LETs).length = 52 := by decide +kernel
  have l2 : (lS MOREs).length = 63 := by decide +kernel
  have m1 : (lS LETs).getD (c % 52) 0 ∈ lS LETs := getD_mem (by rw [l1]; omega)
  refine ⟨_, rfl, h1 _ m1, ?_, ?_⟩
  · intro b hb
    rcases List.mem_cons.mp hb with rfl | hb
    · have := h1 _ m1
      unfold inName
      rw [this] <;> rfl
    · obtain ⟨k, _, rfl⟩ := List.mem_map.mp hb
      exact h2 _ (getD_mem (by rw [l2]; omega))
  · unfold lawW
    rw [List.length_cons, List.length_map, List.length_range]
    omega
theorem numS_eq (n : Nat) : numS n = (Nat.toDigits 10 n).map Char.toNat := KIN.signs_num n
theorem numS_digits (n : Nat) : ∀ a ∈ numS n, isDigit a = true := by
  intro a ha
  rw [numS_eq] at ha
  obtain ⟨ch, hch, rfl⟩ := List.mem_map.mp ha
  have h := Nat.isDigit_of_mem_toDigits (by decide) (by decide) hch
  unfold Char.isDigit at h
  rw [Bool.and_eq_true] at h
  unfold isDigit
  have h1 := of_decide_eq_true h.1
  have h2 := of_decide_eq_true h.2
  rw [Bool.and_eq_true]
  exact ⟨decide_eq_true (UInt32.le_iff_toNat_le.mp h1), decide_eq_true (UInt32.le_iff_toNat_le.mp h2)⟩
theorem numS_ne (n : Nat) : numS n ≠ [] := by
  rw [numS_eq]
  intro h
  have : (Nat.toDigits 10 n).length = 0 := by rw [List.map_eq_nil_iff.mp h] <;> rfl
  have h2 := Nat.length_toDigits_pos (b := 10) (n := n)
  omega
theorem last6_len (l : List Nat) : (last6 l).length = min 6 l.length := by
  unfold last6
  rw [List.length_drop]
  omega
theorem last6_sub (l : List Nat) : ∀ a ∈ last6 l, a ∈ l := fun a ha => List.mem_of_mem_drop ha
theorem sh_facts (r : Nat) : shOf r ≠ [] ∧ (∀ a ∈ shOf r, isDigit a = true) ∧ (shOf r).length ≤ 6 := by
  have hz : ∀ z ∈ zers, ∀ a ∈ lS z, isDigit a = true := by decide +kernel
  have m : zers.getD (r / 84 % 3) "" ∈ zers := getD_mem (by show _ < 3; omega)
  have hl := last6_len (lS (zers.getD (r / 84 % 3) "") ++ numS (wholeN r))
  refine ⟨?_, ?_, ?_⟩
  · intro h
    have h0 : (shOf r).length = 0 := by rw [h] <;> rfl
    have : (numS (wholeN r)).length ≠ 0 := fun z => numS_ne _ (List.length_eq_zero_iff.mp z)
    unfold shOf at h0
    rw [hl, List.length_append] at h0
    omega
  · intro a ha
    rcases List.mem_append.mp (last6_sub _ a ha) with h | h
    · exact hz _ m a h
    · exact numS_digits _ a h
  · unfold shOf
    rw [hl]
    omega
theorem pt_facts (r : Nat) : (∀ a ∈ ptOf r, isDigit a = true) ∧ (ptOf r).length ≤ 4 ∧ worths.getD (r / 14 % 6) 0 = 10 ^ (ptOf r).length ∧ (parts.getD (r / 14 % 6) "" = "" ↔ ptOf r = []) := by
  have hz : ∀ z ∈ parts, (∀ a ∈ lS z, isDigit a = true) ∧ (lS z).length ≤ 4 := by decide +kernel
  have m : parts.getD (r / 14 % 6) "" ∈ parts := getD_mem (by show _ < 6; omega)
  refine ⟨(hz _ m).1, (hz _ m).2, ?_, ?_⟩
  · have : r / 14 % 6 < 6 := by omega
    unfold ptOf
    generalize r / 14 % 6 = k at *
    match k, this with
    | 0, _ => decide +kernel
    | 1, _ => decide +kernel
    | 2, _ => decide +kernel
    | 3, _ => decide +kernel
    | 4, _ => decide +kernel
    | 5, _ => decide +kernel
    | k + 6, h => omega
  · unfold ptOf
    constructor
    · intro h; rw [h]; rfl
    · intro h
      have e : (parts.getD (r / 14 % 6) "") = uS [] := by rw [← h]; rfl
      rw [e]; decide +kernel
theorem RES_facts : ∀ g ∈ RES, (∃ a, (lS g).head? = some a ∧ isLetter a = true) ∧ (∀ b ∈ lS g, inName b = true) ∧ (lS g).length ≤ 16 := by
  have h : ∀ g ∈ RES, isLetter ((lS g).headD 0) = true ∧ lS g ≠ [] ∧ (∀ b ∈ lS g, inName b = true) ∧ (lS g).length ≤ 16 := by decide +kernel
  intro g hg
  obtain ⟨h1, h2, h3, h4⟩ := h g hg
  refine ⟨?_, h3, h4⟩
  cases hl : lS g with
  | nil => exact absurd hl h2
  | cons a l => rw [hl] at h1; exact ⟨a, rfl, h1⟩
theorem lawTok_lex (c : Nat) {x : Nat} {R : List Nat} (hx : blank3 x) : tok1 ((lawTok c).2 ++ x :: R) = some ((lawTok c).1, (lawTok c).2.length) := by
  unfold lawTok
  split
  · have m : RES.getD (c / 5 % 16) "" ∈ RES := getD_mem (by show _ < 16; omega)
    obtain ⟨⟨a, h1, h2⟩, h3, h4⟩ := RES_facts _ m
    have := word_lex (R := R) h1 h2 h3 h4 hx
    rw [if_pos (show uS (lS (RES.getD (c / 5 % 16) "")) ∈ RES from m)] at this
    exact this
  · split
    · obtain ⟨a, h1, h2, h3, h4⟩ := lawW_facts (c / 5)
      exact word_lex h1 h2 h3 h4 hx
    · split
      · obtain ⟨h1, h2, h3⟩ := sh_facts (c / 5)
        obtain ⟨g1, g2, _⟩ := pt_facts (c / 5)
        exact num_lex h1 h2 g1 h3 g2 hx
      · exact sign_lex (by omega) hx
theorem lawTok_len (c : Nat) : 1 ≤ (lawTok c).2.length ∧ (lawTok c).2.length ≤ 16 := by
  have h := lawTok_lex c (x := 32) (R := []) (.inl rfl)
  constructor
  · cases hl : (lawTok c).2 with
    | nil =>
      rw [hl] at h
      have z : tok1 ([] ++ [32]) = none := by decide
      rw [z] at h
      cases h
    | cons a l => rw [List.length_cons]; omega
  · unfold lawTok
    split
    · have m : RES.getD (c / 5 % 16) "" ∈ RES := getD_mem (by show _ < 16; omega)
      exact (RES_facts _ m).2.2
    · split
      · obtain ⟨a, h1, h2, h3, h4⟩ := lawW_facts (c / 5)
        exact h4
      · split
        · obtain ⟨h1, h2, h3⟩ := sh_facts (c / 5)
          obtain ⟨g1, g2, _⟩ := pt_facts (c / 5)
          show (shOf (c / 5) ++ (if ptOf (c / 5) = [] then [] else [46]) ++ ptOf (c / 5)).length ≤ 16
          rw [List.length_append, List.length_append]
          split <;> simp <;> omega
        · have hs : ∀ g ∈ SIG, (lS g).length ≤ 16 := by decide +kernel
          exact hs _ (getD_mem (by show _ < 16; omega))
theorem tok_start {c : Nat} {s : List Nat} {t : Tk} {k : Nat} (h : tok1 (c :: s) = some (t, k)) (hs : isSp c = true ∨ c = 35) : False := by
  have e : tok1 (c :: s) = signTok (c :: s) := by
    show (if isLetter c = true then _ else if isDigit c = true then _ else _) = _
    have hc : c = 32 ∨ c = 9 ∨ c = 10 ∨ c = 35 := by
      rcases hs with hs | hs
      · unfold isSp at hs
        simp at hs
        omega
      · omega
    rcases hc with rfl | rfl | rfl | rfl <;> rfl
  rw [e] at h
  have hc : c = 32 ∨ c = 9 ∨ c = 10 ∨ c = 35 := by
    rcases hs with hs | hs
    · unfold isSp at hs
      simp at hs
      omega
    · omega
  have : signTok (c :: s) = none := by
    rcases hc with rfl | rfl | rfl | rfl <;> rfl
  rw [this] at h
  cases h
/-- a token, then what stands behind it -/
theorem lex_tok {i : Nat} {w : List Nat} {t : Tk} {R : List Nat} {ts : List (Tk × Nat)} {e : Option Nat} (h : tok1 (w ++ R) = some (t, w.length)) (hw : w ≠ []) (hr : Lex (i + w.length) R ts e) : Lex i (w ++ R) ((t, i) :: ts) e := by
  cases w with
  | nil => exact absurd rfl hw
  | cons c w =>
    refine .tok (s := w ++ R) ?_ ?_ h ?_
    · cases hc : isSp c with
      | false => rfl
      | true => exact (tok_start h (.inl hc)).elim
    · intro hc
      exact tok_start h (.inr hc)
    · have : (c :: (w ++ R)).drop (c :: w).length = R := by
        show ((c :: w) ++ R).drop (c :: w).length = R
        exact List.drop_left
      rw [this]
      exact hr
theorem lex_sep (c : Nat) {i : Nat} {R : List Nat} {ts : List (Tk × Nat)} {e : Option Nat} (hr : Lex (i + (sepOf c).length) R ts e) : (∃ x S, sepOf c ++ R = x :: S ∧ blank3 x) ∧ Lex i (sepOf c ++ R) ts e := by
  have h6 : c / 3 % 6 < 6 := by omega
  unfold sepOf at *
  generalize c / 3 % 6 = k at *
  match k, h6 with
  | 0, _ => exact ⟨⟨_, _, rfl, .inl rfl⟩, .sp rfl hr⟩
  | 1, _ => exact ⟨⟨_, _, rfl, .inr (.inl rfl)⟩, .sp rfl hr⟩
  | 2, _ => exact ⟨⟨_, _, rfl, .inr (.inr rfl)⟩, .sp rfl hr⟩
  | 3, _ => exact ⟨⟨_, _, rfl, .inl rfl⟩, .sp rfl (.sp rfl hr)⟩
  | 4, _ =>
    refine ⟨⟨_, _, rfl, .inl rfl⟩, .sp rfl (.com ?_)⟩
    show Lex _ (10 :: R) ts e
    exact .sp rfl hr
  | 5, _ => exact ⟨⟨_, _, rfl, .inr (.inl rfl)⟩, .sp rfl (.sp rfl hr)⟩
  | k + 6, h => omega
theorem sep_len (c : Nat) : (sepOf c).length ≤ 10 := by
  have hs : ∀ g ∈ sepS, (lS g).length ≤ 10 := by decide +kernel
  exact hs _ (getD_mem (by show _ < 6; omega))
/-- the law's text and what is due, behind j pieces; C j: the j-th cell -/
def txtOf (C : Nat → Nat) : Nat → List Nat
  | 0 => []
  | j + 1 => txtOf C j ++ (lawTok (C j)).2 ++ sepOf (C j)
def dueOf (C : Nat → Nat) : Nat → List (Tk × Nat)
  | 0 => []
  | j + 1 => dueOf C j ++ [((lawTok (C j)).1, (txtOf C j).length)]
theorem lex_text (C : Nat → Nat) : ∀ (j : Nat) (R : List Nat) (ts : List (Tk × Nat)) (e : Option Nat), Lex (txtOf C j).length R ts e → Lex 0 (txtOf C j ++ R) (dueOf C j ++ ts) e
  | 0, R, ts, e, h => h
  | j + 1, R, ts, e, h => by
    have e1 : txtOf C (j + 1) ++ R = txtOf C j ++ ((lawTok (C j)).2 ++ (sepOf (C j) ++ R)) := by simp [txtOf]
    have e2 : dueOf C (j + 1) ++ ts = dueOf C j ++ (((lawTok (C j)).1, (txtOf C j).length) :: ts) := by simp [dueOf]
    rw [e1, e2]
    refine lex_text C j _ _ _ ?_
    have hl : (txtOf C (j + 1)).length = (txtOf C j).length + (lawTok (C j)).2.length + (sepOf (C j)).length := by simp [txtOf]; omega
    rw [hl] at h
    obtain ⟨⟨x, S, hx, hb⟩, h2⟩ := lex_sep (C j) h
    refine lex_tok ?_ ?_ h2
    · rw [hx]
      exact lawTok_lex (C j) hb
    · intro z
      have := (lawTok_len (C j)).1
      rw [z] at this
      simp at this
theorem txt_len (C : Nat → Nat) : ∀ j, (txtOf C j).length ≤ 26 * j
  | 0 => Nat.le_refl _
  | j + 1 => by
    have h1 := txt_len C j
    have h2 := (lawTok_len (C j)).2
    have h3 := sep_len (C j)
    simp [txtOf]
    omega
theorem due_len (C : Nat → Nat) : ∀ j, (dueOf C j).length = j
  | 0 => rfl
  | j + 1 => by simp [dueOf, due_len C j]
theorem cut_last (l : List Nat) : cutS (uS l) (some (0 - (if (l.length : Int) < 6 then (l.length : Int) else 6))) none = uS (last6 l) := by
  have hl : (uS l).length = l.length := rfl
  unfold cutS last6
  rw [HT.sIx_none, hl]
  have e : HT.sIx l.length 0 (some (0 - (if (l.length : Int) < 6 then (l.length : Int) else 6))) = l.length - min 6 l.length := by
    show (if (0 - (if (l.length : Int) < 6 then (l.length : Int) else 6)) < 0 then ((0 - (if (l.length : Int) < 6 then (l.length : Int) else 6)) + (l.length : Int)).toNat else min (0 - (if (l.length : Int) < 6 then (l.length : Int) else 6)).toNat l.length) = _
    split <;> split <;> omega
  rw [e]
  show uS ((l.drop (l.length - min 6 l.length)).take (l.length - (l.length - min 6 l.length))) = _
  rw [List.take_of_length_le (by rw [List.length_drop]; omega)]
theorem numS_len {n : Nat} (h : n < 1000000) : (numS n).length ≤ 10 := by
  have := KT.len_num (n := (n : Int)) (by omega) (by omega)
  exact this
theorem zers_len (k : Nat) (h : k < 3) : (lS (zers.getD k "")).length ≤ 2 := by
  have hs : ∀ g ∈ zers, (lS g).length ≤ 2 := by decide +kernel
  exact hs _ (getD_mem (show k < zers.length from h))
theorem dig_lt : ∀ (l : List Nat) (a : Nat), (∀ c ∈ l, isDigit c = true) → l.foldl (fun acc c => acc * 10 + (c - 48)) a < (a + 1) * 10 ^ l.length
  | [], a, _ => by simp
  | c :: l, a, h => by
    have h1 := dig_lt l (a * 10 + (c - 48)) fun d hd => h d (List.mem_cons_of_mem _ hd)
    have hc := isDigit_ok (h c List.mem_cons_self)
    rw [List.foldl_cons, List.length_cons, Nat.pow_succ]
    refine Nat.lt_of_lt_of_le h1 ?_
    have : (a * 10 + (c - 48) + 1) * 10 ^ l.length ≤ ((a + 1) * 10) * 10 ^ l.length := Nat.mul_le_mul_right _ (by omega)
    rw [Nat.mul_assoc] at this
    rw [Nat.mul_comm (10 ^ l.length) 10]
    exact this
theorem digV_lt {l : List Nat} (h : ∀ c ∈ l, isDigit c = true) : digV l < 10 ^ l.length := by
  have := dig_lt l 0 h
  rw [Nat.zero_add, Nat.one_mul] at this
  exact this
theorem lawTok_ok (c : Nat) : (lawTok c).1.ok := by
  have pl : ∀ l : List Nat, (∀ b ∈ l, inName b = true) → l.length ≤ 16 → Plain (uS l) ∧ (uS l).length ≤ 16 := fun l h1 h2 => ⟨fun b hb => by
    have := h1 b hb
    unfold inName isLetter isDigit at this
    simp at this
    omega, h2⟩
  unfold lawTok
  split
  · have m : RES.getD (c / 5 % 16) "" ∈ RES := getD_mem (by show _ < 16; omega)
    obtain ⟨_, h3, h4⟩ := RES_facts _ m
    exact pl _ h3 h4
  · split
    · obtain ⟨a, h1, h2, h3, h4⟩ := lawW_facts (c / 5)
      show (if uS (lawW (c / 5)) ∈ RES then Tk.word (uS (lawW (c / 5))) else Tk.name (uS (lawW (c / 5)))).ok
      split <;> exact pl _ h3 h4
    · split
      · obtain ⟨h1, h2, h3⟩ := sh_facts (c / 5)
        obtain ⟨g1, g2, _⟩ := pt_facts (c / 5)
        constructor
        · refine Nat.lt_of_lt_of_le (digV_lt (l := shOf (c / 5) ++ ptOf (c / 5)) fun a ha => (List.mem_append.mp ha).elim (h2 a) (g1 a)) (Nat.pow_le_pow_right (by decide) ?_)
          rw [List.length_append]; omega
        · exact Nat.lt_of_le_of_lt (Nat.pow_le_pow_right (by decide) g2) (by decide)
      · have hs : ∀ g ∈ SIG, Plain g ∧ g.length ≤ 16 := by unfold Plain; decide +kernel
        exact hs _ (getD_mem (by show _ < 16; omega))
theorem due_ok (C : Nat → Nat) : ∀ (j : Nat) (t : Tk × Nat), t ∈ dueOf C j → t.1.ok ∧ t.2 ≤ 26 * j
  | 0, t, h => by cases h
  | j + 1, t, h => by
    rcases List.mem_append.mp h with h | h
    · obtain ⟨h1, h2⟩ := due_ok C j t h
      exact ⟨h1, by omega⟩
    · have e : t = ((lawTok (C j)).1, (txtOf C j).length) := by simpa using h
      subst e
      have := txt_len C j
      exact ⟨lawTok_ok _, by show (txtOf C j).length ≤ _; omega⟩
theorem bad_lex (k i : Nat) (hk : k < 12) : Lex i (lS (bads.getD k "") ++ lS " x") [] (some i) := by
  have h : ∀ b ∈ bads, tok1 (lS b ++ lS " x") = none ∧ lS b ≠ [] ∧ isSp ((lS b).headD 0) = false ∧ (lS b).headD 0 ≠ 35 := by decide +kernel
  obtain ⟨h1, h2, h3, h4⟩ := h (bads.getD k "") (getD_mem (show k < bads.length from hk))
  cases hl : lS (bads.getD k "") with
  | nil => exact absurd hl h2
  | cons a l =>
    rw [hl] at h1 h3 h4
    exact .bad h3 h4 h1
theorem hash_lex (n i : Nat) : Lex i (List.replicate n 35) [] none := by
  cases n with
  | zero => exact .nil
  | succ n =>
    refine .com ?_
    have e : (List.replicate n 35).takeWhile notNl = List.replicate n 35 := by
      rw [List.takeWhile_replicate]
      rfl
    have e2 : (List.replicate n 35).drop ((List.replicate n 35).takeWhile notNl).length = [] := by
      rw [e, List.length_replicate]
      simp
    rw [e2]
    exact .nil
end Al
namespace Al
open PySem PySem.Spec PyProof.Rows L2 NdefX PySem.W
/-! ### pieces of a text and their tokens, whatever stands behind -/
structure Brk (x : Nat) : Prop where
  b1 : inName x = false
  b2 : isDigit x = false
  b3 : x ≠ 46
theorem brk_of {x : Nat} (h : (!inName x && (!isDigit x && !decide (x = 46))) = true) : Brk x := by
  rw [Bool.and_eq_true, Bool.and_eq_true] at h
  exact ⟨by simpa using h.1, by simpa using h.2.1, by simpa using h.2.2⟩
theorem word_lexB {w : List Nat} {c : Nat} {x : Nat} {R : List Nat} (h0 : w.head? = some c) (hc : isLetter c = true) (hw : ∀ a ∈ w, inName a = true) (hl : w.length ≤ 16) (hx : Brk x) :
    tok1 (w ++ x :: R) = some (if uS w ∈ RES then .word (uS w) else .name (uS w), w.length) := by
  cases w with
  | nil => cases h0
  | cons c' w =>
    cases h0
    have e := tw_app (r := R) hx.b1 (c :: w) hw
    show (if isLetter c = true then wordTok ((c :: w) ++ x :: R) else _) = _
    rw [if_pos hc]
    unfold wordTok
    rw [e]
    by_cases hm : uS (c :: w) ∈ RES
    · rw [if_pos hm, if_pos hm]
    · rw [if_neg hm, if_neg hm, if_neg (by omega)]
theorem num_lexB {sh pt : List Nat} {x : Nat} {R : List Nat} (h0 : sh ≠ []) (h1 : ∀ a ∈ sh, isDigit a = true) (h2 : ∀ a ∈ pt, isDigit a = true) (h3 : sh.length ≤ 6) (h4 : pt.length ≤ 4) (hx : Brk x) :
    tok1 ((sh ++ (if pt = [] then [] else [46]) ++ pt) ++ x :: R) = some (.num (digV (sh ++ pt)) (10 ^ pt.length), (sh ++ (if pt = [] then [] else [46]) ++ pt).length) := by
  obtain ⟨b1, b2, b3⟩ := hx
  have head : ∀ T, tok1 (sh ++ T) = numTok (sh ++ T) := fun T => by
    cases sh with
    | nil => exact absurd rfl h0
    | cons c s =>
      have hc := h1 c List.mem_cons_self
      show (if isLetter c = true then _ else if isDigit c = true then _ else _) = _
      rw [if_neg (by rw [letter_not_digit hc]; decide), if_pos hc] <;> rfl
  by_cases hp : pt = []
  · subst hp
    simp only [if_true, List.append_nil]
    rw [head]
    have e := tw_app (r := R) b2 sh h1
    have e2 : (sh ++ x :: R).drop sh.length = x :: R := by simp
    have e3 : partOf (x :: R) = [] := by
      cases R with
      | nil => rfl
      | cons d r =>
        show (if x = 46 ∧ isDigit d = true then _ else _) = _
        rw [if_neg (fun z => b3 z.1)]
    unfold numTok numLen
    rw [e, e2, e3]
    simp only [if_true, Nat.add_zero, List.length_nil, List.append_nil]
    rw [e2, if_neg]
    · rintro (z | z | z)
      · omega
      · omega
      · have : inName x = true := z
        rw [b1] at this; cases this
  · rw [if_neg hp]
    have ea : sh ++ [46] ++ pt ++ x :: R = sh ++ 46 :: (pt ++ x :: R) := by simp
    rw [ea, head]
    have e := tw_app (r := pt ++ x :: R) (by decide : isDigit 46 = false) sh h1
    have e2 : (sh ++ 46 :: (pt ++ x :: R)).drop sh.length = 46 :: (pt ++ x :: R) := by simp
    have e3 : partOf (46 :: (pt ++ x :: R)) = pt := by
      cases pt with
      | nil => exact absurd rfl hp
      | cons d r =>
        show (if 46 = 46 ∧ isDigit d = true then ((d :: r) ++ x :: R).takeWhile isDigit else []) = _
        rw [if_pos ⟨rfl, h2 d List.mem_cons_self⟩]
        exact tw_app b2 (d :: r) h2
    unfold numTok numLen
    rw [e, e2, e3, if_neg hp]
    have e4 : (sh ++ 46 :: (pt ++ x :: R)).drop (sh.length + (1 + pt.length)) = x :: R := by
      have : sh ++ 46 :: (pt ++ x :: R) = (sh ++ 46 :: pt) ++ x :: R := by simp
      rw [this]
      have hl : sh.length + (1 + pt.length) = (sh ++ 46 :: pt).length := by simp; omega
      rw [hl, List.drop_left]
    rw [e4, if_neg]
    · have hl : sh.length + (1 + pt.length) = (sh ++ [46] ++ pt).length := by simp; omega
      rw [hl]
    · rintro (z | z | z)
      · omega
      · omega
      · have : inName x = true := z
        rw [b1] at this; cases this
theorem int_lexB {sh : List Nat} {x : Nat} {R : List Nat} (h0 : sh ≠ []) (h1 : ∀ a ∈ sh, isDigit a = true) (h3 : sh.length ≤ 6) (hx : Brk x) : tok1 (sh ++ x :: R) = some (.num (digV sh) 1, sh.length) := by
  have := num_lexB (pt := []) (R := R) h0 h1 (fun a ha => by cases ha) h3 (by decide) hx
  simpa using this
theorem lex_sp {i c : Nat} {R : List Nat} {ts : List (Tk × Nat)} {e : Option Nat} (h : isSp c = true) (hr : Lex (i + 1) R ts e) : Lex i (c :: R) ts e := .sp h hr
/-- a text's tokens, then what stands behind: pieces put together -/
def LexP (p : Nat → Prop) (w : List Nat) (g : Nat → TS1) : Prop := ∀ (i x : Nat) (R : List Nat) (ts : TS1) (e : Option Nat), p x → Lex (i + w.length) (x :: R) ts e → Lex i (w ++ x :: R) (g i ++ ts) e
theorem lexP_one {p : Nat → Prop} {w : List Nat} {t : Tk} (hw : w ≠ []) (h : ∀ x R, p x → tok1 (w ++ x :: R) = some (t, w.length)) : LexP p w fun i => [(t, i)] := fun i x R ts e hx hr => lex_tok (h x R hx) hw hr
def nameOk (z : Str) : Bool := (match lS z with
  | c :: w => isLetter c && ((c :: w).all inName && decide ((c :: w).length ≤ 16))
  | [] => false) && !decide (z ∈ RES)
theorem name_lexB {z : Str} {x : Nat} {R : List Nat} (h : nameOk z = true) (hx : Brk x) : tok1 (lS z ++ x :: R) = some (.name z, (lS z).length) := by
  unfold nameOk at h
  rw [Bool.and_eq_true] at h
  obtain ⟨h, hr⟩ := h
  have hr : ¬ z ∈ RES := by simpa using hr
  cases hl : lS z with
  | nil => rw [hl] at h; cases h
  | cons c w =>
    rw [hl] at h
    have h : (isLetter c && ((c :: w).all inName && decide ((c :: w).length ≤ 16))) = true := h
    rw [Bool.and_eq_true, Bool.and_eq_true] at h
    have e := word_lexB (w := c :: w) (R := R) rfl h.1 (fun a ha => List.all_eq_true.mp h.2.1 a ha) (of_decide_eq_true h.2.2) hx
    rw [e]
    have ez : uS (c :: w) = z := by rw [← hl]; rfl
    rw [ez, if_neg hr]
theorem res_lexB {z : Str} {x : Nat} {R : List Nat} (h : z ∈ RES) (hx : Brk x) : tok1 (lS z ++ x :: R) = some (.word z, (lS z).length) := by
  obtain ⟨⟨a, h1, h2⟩, h3, h4⟩ := RES_facts _ h
  rw [word_lexB h1 h2 h3 h4 hx, if_pos (show uS (lS z) ∈ RES from h)]
  rfl
theorem sign_lexA {k : Nat} {R : List Nat} (hk : k < 16) (h2 : k ≠ 2) (h3 : k ≠ 3) : tok1 (lS (SIG.getD k "") ++ R) = some (.sign (SIG.getD k ""), (lS (SIG.getD k "")).length) := by
  match k, hk with
  | 0, _ => rfl
  | 1, _ => rfl
  | 2, _ => omega
  | 3, _ => omega
  | 4, _ => rfl
  | 5, _ => rfl
  | 6, _ => rfl
  | 7, _ => rfl
  | 8, _ => rfl
  | 9, _ => rfl
  | 10, _ => rfl
  | 11, _ => rfl
  | 12, _ => rfl
  | 13, _ => rfl
  | 14, _ => rfl
  | 15, _ => rfl
  | k + 16, h => omega
theorem lex_name {z : Str} {i x : Nat} {R : List Nat} {ts : TS1} {e : Option Nat} (h : nameOk z = true) (hx : Brk x) (hr : Lex (i + (lS z).length) (x :: R) ts e) : Lex i (lS z ++ x :: R) ((.name z, i) :: ts) e :=
  lex_tok (name_lexB h hx) (fun q => by unfold nameOk at h; rw [q] at h; cases h) hr
theorem lex_word {z : Str} {i x : Nat} {R : List Nat} {ts : TS1} {e : Option Nat} (h : z ∈ RES) (hx : Brk x) (hr : Lex (i + (lS z).length) (x :: R) ts e) : Lex i (lS z ++ x :: R) ((.word z, i) :: ts) e :=
  lex_tok (res_lexB h hx) (fun q => by obtain ⟨⟨a, h1, h2⟩, h3, h4⟩ := RES_facts _ h; rw [q] at h1; cases h1) hr
theorem lex_sign {k i : Nat} {R : List Nat} {ts : TS1} {e : Option Nat} (hk : k < 16) (h2 : k ≠ 2) (h3 : k ≠ 3) (hr : Lex (i + (lS (SIG.getD k "")).length) R ts e) : Lex i (lS (SIG.getD k "") ++ R) ((.sign (SIG.getD k ""), i) :: ts) e := by
  refine lex_tok (sign_lexA hk h2 h3) (fun q => ?_) hr
  have hs : ∀ g ∈ SIG, lS g ≠ [] := by decide +kernel
  exact hs _ (getD_mem (show k < SIG.length from hk)) q
end Al
namespace Al
open PySem PySem.Spec PyProof.Rows L2 NdefX PySem.W
/-! ### k02: the law's text in plain Lean -/
def ops10 : List Op2 := [.or, .and, .lt, .le, .eq, .add, .sub, .mul, .div, .add]
def seps2 : List Str := [" ", "\n "]
def rawOp (c : Nat) : Op2 := ops10.getD (c % 10) .or
def sep2 (c : Nat) : List Nat := lS (seps2.getD (c / 10 % 2) "")
def fixOp (b : Bool) (p : Op2) : Op2 := if b = true ∧ p.tier = 2 then .mul else p
def nextB (b : Bool) (p : Op2) : Bool := decide (p.tier = 2) || (b && !decide (p.tier < 2))
def opd2 (c : Nat) : Opd := if c / 20 % 4 = 1 then .num (digV (numS (c / 80 % 1000))) else if c / 20 % 4 = 2 then .call else if c / 20 % 4 = 3 then .pow else .x
def opdT (c : Nat) : List Nat := if c / 20 % 4 = 1 then numS (c / 80 % 1000) else if c / 20 % 4 = 2 then lS "f(y)" else if c / 20 % 4 = 3 then lS "x^2^-3" else lS "x"
structure S2 where
  txt : List Nat
  ch : List Lk
  cmp : Bool
def nx2 (s : S2) (c : Nat) : S2 := ⟨s.txt ++ sep2 c ++ lS (fixOp s.cmp (rawOp c)).txt ++ [32] ++ opdT c,
  s.ch ++ [⟨fixOp s.cmp (rawOp c), (s.txt ++ sep2 c).length, opd2 c, (s.txt ++ sep2 c ++ lS (fixOp s.cmp (rawOp c)).txt ++ [32]).length⟩], nextB s.cmp (fixOp s.cmp (rawOp c))⟩
def st2 (C : Nat → Nat) : Nat → S2
  | 0 => ⟨lS "show " ++ opdT (C 0), [], false⟩
  | k + 1 => nx2 (st2 C k) (C (k + 1))
/-! the flag keeps one comparison between words -/
def cokF (b : Bool) (ch : List Lk) : Bool := ch.foldl (fun b l => nextB b l.op) b
theorem cok_snoc (l : Lk) : ∀ (ch : List Lk) (b : Bool), cok b ch → (cokF b ch = true → l.op.tier ≠ 2) → cok b (ch ++ [l])
  | [], b, _, h => by
    show cok b [l]
    unfold cok
    split
    · rename_i h2
      refine ⟨?_, trivial⟩
      cases b with
      | false => rfl
      | true => exact absurd h2 (h rfl)
    · split <;> trivial
  | x :: r, b, hc, h => by
    show cok b (x :: (r ++ [l]))
    unfold cok at hc ⊢
    have h : cokF (nextB b x.op) r = true → l.op.tier ≠ 2 := h
    split
    · rename_i h2
      rw [if_pos h2] at hc
      have e : nextB b x.op = true := by unfold nextB; rw [decide_eq_true h2]; rfl
      rw [e] at h
      exact ⟨hc.1, cok_snoc l r true hc.2 h⟩
    · rename_i h2
      rw [if_neg h2] at hc
      split
      · rename_i h3
        rw [if_pos h3] at hc
        have e : nextB b x.op = false := by unfold nextB; rw [decide_eq_false h2, decide_eq_true h3]; simp
        rw [e] at h
        exact cok_snoc l r false hc h
      · rename_i h3
        rw [if_neg h3] at hc
        have e : nextB b x.op = b := by unfold nextB; rw [decide_eq_false h2, decide_eq_false h3]; simp
        rw [e] at h
        exact cok_snoc l r b hc h
theorem st2_cok (C : Nat → Nat) : ∀ k, cok false (st2 C k).ch ∧ cokF false (st2 C k).ch = (st2 C k).cmp ∧ (st2 C k).ch.length = k
  | 0 => ⟨trivial, rfl, rfl⟩
  | k + 1 => by
    obtain ⟨h1, h2, h3⟩ := st2_cok C k
    refine ⟨cok_snoc _ _ _ h1 fun h => ?_, ?_, ?_⟩
    · rw [h2] at h
      show (fixOp (st2 C k).cmp (rawOp (C (k + 1)))).tier ≠ 2
      rw [h]
      unfold fixOp
      split
      · decide
      · rename_i z
        exact fun q => z ⟨rfl, q⟩
    · show cokF false ((st2 C k).ch ++ [_]) = nextB (st2 C k).cmp _
      unfold cokF
      rw [List.foldl_append]
      have h2 : (st2 C k).ch.foldl (fun b l => nextB b l.op) false = (st2 C k).cmp := h2
      rw [h2]
      rfl
    · show ((st2 C k).ch ++ [_]).length = k + 1
      rw [List.length_append, h3]
      rfl
/-! the tokens of the text -/
def After (x : Nat) : Prop := x = 32 ∨ x = 10 ∨ x = 59
theorem After.brk {x : Nat} (h : After x) : Brk x := by
  rcases h with rfl | rfl | rfl <;> exact brk_of (by decide)
theorem numS3 (m : Nat) (h : m < 1000) : (numS m).length ≤ 6 := by
  have : ∀ m < 1000, (numS m).length ≤ 6 := by decide +kernel
  exact this m h
theorem opd_lex (c : Nat) {i x : Nat} {R : List Nat} {ts : TS1} {e : Option Nat} (hx : After x) (hr : Lex (i + (opdT c).length) (x :: R) ts e) : Lex i (opdT c ++ x :: R) ((opd2 c).toks i ++ ts) e := by
  unfold opdT opd2 at *
  split
  · rename_i h1
    rw [if_pos h1] at hr
    exact lex_tok (int_lexB (numS_ne _) (numS_digits _) (numS3 _ (by omega)) hx.brk) (numS_ne _) hr
  · rename_i h1
    rw [if_neg h1] at hr
    split
    · rename_i h2
      rw [if_pos h2] at hr
      exact lex_name (z := "f") (by decide +kernel) (brk_of (by decide)) (lex_sign (k := 12) (by decide) (by decide) (by decide)
        (lex_name (z := "y") (x := 41) (by decide +kernel) (brk_of (by decide)) (lex_sign (k := 13) (by decide) (by decide) (by decide) hr)))
    · rename_i h2
      rw [if_neg h2] at hr
      split
      · rename_i h3
        rw [if_pos h3] at hr
        refine lex_name (z := "x") (x := 94) (by decide +kernel) (brk_of (by decide)) (lex_sign (k := 8) (by decide) (by decide) (by decide) ?_)
        refine lex_tok (w := [50]) (R := 94 :: 45 :: 51 :: x :: R) (t := .num 2 1) (int_lexB (by decide) (by decide) (by decide) (brk_of (by decide))) (by decide) (lex_sign (k := 8) (R := 45 :: 51 :: x :: R) (by decide) (by decide) (by decide) (lex_sign (k := 5) (R := 51 :: x :: R) (by decide) (by decide) (by decide) ?_))
        exact lex_tok (w := [51]) (R := x :: R) (t := .num 3 1) (int_lexB (by decide) (by decide) (by decide) hx.brk) (by decide) hr
      · rename_i h3
        rw [if_neg h3] at hr
        exact lex_name (z := "x") (by decide +kernel) hx.brk hr
theorem op_lex (p : Op2) {i : Nat} {R : List Nat} {ts : TS1} {e : Option Nat} (hr : Lex (i + (lS p.txt).length + 1) R ts e) : Lex i (lS p.txt ++ 32 :: R) ((p.tk, i) :: ts) e := by
  have h32 : Lex (i + (lS p.txt).length) (32 :: R) ts e := .sp rfl hr
  have b : Brk 32 := brk_of (by decide)
  cases p with
  | or => exact lex_word (z := "or") (by decide +kernel) b h32
  | and => exact lex_word (z := "and") (by decide +kernel) b h32
  | lt => exact lex_tok (w := lS "<") (sign_lex (k := 3) (by decide) (.inl rfl)) (by decide) h32
  | le => exact lex_sign (k := 0) (by decide) (by decide) (by decide) h32
  | eq => exact lex_sign (k := 1) (by decide) (by decide) (by decide) h32
  | add => exact lex_sign (k := 4) (by decide) (by decide) (by decide) h32
  | sub => exact lex_sign (k := 5) (by decide) (by decide) (by decide) h32
  | mul => exact lex_sign (k := 6) (by decide) (by decide) (by decide) h32
  | div => exact lex_sign (k := 7) (by decide) (by decide) (by decide) h32
theorem sep2_lex (c : Nat) {i : Nat} {R : List Nat} {ts : TS1} {e : Option Nat} (hr : Lex (i + (sep2 c).length) R ts e) : (∃ x S, sep2 c ++ R = x :: S ∧ After x) ∧ Lex i (sep2 c ++ R) ts e := by
  have h2 : c / 10 % 2 < 2 := by omega
  unfold sep2 at *
  generalize c / 10 % 2 = k at *
  match k, h2 with
  | 0, _ => exact ⟨⟨_, _, rfl, .inl rfl⟩, .sp rfl hr⟩
  | 1, _ => exact ⟨⟨_, _, rfl, .inr (.inl rfl)⟩, .sp rfl (.sp rfl hr)⟩
  | k + 2, h => omega
theorem lex_st2 (C : Nat → Nat) : ∀ (k : Nat) {x : Nat} {R : List Nat} {ts : TS1} {e : Option Nat}, After x → Lex (st2 C k).txt.length (x :: R) ts e → Lex 0 ((st2 C k).txt ++ x :: R) ((.word "show", 0) :: (toksC (opd2 (C 0)) 5 (st2 C k).ch ++ ts)) e
  | 0, x, R, ts, e, hx, hr => by
    have h1 : Lex 5 (opdT (C 0) ++ x :: R) ((opd2 (C 0)).toks 5 ++ ts) e := opd_lex (C 0) hx (by
      have : (lS "show " ++ opdT (C 0)).length = 5 + (opdT (C 0)).length := by rw [List.length_append]; rfl
      rw [← this]; exact hr)
    have h2 : Lex 0 (lS "show" ++ 32 :: (opdT (C 0) ++ x :: R)) ((.word "show", 0) :: ((opd2 (C 0)).toks 5 ++ ts)) e := lex_word (by decide +kernel) (brk_of (by decide)) (.sp rfl h1)
    have e1 : (st2 C 0).txt ++ x :: R = lS "show" ++ 32 :: (opdT (C 0) ++ x :: R) := rfl
    have e2 : toksC (opd2 (C 0)) 5 (st2 C 0).ch ++ ts = (opd2 (C 0)).toks 5 ++ ts := by
      show ((opd2 (C 0)).toks 5 ++ []) ++ ts = _
      rw [List.append_nil]
    rw [e1, e2]
    exact h2
  | k + 1, x, R, ts, e, hx, hr => by
    have ih : ∀ (x : Nat) (R : List Nat) (ts : TS1) (e : Option Nat), After x → Lex (st2 C k).txt.length (x :: R) ts e → Lex 0 ((st2 C k).txt ++ x :: R) ((.word "show", 0) :: (toksC (opd2 (C 0)) 5 (st2 C k).ch ++ ts)) e := fun x R ts e => lex_st2 C k
    generalize hc : C (k + 1) = c
    have hst : st2 C (k + 1) = nx2 (st2 C k) c := by rw [← hc]; rfl
    rw [hst] at hr ⊢
    generalize hs : st2 C k = s at *
    generalize hp : fixOp s.cmp (rawOp c) = p at *
    have e0 : (nx2 s c).txt = s.txt ++ sep2 c ++ lS p.txt ++ [32] ++ opdT c := by unfold nx2; rw [hp]
    have e1 : (nx2 s c).txt ++ x :: R = s.txt ++ (sep2 c ++ (lS p.txt ++ 32 :: (opdT c ++ x :: R))) := by rw [e0]; simp
    have e2 : toksC (opd2 (C 0)) 5 (nx2 s c).ch ++ ts = toksC (opd2 (C 0)) 5 s.ch ++ ((p.tk, (s.txt ++ sep2 c).length) :: ((opd2 c).toks (s.txt ++ sep2 c ++ lS p.txt ++ [32]).length ++ ts)) := by
      unfold nx2 toksC
      rw [hp]
      simp
    rw [e1, e2]
    rw [e0] at hr
    have l1 : (s.txt ++ sep2 c ++ lS p.txt ++ [32] ++ opdT c).length = (s.txt ++ sep2 c ++ lS p.txt ++ [32]).length + (opdT c).length := List.length_append
    rw [l1] at hr
    have h1 := opd_lex c hx hr
    have l2 : (s.txt ++ sep2 c ++ lS p.txt ++ [32]).length = (s.txt ++ sep2 c).length + (lS p.txt).length + 1 := by
      rw [List.length_append, List.length_append]; rfl
    rw [l2] at h1
    have h2 := op_lex p h1
    rw [← l2] at h2
    have l3 : (s.txt ++ sep2 c).length = s.txt.length + (sep2 c).length := List.length_append
    rw [l3] at h2
    obtain ⟨⟨y, S, hy, ha⟩, h3⟩ := sep2_lex c h2
    rw [← l3] at h3
    rw [hy] at h3 ⊢
    exact ih _ _ _ _ ha h3
end Al
namespace Al
open PySem PySem.Spec PyProof.Rows L2 NdefX PySem.W
/-! ### more tools: calls within a comprehension, paired lists, frames, loops' readings -/
theorem pe_calN {X : Cx} {x : Str} {p pos : Pos} {k : Nat} {ps : List Str} {sp : Sp} {e : Expr} {es : List Expr} {ta : TA} (G : Cal X.prog X.w X.K X.mg X.base k x ps sp) (hr : Room k X.A) (ha : PA X (e :: es) ta) (hg : Gl X x := by rfl)
    (hdb : (x == ("__debug__" : Str)) = false := by decide) (he : starEach (e :: es) X.env = (false, eval e X.env) :: starEach es X.env := by rfl) (hpl : (backTo pos (starEach es X.env)).any (·.1) = false := by rfl) :
    PE X (.Call (.Name x p) (e :: es) [] pos) (tCallS sp (fun _ => E0) ta) := by
  obtain ⟨f, fd, hm, hk, hb, F⟩ := G.ex
  refine pe_callS F hr hg hm hk hb (fun σ => ?_) ha hdb he hpl
  rintro _ _ _ _ _ _ ⟨_, _, _, _, _, _, _, _, _, _, _, _, z⟩
  exact z.elim
inductive All2 {α β : Type} (R : α → β → Prop) : List α → List β → Prop
  | nil : All2 R [] []
  | cons {a : α} {b : β} {as : List α} {bs : List β} : R a b → All2 R as bs → All2 R (a :: as) (b :: bs)
namespace All2
variable {α β : Type} {R S : α → β → Prop}
theorem len : ∀ {as : List α} {bs : List β}, All2 R as bs → as.length = bs.length
  | _, _, .nil => rfl
  | _, _, .cons _ t => congrArg (· + 1) t.len
theorem app : ∀ {as cs : List α} {bs ds : List β}, All2 R as bs → All2 R cs ds → All2 R (as ++ cs) (bs ++ ds)
  | _, _, _, _, .nil, h => h
  | _, _, _, _, .cons a b, h => .cons a (b.app h)
theorem mono (h : ∀ a b, R a b → S a b) : ∀ {as : List α} {bs : List β}, All2 R as bs → All2 S as bs
  | _, _, .nil => .nil
  | _, _, .cons a t => .cons (h _ _ a) (t.mono h)
theorem get : ∀ {as : List α} {bs : List β} {i : Nat} {b : β}, All2 R as bs → bs[i]? = some b → ∃ a, as[i]? = some a ∧ R a b
  | _, _, _, _, .nil, h => by simp at h
  | _, _, 0, _, .cons a _, h => by
    simp at h; subst h; exact ⟨_, rfl, a⟩
  | _, _, i + 1, _, .cons _ t, h => by
    obtain ⟨v, h1, h2⟩ := get (i := i) t (by simpa using h)
    exact ⟨v, by simpa using h1, h2⟩
theorem split {as : List α} {b : β} : ∀ {bs : List β}, All2 R as (bs ++ [b]) → ∃ cs a, as = cs ++ [a] ∧ All2 R cs bs ∧ R a b
  | [], h => by
    cases h with
    | cons a t => cases t; exact ⟨[], _, rfl, .nil, a⟩
  | c :: bs, h => by
    cases h with
    | cons a t =>
      obtain ⟨cs, a', rfl, h1, h2⟩ := split (bs := bs) t
      exact ⟨_ :: cs, a', rfl, .cons a h1, h2⟩
end All2
/-! rules with the written part named (within a comprehension) -/
section
variable {X : Cx} {K : Frag}
theorem ix_listK (h : X.K = K) : IxR X (rIxL K) := by subst h; exact ix_list
theorem ix_tupK (h : X.K = K) : IxR X (rIxT K) := by subst h; exact ix_tup
theorem op_in_seqK (h : X.K = K) : OpR X (compareOp .In) (rIn K false) := by subst h; exact op_in_seq
theorem op_notIn_seqK (h : X.K = K) : OpR X (compareOp .NotIn) (rIn K true) := by subst h; exact op_notIn_seq
theorem call_len_seqK (h : X.K = K) : CallR X (.builtin "len") (fun xs H Q => ∃ p ys, xs = [.ref p] ∧ (SqL K H p ys ∨ SqT K H p ys) ∧ Q (.int ys.length) H) := by subst h; exact call_len_seq
theorem pe_fldK {e : Expr} {ta : TE} {f : Str} {pos : Pos} (h : X.K = K) (he : PE X e ta) (hb : attributeBase e f X.env (eval e X.env) = eval e X.env) : PE X (.Attribute e f pos) (tFld K ta f) := by subst h; exact pe_fld he hb
end
/-! all but two lists stand -/
structure Fr (x y : Addr) (H H' : Hp) : Prop where
  fr : ∀ b u, b ≠ x → b ≠ y → H b = some u → H' b = some u
  kp : Keep H H'
theorem Fr.trans {x y : Addr} {H H1 H2 : Hp} (a : Fr x y H H1) (b : Fr x y H1 H2) : Fr x y H H2 := ⟨fun c u h1 h2 h => b.fr c u h1 h2 (a.fr c u h1 h2 h), a.kp.trans b.kp⟩
theorem Fr.same {x y : Addr} {H H' : Hp} (s : Same H H') : Fr x y H H' := ⟨fun b u _ _ h => s b u h, Same.keep s⟩
theorem Fr.new {x y p : Addr} {H : Hp} {o : HO} (h : H p = none) : Fr x y H (upd H p o) := .same (Same.new h)
theorem Fr.setx {x y : Addr} {H : Hp} {us : List V} {o : HO} (h : H x = some (.lst us)) : Fr x y H (upd H x o) := ⟨fun b u h1 _ hb => (upd_ne h1).trans hb, Keep.mut h fun xs z => nomatch z⟩
theorem Fr.sety {x y : Addr} {H : Hp} {us : List V} {o : HO} (h : H y = some (.lst us)) : Fr x y H (upd H y o) := ⟨fun b u _ h1 hb => (upd_ne h1).trans hb, Keep.mut h fun xs z => nomatch z⟩
section
variable {ta : TA} {tl : TE} {g : TG} {tb : TS} {D : Ends} {σ : L2.St} {H : Hp} {K : Frag}
def LoopW (J : It) (g : TG) (tb : TS) (D : Ends) (σ : L2.St) (H1 : Hp) : Prop := ∃ W : Nat → Nat → L2.St → Hp → Prop, (∃ m, W 0 m σ H1) ∧ ∀ i m σ H, W i m σ H →
  (J.stop i H ∧ D.nx σ H) ∨ (J.go i H ∧ ∃ N : L2.St → Hp → Prop, (∀ σ' H', N σ' H' → ∃ m', m' < m ∧ W (i + 1) m' σ' H') ∧ ∀ x H', J.yld i H x H' → g x σ H' fun σ2 H2 => tb { D with nx := N, ct := N, bk := D.nx } σ2 H2)
theorem r_rng1 (h : ta σ H fun vs H1 => ∃ j : Int, vs = [.int j] ∧ -(2 ^ 62) ≤ j ∧ j < 2 ^ 62 ∧ LoopW (Itr 0 j.toNat) g tb D σ H1) : tFor (iRng1 ta) g tb D σ H := h
theorem r_rng2 (h : ta σ H fun vs H1 => ∃ i j : Int, vs = [.int i, .int j] ∧ (-(2 ^ 62) ≤ i ∧ i < 2 ^ 62 ∧ -(2 ^ 62) ≤ j ∧ j < 2 ^ 62) ∧ LoopW (Itr i (j - i).toNat) g tb D σ H1) : tFor (iRng2 ta) g tb D σ H := h
theorem r_forL (h : tl σ H fun x H1 => ∃ a, x = .ref a ∧ (∃ xs, SqL K H1 a xs) ∧ LoopW (Itl K a) g tb D σ H1) : tFor (iList K tl) g tb D σ H := h
theorem r_forT (h : tl σ H fun x H1 => ∃ a, x = .ref a ∧ (∃ xs, SqT K H1 a xs) ∧ LoopW (Itt K a) g tb D σ H1) : tFor (iTup K tl) g tb D σ H := h
theorem r_gsub {to ti : TE} {t : TSet} {v : V} {Q : L2.St → Hp → Prop} (h : to σ H fun o H1 => ti σ H1 fun i H2 => t o i v H2 fun H3 => Q σ H3) : gSub to ti t v σ H Q := h
theorem r_cat {p q : Addr} {xs ys : List V} {Q : VK} (h1 : H p = some (.lst xs)) (h2 : H q = some (.lst ys)) (hl : xs.length + ys.length ≤ 1000000) (k : ∀ r, H r = none → Q (.ref r) (upd H r (.lst (xs ++ ys)))) : rCat (.ref p) (.ref q) H Q :=
  ⟨p, q, xs, ys, rfl, rfl, h1, h2, Nat.le_trans hl (by decide), k⟩
theorem r_setL {p : Addr} {xs : List V} {n : Nat} {v : V} {Q : Hp → Prop} (h : H p = some (.lst xs)) (hn : n < xs.length) (k : Q (upd H p (.lst (xs.set n v)))) : rSetL (.ref p) (.int (n : Int)) v H Q := by
  refine ⟨p, xs, _, n, rfl, rfl, h, ?_, k⟩
  unfold ixN
  rw [if_pos (by omega), if_pos (by omega)]
  simp
theorem r_dget {td ty : TE} {Q : VK} (h : td σ H fun x H1 => ty σ H1 fun y H2 => ∃ a v, x = .ref a ∧ DGet H2 a y (some v) ∧ Q v H2) : tDGet td ty σ H Q := h
theorem r_disp {trs : List (TE × TE)} {Q : VK} (h : ∀ p, H p = none → tPairs trs σ (upd H p (.dK [])) fun ps H2 => H2 p = some (.dK []) ∧ ∃ kvs : List (Key × V), ps = kvs.map (fun kv => (kV kv.1, kv.2)) ∧ kvs.length ≤ 15 ∧ Q (.ref p) (upd H2 p (.dK (mergeK [] kvs)))) : tDisp trs σ H Q := h
theorem r_pnil {Q : List (V × V) → Hp → Prop} (h : Q [] H) : tPairs [] σ H Q := h
theorem r_pcons {tk tv : TE} {r : List (TE × TE)} {Q : List (V × V) → Hp → Prop} (h : tk σ H fun x H1 => tv σ H1 fun y H2 => tPairs r σ H2 fun ps H3 => Q ((x, y) :: ps) H3) : tPairs ((tk, tv) :: r) σ H Q := h
/-- what a comprehension over J asks -/
def LcW (J : It) (g : TG) (tt : TT) (te : TE) (vs : List Nat) (σ : L2.St) (H1 : Hp) (D : Addr) (Qd : Hp → Prop) : Prop := ∃ W : Nat → Nat → Hp → Prop, (∃ m, W 0 m (upd H1 D (.lst []))) ∧ ∀ i m H, W i m H →
  (J.stop i H ∧ Qd H) ∨ (J.go i H ∧ ∃ Nx : Hp → Prop, (∀ H', Nx H' → ∃ m', m' < m ∧ W (i + 1) m' H') ∧ ∀ x H', J.yld i H x H' → g x (wipe σ vs) H' fun σ2 H2 => wipe σ2 vs = wipe σ vs ∧ tt σ2 H2 fun b H3 =>
    if b = true then te σ2 H3 fun y H4 => ∃ acc, H4 D = some (.lst acc) ∧ acc.length < sizeLine ∧ Nx (upd H4 D (.lst (acc ++ [y]))) else Nx H3)
theorem r_lcL {tt : TT} {te : TE} {vs : List Nat} {Q : VK} (h : tl σ H fun x H1 => ∃ a, x = .ref a ∧ (∃ xs, SqL K H1 a xs) ∧ ∀ D, H1 D = none → LcW (Itl K a) g tt te vs σ H1 D (fun H => Q (.ref D) H)) : tLc (iList K tl) g tt te vs σ H Q := h
theorem r_lcT {tt : TT} {te : TE} {vs : List Nat} {Q : VK} (h : tl σ H fun x H1 => ∃ a, x = .ref a ∧ (∃ xs, SqT K H1 a xs) ∧ ∀ D, H1 D = none → LcW (Itt K a) g tt te vs σ H1 D (fun H => Q (.ref D) H)) : tLc (iTup K tl) g tt te vs σ H Q := h
theorem r_lcR {tt : TT} {te : TE} {vs : List Nat} {Q : VK} (h : ta σ H fun vs' H1 => ∃ n : Int, vs' = [.int n] ∧ -(2 ^ 62) ≤ n ∧ n < 2 ^ 62 ∧ ∀ D, H1 D = none → LcW (Itr 0 n.toNat) g tt te vs σ H1 D (fun H => Q (.ref D) H)) : tLc (iRng1 ta) g tt te vs σ H Q := h
theorem r_yes {Q : Bool → Hp → Prop} (h : Q true H) : tYes σ H Q := h
theorem wipe1 (σ : L2.St) (j : Nat) (x : Option V) : wipe ((wipe σ [j]).set j x) [j] = wipe σ [j] := by
  show ((σ.set j none).set j x).set j none = σ.set j none
  rw [List.set_set, List.set_set]
/-- over a list, one name, no test -/
theorem lcw_list {a D : Addr} {xs : List V} {te : TE} {j : Nat} {H1 : Hp} {Qd : Hp → Prop} (Pv : Nat → Hp → Prop) (h0 : Pv 0 (upd H1 D (.lst []))) (hl : ∀ i H, i ≤ xs.length → Pv i H → SqL K H a xs)
    (hs : ∀ i x H, xs[i]? = some x → Pv i H → te ((wipe σ [j]).set j (some x)) H fun y H4 => ∃ acc, H4 D = some (.lst acc) ∧ acc.length < sizeLine ∧ Pv (i + 1) (upd H4 D (.lst (acc ++ [y]))))
    (hd : ∀ H, Pv xs.length H → Qd H) : LcW (Itl K a) (gName j) tYes te [j] σ H1 D Qd := by
  refine lc_list Pv h0 hl (fun i x H hx h => ?_) hd
  refine ⟨wipe1 σ j (some x), ?_⟩
  show tYes _ _ _
  refine r_yes ?_
  rw [if_pos rfl]
  exact hs i x H hx h
theorem lcw_range {D : Addr} {lo : Int} {n : Nat} {te : TE} {j : Nat} {H1 : Hp} {Qd : Hp → Prop} (Pv : Nat → Hp → Prop) (h0 : Pv 0 (upd H1 D (.lst [])))
    (hs : ∀ i H, i < n → Pv i H → te ((wipe σ [j]).set j (some (.int (lo + (i : Int))))) H fun y H4 => ∃ acc, H4 D = some (.lst acc) ∧ acc.length < sizeLine ∧ Pv (i + 1) (upd H4 D (.lst (acc ++ [y]))))
    (hd : ∀ H, Pv n H → Qd H) : LcW (Itr lo n) (gName j) tYes te [j] σ H1 D Qd := by
  refine lc_range Pv h0 (fun i H hx h => ?_) hd
  refine ⟨wipe1 σ j _, ?_⟩
  show tYes _ _ _
  refine r_yes ?_
  rw [if_pos rfl]
  exact hs i H hx h
theorem r_lenL {p : Addr} {xs : List V} {Q : VK} (h : SqL K H p xs) (k : Q (.int (xs.length : Int)) H) : ∃ (p' : Addr) (ys : List V), [V.ref p] = [.ref p'] ∧ (SqL K H p' ys ∨ SqT K H p' ys) ∧ Q (.int (ys.length : Int)) H := ⟨p, xs, rfl, .inl h, k⟩
end
end Al
namespace Al
open PySem PySem.Spec PyProof.Rows L2 NdefX PySem.W
local macro_rules | `(tactic| walk_at "rd1") => `(tactic| with_reducible first
  | (show tVar _ _ _ _; refine r_var (by with_unfolding_all rfl) ?_) | refine r_c ?_ | refine r_op ?_ | refine r_I0 ?_ | refine r_un ?_ | refine r_U ?_
  | (show rI _ _ _ _ _ _; refine r_I (by with_unfolding_all first | exact ⟨by decide, by decide⟩ | (show (0 : Int) < _; decide)) ?_)
  | refine r_eqI ?_ | refine r_neI ?_ | refine r_eqS ?_ | refine r_neS ?_ | refine r_eqB ?_ | refine r_neB ?_ | refine r_chain ?_
  | refine r_test ?_ | refine r_B ?_ | refine r_bl ?_ | refine r_int ?_ | refine r_and ?_ | refine r_or ?_ | refine r_not ?_ | refine r_andV ?_ | refine r_orV ?_ | refine r_notV ?_
  | refine r_if ?_ | refine r_nil ?_ | refine r_cons ?_ | refine r_cb ?_ | refine r_call ?_ | refine r_callS ?_ | refine r_tup ?_ | refine r_lst ?_ | refine r_seq ?_ | refine r_next ?_ | refine r_asg ?_
  | refine r_name ?_ | refine r_ifS ?_ | refine r_ret ?_ | refine r_retN ?_ | refine r_drop ?_ | refine r_brk ?_ | refine r_ct ?_ | refine r_sl ?_ | refine r_part ?_ | refine r_nopart ?_
  | refine r_bm ?_ | refine r_bm0 ?_ | refine r_raiseX ?_ | refine r_mkO ?_ | refine iteF ?_ | refine iteT ?_ | refine r_int1 ?_ | refine r_int1b ?_ | (show _ ≤ sizeLine ∧ _; refine r_sz (by with_unfolding_all first | omega | (simp only [List.length_cons, List.length_nil]; omega)) ?_)
  | (show ∃ _, _; refine ⟨_, rfl, ?_⟩) | (show ∃ _, _; refine ⟨_, _, rfl, rfl, ?_⟩) | (show ∃ _, _; refine ⟨_, _, rfl, ?_⟩))
local macro_rules | `(tactic| walk_at "rd") => `(tactic| repeat (walk_at "rd1"))
local macro_rules | `(tactic| walk_at "rd2") => `(tactic| with_reducible first
  | (show tFld _ _ _ _ _ _; refine r_fldI (by with_unfolding_all rfl) (by with_unfolding_all assumption) (by with_unfolding_all assumption) (by with_unfolding_all assumption) (by with_unfolding_all rfl) ?_)
  | (show tMetS _ _ _ _ _ _ _ _ _; refine r_rm (by with_unfolding_all assumption) (by with_unfolding_all rfl) (by decide) ?_)
  | refine r_sfl ?_ | refine iteNF ?_ | refine iteNT ?_ | refine r_makS ?_)
local macro_rules | `(tactic| walk_at "rp") => `(tactic| repeat first | walk_at "rd1" | walk_at "rd2")
local macro_rules | `(tactic| walk_at "rq1") => `(tactic| with_reducible first | refine r_rng1 ?_ | refine r_rng2 ?_ | refine r_forL ?_ | refine r_forT ?_ | refine r_dget ?_ | refine r_pnil ?_ | refine r_pcons ?_ | refine r_lcL ?_ | refine r_lcT ?_ | refine r_lcR ?_ | refine r_yes ?_ | refine r_disp ?_)
local macro_rules | `(tactic| walk_at "rq") => `(tactic| repeat first | walk_at "rd1" | walk_at "rd2" | walk_at "rq1")

/-! ### k02: the law's makers walked -/
/-! groups in the heap -/
abbrev Sg : Type := Op2 × Nat
def Lk.sg (l : Lk) : Sg := (l.op, l.at_)
def Lk.pd (l : Lk) : PyData := l.q.tree l.j
def SgX (x y : Addr) (H : Hp) (v : V) (s : Sg) : Prop := ∃ a, v = .ref a ∧ a ≠ x ∧ a ≠ y ∧ H a = some (.lst [.str s.1.txt, .int (s.2 : Int)])
structure GrX (x y : Addr) (H : Hp) (v : V) (t : PyData × List Lk) : Prop where
  ex : ∃ g pl sl us ws, v = .ref g ∧ g ≠ x ∧ g ≠ y ∧ pl ≠ x ∧ pl ≠ y ∧ sl ≠ x ∧ sl ≠ y ∧ H g = some (.lst [.ref pl, .ref sl]) ∧ H pl = some (.lst us) ∧ H sl = some (.lst ws) ∧ TpAll H us (t.1 :: t.2.map Lk.pd) ∧ All2 (SgX x y H) ws (t.2.map Lk.sg)
theorem SgX.fr {x y : Addr} {H H' : Hp} {v : V} {s : Sg} (h : SgX x y H v s) (f : Fr x y H H') : SgX x y H' v s := by
  obtain ⟨a, h1, h2, h3, h4⟩ := h
  exact ⟨a, h1, h2, h3, f.fr a _ h2 h3 h4⟩
theorem GrX.fr {x y : Addr} {H H' : Hp} {v : V} {t : PyData × List Lk} (h : GrX x y H v t) (f : Fr x y H H') : GrX x y H' v t := by
  obtain ⟨g, pl, sl, us, ws, e, a1, a2, a3, a4, a5, a6, h1, h2, h3, h4, h5⟩ := h.ex
  exact ⟨g, pl, sl, us, ws, e, a1, a2, a3, a4, a5, a6, f.fr g _ a1 a2 h1, f.fr pl _ a3 a4 h2, f.fr sl _ a5 a6 h3, h4.keep f.kp, h5.mono fun a b h => h.fr f⟩
/-! the groups as they grow -/
def grps (p0 : PyData) (c : List Lk × List Gr) : List (PyData × List Lk) := (p0, c.1) :: c.2.map fun r => (r.l.pd, r.g)
def step1 (w : Nat) (c : List Lk × List Gr) (l : Lk) : List Lk × List Gr :=
  if l.op.tier = w then (c.1, c.2 ++ [⟨l, []⟩])
  else match c.2.getLast? with
    | none => (c.1 ++ [l], [])
    | some r => (c.1, c.2.dropLast ++ [⟨r.l, r.g ++ [l]⟩])
theorem cut_snoc (w : Nat) (l : Lk) : ∀ ch : List Lk, cut w (ch ++ [l]) = step1 w (cut w ch) l
  | [] => by
    show cut w [l] = step1 w ([], []) l
    unfold cut step1
    by_cases h : l.op.tier = w
    · rw [if_pos h, if_pos h]; rfl
    · rw [if_neg h, if_neg h]; rfl
  | x :: r => by
    have ih := cut_snoc w l r
    show cut w (x :: (r ++ [l])) = _
    have e1 : ∀ t, cut w (x :: t) = if x.op.tier = w then ([], ⟨x, (cut w t).1⟩ :: (cut w t).2) else (x :: (cut w t).1, (cut w t).2) := fun _ => rfl
    rw [e1, e1, ih]
    generalize cut w r = c
    obtain ⟨c1, c2⟩ := c
    unfold step1
    by_cases hx : x.op.tier = w
    · rw [if_pos hx, if_pos hx]
      by_cases h : l.op.tier = w
      · rw [if_pos h, if_pos h]; rfl
      · rw [if_neg h, if_neg h]
        cases hq : c2.getLast? with
        | none =>
          have : c2 = [] := List.getLast?_eq_none_iff.mp hq
          subst this
          rfl
        | some y =>
          obtain ⟨d, rfl⟩ : ∃ d, c2 = d ++ [y] := List.getLast?_eq_some_iff.mp hq
          have e2 : (({ l := x, g := c1 } : Gr) :: (d ++ [y])).getLast? = some y := by
            rw [← List.cons_append]; exact List.getLast?_concat
          simp only [e2]
          have e3 : (({ l := x, g := c1 } : Gr) :: (d ++ [y])).dropLast = { l := x, g := c1 } :: d := by
            rw [← List.cons_append]; exact List.dropLast_concat
          rw [e3, List.dropLast_concat]
          rfl
    · rw [if_neg hx, if_neg hx]
      by_cases h : l.op.tier = w
      · rw [if_pos h, if_pos h]
      · rw [if_neg h, if_neg h]
        cases hq : c2.getLast? with
        | none => rfl
        | some y => rfl
theorem grps_new (p0 : PyData) (c : List Lk × List Gr) (w : Nat) (l : Lk) (h : l.op.tier = w) : grps p0 (step1 w c l) = grps p0 c ++ [(l.pd, [])] := by
  unfold step1 grps
  rw [if_pos h]
  simp
theorem grps_old (p0 : PyData) (c : List Lk × List Gr) (w : Nat) (l : Lk) (h : l.op.tier ≠ w) : ∃ d t, grps p0 c = d ++ [t] ∧ grps p0 (step1 w c l) = d ++ [(t.1, t.2 ++ [l])] ∧ (step1 w c l).2.map (fun r => r.l.sg) = c.2.map fun r => r.l.sg := by
  obtain ⟨c1, c2⟩ := c
  unfold step1 grps
  rw [if_neg h]
  cases hq : c2.getLast? with
  | none =>
    have : c2 = [] := List.getLast?_eq_none_iff.mp hq
    subst this
    exact ⟨[], _, rfl, rfl, rfl⟩
  | some y =>
    obtain ⟨d, rfl⟩ : ∃ d, c2 = d ++ [y] := List.getLast?_eq_some_iff.mp hq
    refine ⟨(p0, c1) :: d.map fun r => (r.l.pd, r.g), (y.l.pd, y.g), by simp, ?_, ?_⟩
    · rw [List.dropLast_concat]; simp
    · rw [List.dropLast_concat]; simp
theorem cut_len3 (w : Nat) : ∀ ch : List Lk, (cut w ch).1.length ≤ ch.length ∧ ∀ r ∈ (cut w ch).2, r.g.length ≤ ch.length
  | [] => ⟨Nat.le_refl _, fun _ h => by cases h⟩
  | l :: r => by
    obtain ⟨h1, h2⟩ := cut_len3 w r
    unfold cut
    split
    · refine ⟨Nat.zero_le _, fun u hu => ?_⟩
      rcases List.mem_cons.mp hu with rfl | hu
      · exact Nat.le_succ_of_le h1
      · exact Nat.le_succ_of_le (h2 u hu)
    · exact ⟨Nat.succ_le_succ h1, fun u hu => Nat.le_succ_of_le (h2 u hu)⟩
theorem grps_len (w : Nat) (p0 : PyData) (ch : List Lk) (t : PyData × List Lk) (h : t ∈ grps p0 (cut w ch)) : t.2.length ≤ ch.length := by
  obtain ⟨h1, h2⟩ := cut_len3 w ch
  rcases List.mem_cons.mp h with rfl | h
  · exact h1
  · obtain ⟨r, hr, rfl⟩ := List.mem_map.mp h
    exact h2 r hr
theorem cut_len2 (w : Nat) : ∀ ch : List Lk, (cut w ch).2.length ≤ ch.length
  | [] => Nat.le_refl _
  | l :: r => by
    have := cut_len2 w r
    unfold cut
    split
    · show (cut w r).2.length + 1 ≤ r.length + 1
      omega
    · show (cut w r).2.length ≤ r.length + 1
      omega
def lvls : List (List Str) := [["or"], ["and"], ["<", "<=", "=="], ["+", "-"], ["*", "/"]]
theorem lvl_tier (p : Op2) {w : Nat} (h : w < 5) : decide (p.txt ∈ lvls.getD w []) = decide (p.tier = w) := by
  have : ∀ w < 5, ∀ p ∈ ([.or, .and, .lt, .le, .eq, .add, .sub, .mul, .div] : List Op2), decide (p.txt ∈ lvls.getD w []) = decide (p.tier = w) := by decide +kernel
  exact this w h p (by cases p <;> simp)
def spLawCell (K : Frag) : Sp := fun vs H Q _ => ∃ (a : Addr) (ns : List Int) (k : Nat), vs = [.ref a, .int (k : Int)] ∧ SqL K H a (ns.map V.int) ∧ Q (.int (ns.getD k 0)) H
structure ChX (H : Hp) (a b : Addr) (p0 : PyData) (ch : List Lk) : Prop where
  ex : ∃ us ws, H a = some (.lst us) ∧ H b = some (.lst ws) ∧ TpAll H us (p0 :: ch.map Lk.pd) ∧ (∃ x y, All2 (SgX x y H) ws (ch.map Lk.sg)) ∧ ch.length ≤ 1000
def spGroup : Sp := fun vs H Q _ => ∃ (a b c : Addr) (p0 : PyData) (ch : List Lk) (w : Nat), vs = [.ref a, .ref b, .ref c] ∧ ChX H a b p0 ch ∧ w < 5 ∧ H c = some (.lst ((lvls.getD w []).map V.str)) ∧
  ∀ p gl fl gs fs H', Same H H' → H' p = some (.lst [.ref gl, .ref fl]) → H' gl = some (.lst gs) → H' fl = some (.lst fs) → All2 (GrX gl fl H') gs (grps p0 (cut w ch)) → All2 (SgX gl fl H') fs ((cut w ch).2.map fun r => r.l.sg) → Q (.ref p) H'
section
variable {P : Program} {w : World} {K : Frag} {mg : Str → Option Value} {base : Heap}
abbrev s_law_cell : Stmt := top 40
theorem sc_law_cell : FnScope ["_law_script", "_law_k"] ["_law_script", "_law_k"] (defScope s_law_cell) := ⟨rfl, rfl, rfl, by decide +kernel, rfl, by decide +kernel, by decide +kernel⟩
theorem cal_law_cell (dx : DefAt K mg "_law_cell" s_law_cell) (B : Bl mg) : Cal P w K mg base 1 "_law_cell" ["_law_script", "_law_k"] (spLawCell K) := by
  refine cal_mk dx sc_law_cell (fun _ _ _ _ _ _ us hl => match us, hl with | [_, _], _ => rfl) (fun vs H Q E h => ?_) (fun f cdv A outer s H vs Q E hr h => ?_)
  · obtain ⟨a, ns, k, rfl, _⟩ := h
    rfl
  · obtain ⟨a, ns, k, rfl, hS, kq⟩ := h
    refine ⟨_, (pss_cons (ps_if (pt_cmpR op_lt (pv 1) (pe_callB call_len_seq (by rfl) B.len PySem.boot_len (pa_cons (pv 0) pa_nil)) (nomark _))
      (pss_one (ps_ret (pe_callTy call_int1 (by rfl) B.int (by decide +kernel) (pa_cons (pe_ix ix_list (pv 0) (pv 1) (fun _ _ => rfl)) pa_nil))))
      pss_nil)
      (pss_one (ps_ret pe_int))), ?_⟩
    walk_at "rq"
    refine ⟨_, _, rfl, .inl hS, ?_⟩
    walk_at "rq"
    rw [List.length_map]
    refine r_ite (fun h1 => ?_) (fun h1 => ?_) <;> walk_at "rq"
    · have h1' := of_decide_eq_true h1
      have hk : k < ns.length := by omega
      refine r_ixL hS (v := .int ns[k]) (by rw [List.getElem?_map, List.getElem?_eq_getElem hk] <;> rfl) ?_
      walk_at "rq"
      rw [List.getD_eq_getElem?_getD, List.getElem?_eq_getElem hk] at kq
      exact kq
    · have h1' := of_decide_eq_false h1
      rw [List.getD_eq_getElem?_getD, List.getElem?_eq_none (by omega)] at kq
      exact kq
abbrev s_law_group : Stmt := top 41
theorem sc_law_group : FnScope ["_law_parts", "_law_signs", "_law_wanted", "_law_groups", "_law_found", "_law_k", "_law_last"] ["_law_parts", "_law_signs", "_law_wanted"] (defScope s_law_group) := ⟨rfl, rfl, rfl, by decide +kernel, rfl, by decide +kernel, by decide +kernel⟩
theorem cal_law_group (dx : DefAt K mg "_law_group" s_law_group) (B : Bl mg) : Cal P w K mg base 1 "_law_group" ["_law_parts", "_law_signs", "_law_wanted"] spGroup := by
  refine cal_mk dx sc_law_group (fun _ _ _ _ _ _ us hl => match us, hl with | [_, _, _], _ => rfl) (fun vs H Q E h => ?_) (fun f cdv A outer s H vs Q E hr h => ?_)
  · obtain ⟨a, b, c, p0, ch, w, rfl, _⟩ := h
    rfl
  · obtain ⟨a, b, c, p0, ch, lv, rfl, hch, hlv, hc, k⟩ := h
    obtain ⟨us, ws, ha, hb, hus, ⟨x0, y0, hws⟩, hlen⟩ := hch.ex
    have hwl : ws.length = ch.length := by rw [hws.len, List.length_map]
    refine ⟨_, (pss_cons (ps_set (i := 3) sc_law_group.nd rfl (Or.inl rfl) (pe_lst (pa_cons (pe_lst (pa_cons (pe_lst (pa_cons (pe_ix ix_list (pv 0) pe_int (fun _ _ => rfl)) pa_nil)) (pa_cons (pe_lst pa_nil) pa_nil))) pa_nil)))
      (pss_cons (ps_set (i := 4) sc_law_group.nd rfl (Or.inl rfl) (pe_lst pa_nil))
      (pss_cons (ps_for (passes_of rfl) rfl (pi_range1 (by rfl) B.range (pa_cons (pe_callB call_len_seq (by rfl) B.len PySem.boot_len (pa_cons (pv 1) pa_nil)) pa_nil)) (pg_name (i := 5) sc_law_group.nd rfl (Or.inl rfl))
      (pss_one (ps_if (pt_cmpR op_in_seq (pe_ix ix_list (pe_ix ix_list (pv 1) (pv 5) (fun _ _ => rfl)) pe_int (fun _ _ => rfl)) (pv 2) (by rfl))
      (pss_cons (ps_expr (pe_bm PySem.F.plainAttrs_list PySem.F.slot_list_append PySem.F.type_list_append mt_append (pv 4) (pa_cons (pe_ix ix_list (pv 1) (pv 5) (fun _ _ => rfl)) pa_nil)))
      (pss_one (ps_expr (pe_bm PySem.F.plainAttrs_list PySem.F.slot_list_append PySem.F.type_list_append mt_append (pv 3) (pa_cons (pe_lst (pa_cons (pe_lst (pa_cons (pe_ix ix_list (pv 0) (pe_op op_add (pv 5) pe_int) (fun _ _ => rfl)) pa_nil)) (pa_cons (pe_lst pa_nil) pa_nil))) pa_nil)))))
      (pss_cons (ps_set (i := 6) sc_law_group.nd rfl (Or.inl rfl) (pe_ix ix_list (pv 3) (pe_op op_sub (pe_callB call_len_seq (by rfl) B.len PySem.boot_len (pa_cons (pv 3) pa_nil)) pe_int) (fun _ _ => rfl)))
      (pss_one (ps_asg (pe_lst (pa_cons (pe_op op_cat (pe_ix ix_list (pv 6) pe_int (fun _ _ => rfl)) (pe_lst (pa_cons (pe_ix ix_list (pv 0) (pe_op op_add (pv 5) pe_int) (fun _ _ => rfl)) pa_nil))) (pa_cons (pe_op op_cat (pe_ix ix_list (pv 6) pe_int (fun _ _ => rfl)) (pe_lst (pa_cons (pe_ix ix_list (pv 1) (pv 5) (fun _ _ => rfl)) pa_nil))) pa_nil))) (pg_sub (pv 3) (pe_op op_sub (pe_callB call_len_seq (by rfl) B.len PySem.boot_len (pa_cons (pv 3) pa_nil)) pe_int) set_list)))))))
      (pss_one (ps_ret (pe_lst (pa_cons (pv 3) (pa_cons (pv 4) pa_nil)))))))), ?_⟩
    walk_at "rq"
    obtain ⟨u0, hu0, ht0⟩ := hus.get (i := 0) rfl
    refine r_ixL (n := 0) (SqL.of ha) hu0 ?_
    walk_at "rq"
    intro p1 hp1
    have a1 : upd H p1 (.lst [u0]) p1 = some (.lst [u0]) := upd_same
    have s1 : Same H (upd H p1 (.lst [u0])) := Same.new hp1
    generalize upd H p1 (.lst [u0]) = H1 at *
    walk_at "rq"
    intro p2 hp2
    have a2 : upd H1 p2 (.lst []) p2 = some (.lst []) := upd_same
    have s2 : Same H1 (upd H1 p2 (.lst [])) := Same.new hp2
    generalize upd H1 p2 (.lst []) = H2 at *
    walk_at "rq"
    intro p3 hp3
    have a3 : upd H2 p3 (.lst [.ref p1, .ref p2]) p3 = some (.lst [.ref p1, .ref p2]) := upd_same
    have s3 : Same H2 (upd H2 p3 (.lst [.ref p1, .ref p2])) := Same.new hp3
    generalize upd H2 p3 (.lst [.ref p1, .ref p2]) = H3 at *
    walk_at "rq"
    intro gl hgl
    have a4 : upd H3 gl (.lst [.ref p3]) gl = some (.lst [.ref p3]) := upd_same
    have s4 : Same H3 (upd H3 gl (.lst [.ref p3])) := Same.new hgl
    generalize upd H3 gl (.lst [.ref p3]) = H4 at *
    walk_at "rq"
    intro fl hfl
    have a5 : upd H4 fl (.lst []) fl = some (.lst []) := upd_same
    have s5 : Same H4 (upd H4 fl (.lst [])) := Same.new hfl
    generalize upd H4 fl (.lst []) = H5 at *
    walk_at "rq"
    have hH3 : Same H H3 := fun b o h => s3 _ _ (s2 _ _ (s1 _ _ h))
    have hH5 : Same H H5 := fun b o h => s5 _ _ (s4 _ _ (hH3 _ _ h))
    have none_of : ∀ {X : Hp} {q : Addr}, Same H X → X q = none → H q = none := fun {X q} hs hn => by
      cases e : H q with
      | none => rfl
      | some o => rw [hs _ _ e] at hn; cases hn
    have gN : H gl = none := none_of hH3 hgl
    have fN : H fl = none := none_of (fun b o h => s4 _ _ (hH3 _ _ h)) hfl
    have gf : gl ≠ fl := ne_of_none a4 hfl
    refine ⟨_, _, rfl, .inl (SqL.of (hH5 _ _ hb)), ?_⟩
    walk_at "rq"
    refine ⟨by omega, by omega, ?_⟩
    rw [show ((ws.length : Int)).toNat = ch.length by omega]
    refine for_range (lo := 0) (n := ch.length) (fun k σ' H' => ∃ gs fs v5 v6, σ' = [some (.ref a), some (.ref b), some (.ref c), some (.ref gl), some (.ref fl), v5, v6] ∧ Same H H' ∧ H' gl = some (.lst gs) ∧ H' fl = some (.lst fs) ∧
      All2 (GrX gl fl H') gs (grps p0 (cut lv (ch.take k))) ∧ All2 (SgX gl fl H') fs ((cut lv (ch.take k)).2.map fun r => r.l.sg)) ⟨[.ref p3], [], none, none, rfl, hH5, s5 _ _ a4, a5, ?_, .nil⟩ ?_ ?_
    · refine .cons ⟨p3, p1, p2, [u0], [], rfl, ?_, ?_, ?_, ?_, ?_, ?_, s5 _ _ (s4 _ _ a3), s5 _ _ (s4 _ _ (s3 _ _ (s2 _ _ a1))), s5 _ _ (s4 _ _ (s3 _ _ a2)), ?_, .nil⟩ .nil
      · exact ne_of_none a3 hgl
      · exact ne_of_none (s4 _ _ a3) hfl
      · exact ne_of_none (s3 _ _ (s2 _ _ a1)) hgl
      · exact ne_of_none (s4 _ _ (s3 _ _ (s2 _ _ a1))) hfl
      · exact ne_of_none (s3 _ _ a2) hgl
      · exact ne_of_none (s4 _ _ (s3 _ _ a2)) hfl
      · exact .cons (ht0.keep (Same.keep hH5)) .nil
    · rintro i σ' H' hi ⟨gs, fs, v5, v6, rfl, hs, hgs, hfs, hG, hF⟩
      have hfr := Fr.same (x := gl) (y := fl) hs
      have hl : ch[i]? = some ch[i] := List.getElem?_eq_getElem hi
      have htk : ch.take (i + 1) = ch.take i ++ [ch[i]] := by rw [List.take_succ, hl]; rfl
      generalize ch[i] = l at hl htk
      obtain ⟨w0, hw0, sa, rfl, _, _, hsa⟩ := hws.get (i := i) (b := l.sg) (by rw [List.getElem?_map, hl]; rfl)
      have hsx : SgX gl fl H' (.ref sa) l.sg := ⟨sa, rfl, ne_of_none hsa gN, ne_of_none hsa fN, hs _ _ hsa⟩
      have hsa' := hs _ _ hsa
      obtain ⟨u1, hu1, ht1⟩ := hus.get (i := i + 1) (d := l.pd) (by rw [List.getElem?_cons_succ, List.getElem?_map, hl]; rfl)
      have hlen1 : (cut lv (ch.take i)).2.length ≤ 1000 := Nat.le_trans (cut_len2 _ _) (by rw [List.length_take]; omega)
      have hgl1 : gs.length ≤ 1001 := by
        rw [hG.len]
        show ((cut lv (ch.take i)).2.map _).length + 1 ≤ 1001
        rw [List.length_map]; omega
      have hfl1 : fs.length ≤ 1000 := by rw [hF.len, List.length_map]; omega
      rw [show (0 : Int) + (i : Int) = ((i : Nat) : Int) by omega]
      walk_at "rq"
      refine r_ixL (SqL.of (hs _ _ hb)) hw0 ?_
      walk_at "rq"
      refine r_ixL (n := 0) (SqL.of hsa') rfl ?_
      walk_at "rq"
      refine ⟨c, _, rfl, .inl (SqL.of (hs _ _ hc)), rfl, flat_strs _, ?_⟩
      rw [inV_str, show l.sg.1.txt = l.op.txt from rfl, lvl_tier _ hlv]
      walk_at "rq"
      refine r_ite (fun h1 => ?_) (fun h1 => ?_)
      · have h1 := of_decide_eq_true h1
        walk_at "rq"
        refine ⟨.inl ⟨rfl, _, SqL.of hfs⟩, ?_⟩
        walk_at "rq"
        refine r_ixL (SqL.of (hs _ _ hb)) hw0 ?_
        refine ⟨fl, fs, .ref sa, rfl, rfl, hfs, by rw [sizeLine_eq]; omega, ?_⟩
        have f1 : Fr gl fl H' (upd H' fl (.lst (fs ++ [.ref sa]))) := Fr.sety hfs
        have b1 : upd H' fl (.lst (fs ++ [.ref sa])) fl = some (.lst (fs ++ [.ref sa])) := upd_same
        have b2 : upd H' fl (.lst (fs ++ [.ref sa])) gl = some (.lst gs) := (upd_ne gf).trans hgs
        have hs6 : Same H (upd H' fl (.lst (fs ++ [.ref sa]))) := Same.mut hs fN
        generalize upd H' fl (.lst (fs ++ [.ref sa])) = H6 at *
        walk_at "rq"
        refine ⟨.inl ⟨rfl, _, SqL.of b2⟩, ?_⟩
        walk_at "rq"
        refine r_ixL (n := i + 1) (SqL.of (hs6 _ _ ha)) hu1 ?_
        walk_at "rq"
        intro q1 hq1
        have c1 : upd H6 q1 (.lst [u1]) q1 = some (.lst [u1]) := upd_same
        have t1 : Same H6 (upd H6 q1 (.lst [u1])) := Same.new hq1
        generalize upd H6 q1 (.lst [u1]) = H7 at *
        walk_at "rq"
        intro q2 hq2
        have c2 : upd H7 q2 (.lst []) q2 = some (.lst []) := upd_same
        have t2 : Same H7 (upd H7 q2 (.lst [])) := Same.new hq2
        generalize upd H7 q2 (.lst []) = H8 at *
        walk_at "rq"
        intro q3 hq3
        have c3 : upd H8 q3 (.lst [.ref q1, .ref q2]) q3 = some (.lst [.ref q1, .ref q2]) := upd_same
        have t3 : Same H8 (upd H8 q3 (.lst [.ref q1, .ref q2])) := Same.new hq3
        generalize upd H8 q3 (.lst [.ref q1, .ref q2]) = H9 at *
        have t69 : Same H6 H9 := fun b o h => t3 _ _ (t2 _ _ (t1 _ _ h))
        walk_at "rq"
        refine ⟨gl, gs, .ref q3, rfl, rfl, t69 _ _ b2, by rw [sizeLine_eq]; omega, ?_⟩
        have f2 : Fr gl fl H9 (upd H9 gl (.lst (gs ++ [.ref q3]))) := Fr.setx (t69 _ _ b2)
        have f6 : Fr gl fl H' (upd H9 gl (.lst (gs ++ [.ref q3]))) := (f1.trans (Fr.same t69)).trans f2
        walk_at "rq"
        have cs : cut lv (ch.take (i + 1)) = step1 lv (cut lv (ch.take i)) l := by rw [htk, cut_snoc]
        have nG : ∀ {X : Hp} {q : Addr} {u : HO}, X gl = some u → X q = none → q ≠ gl := fun h1 h2 => Ne.symm (ne_of_none h1 h2)
        refine ⟨gs ++ [.ref q3], fs ++ [.ref sa], _, _, rfl, Same.mut (fun b o h => t69 _ _ (hs6 _ _ h)) gN, upd_same, (upd_ne (Ne.symm gf)).trans (t69 _ _ b1), ?_, ?_⟩
        · rw [cs, grps_new _ _ _ _ h1]
          refine (hG.mono fun _ _ h => h.fr f6).app (.cons ⟨q3, q1, q2, [u1], [], rfl, ?_, ?_, ?_, ?_, ?_, ?_, ?_, ?_, ?_, ?_, .nil⟩ .nil)
          · exact nG (t2 _ _ (t1 _ _ b2)) hq3
          · exact Ne.symm (ne_of_none (t2 _ _ (t1 _ _ b1)) hq3)
          · exact nG b2 hq1
          · exact Ne.symm (ne_of_none b1 hq1)
          · exact nG (t1 _ _ b2) hq2
          · exact Ne.symm (ne_of_none (t1 _ _ b1) hq2)
          · exact (upd_ne (nG (t2 _ _ (t1 _ _ b2)) hq3)).trans c3
          · exact (upd_ne (nG b2 hq1)).trans (t3 _ _ (t2 _ _ c1))
          · exact (upd_ne (nG (t1 _ _ b2) hq2)).trans (t3 _ _ c2)
          · exact .cons (((ht1.keep (Same.keep hs)).keep f6.kp)) .nil
        · have e : (cut lv (ch.take (i + 1))).2.map (fun r => r.l.sg) = (cut lv (ch.take i)).2.map (fun r => r.l.sg) ++ [l.sg] := by
            rw [cs]; unfold step1; rw [if_pos h1]; simp
          rw [e]
          exact (hF.mono fun _ _ h => h.fr f6).app (.cons (hsx.fr f6) .nil)
      · have h1 := of_decide_eq_false h1
        obtain ⟨d, t, e1, e2, e3⟩ := grps_old p0 (cut lv (ch.take i)) lv l h1
        have cs : cut lv (ch.take (i + 1)) = step1 lv (cut lv (ch.take i)) l := by rw [htk, cut_snoc]
        rw [e1] at hG
        obtain ⟨gd, v, rfl, hG1, hG2⟩ := All2.split hG
        obtain ⟨g, pl, sl, us1, ws1, rfl, n1, n2, n3, n4, n5, n6, g1, g2, g3, g4, g5⟩ := hG2.ex
        have hlast : (gd ++ [V.ref g])[gd.length]? = some (.ref g) := by simp
        have hll : (((gd ++ [V.ref g]).length : Nat) : Int) - 1 = ((gd.length : Nat) : Int) := by rw [List.length_append]; simp
        have hlt : us1.length ≤ 1001 ∧ ws1.length ≤ 1000 := by
          have tl : t.2.length ≤ 1000 := by
            have hm : t ∈ grps p0 (cut lv (ch.take i)) := by rw [e1]; simp
            exact Nat.le_trans (grps_len _ _ _ _ hm) (by rw [List.length_take]; omega)
          constructor
          · rw [g4.len, List.length_cons, List.length_map]; omega
          · rw [g5.len, List.length_map]; omega
        walk_at "rq"
        refine ⟨_, _, rfl, .inl (SqL.of hgs), ?_⟩
        walk_at "rq"
        rw [hll]
        refine r_ixL (SqL.of hgs) hlast ?_
        walk_at "rq"
        refine r_ixL (n := 0) (SqL.of g1) rfl ?_
        walk_at "rq"
        refine r_ixL (n := i + 1) (SqL.of (hs _ _ ha)) hu1 ?_
        walk_at "rq"
        intro q1 hq1
        have c1 : upd H' q1 (.lst [u1]) q1 = some (.lst [u1]) := upd_same
        have t1 : Same H' (upd H' q1 (.lst [u1])) := Same.new hq1
        generalize upd H' q1 (.lst [u1]) = H6 at *
        refine r_cat (t1 _ _ g2) c1 (by simp only [List.length_cons, List.length_nil]; omega) fun q2 hq2 => ?_
        have c2 : upd H6 q2 (.lst (us1 ++ [u1])) q2 = some (.lst (us1 ++ [u1])) := upd_same
        have t2 : Same H6 (upd H6 q2 (.lst (us1 ++ [u1]))) := Same.new hq2
        generalize upd H6 q2 (.lst (us1 ++ [u1])) = H7 at *
        walk_at "rq"
        refine r_ixL (n := 1) (SqL.of (t2 _ _ (t1 _ _ g1))) rfl ?_
        walk_at "rq"
        refine r_ixL (n := i) (SqL.of (t2 _ _ (t1 _ _ (hs _ _ hb)))) hw0 ?_
        walk_at "rq"
        intro q3 hq3
        have c3 : upd H7 q3 (.lst [.ref sa]) q3 = some (.lst [.ref sa]) := upd_same
        have t3 : Same H7 (upd H7 q3 (.lst [.ref sa])) := Same.new hq3
        generalize upd H7 q3 (.lst [.ref sa]) = H8 at *
        refine r_cat (t3 _ _ (t2 _ _ (t1 _ _ g3))) c3 (by simp only [List.length_cons, List.length_nil]; omega) fun q4 hq4 => ?_
        have c4 : upd H8 q4 (.lst (ws1 ++ [.ref sa])) q4 = some (.lst (ws1 ++ [.ref sa])) := upd_same
        have t4 : Same H8 (upd H8 q4 (.lst (ws1 ++ [.ref sa]))) := Same.new hq4
        generalize upd H8 q4 (.lst (ws1 ++ [.ref sa])) = H9 at *
        walk_at "rq"
        intro q5 hq5
        have c5 : upd H9 q5 (.lst [.ref q2, .ref q4]) q5 = some (.lst [.ref q2, .ref q4]) := upd_same
        have t5 : Same H9 (upd H9 q5 (.lst [.ref q2, .ref q4])) := Same.new hq5
        generalize upd H9 q5 (.lst [.ref q2, .ref q4]) = H10 at *
        have t9 : Same H' H9 := fun b o h => t4 _ _ (t3 _ _ (t2 _ _ (t1 _ _ h)))
        have t10 : Same H' H10 := fun b o h => t5 _ _ (t9 _ _ h)
        walk_at "rq"
        refine r_gsub ?_
        walk_at "rq"
        refine ⟨_, _, rfl, .inl (SqL.of (t10 _ _ hgs)), ?_⟩
        walk_at "rq"
        rw [hll]
        refine r_setL (t10 _ _ hgs) (by simp) ?_
        have eset : (gd ++ [V.ref g]).set gd.length (.ref q5) = gd ++ [.ref q5] := by simp
        rw [eset]
        have f2 : Fr gl fl H10 (upd H10 gl (.lst (gd ++ [.ref q5]))) := Fr.setx (t10 _ _ hgs)
        have f6 : Fr gl fl H' (upd H10 gl (.lst (gd ++ [.ref q5]))) := (Fr.same t10).trans f2
        have t7 : Same H' H7 := fun b o h => t2 _ _ (t1 _ _ h)
        have t8 : Same H' H8 := fun b o h => t3 _ _ (t7 _ _ h)
        refine ⟨gd ++ [.ref q5], fs, _, _, rfl, Same.mut (fun b o h => t10 _ _ (hs _ _ h)) gN, upd_same, (upd_ne (Ne.symm gf)).trans (t10 _ _ hfs), ?_, ?_⟩
        · rw [cs, e2]
          refine (hG1.mono fun _ _ h => h.fr f6).app (.cons ⟨q5, q2, q4, us1 ++ [u1], ws1 ++ [.ref sa], rfl, ?_, ?_, ?_, ?_, ?_, ?_, ?_, ?_, ?_, ?_, ?_⟩ .nil)
          · exact Ne.symm (ne_of_none (t9 _ _ hgs) hq5)
          · exact Ne.symm (ne_of_none (t9 _ _ hfs) hq5)
          · exact Ne.symm (ne_of_none (t1 _ _ hgs) hq2)
          · exact Ne.symm (ne_of_none (t1 _ _ hfs) hq2)
          · exact Ne.symm (ne_of_none (t8 _ _ hgs) hq4)
          · exact Ne.symm (ne_of_none (t8 _ _ hfs) hq4)
          · exact (upd_ne (Ne.symm (ne_of_none (t9 _ _ hgs) hq5))).trans c5
          · exact (upd_ne (Ne.symm (ne_of_none (t1 _ _ hgs) hq2))).trans (t5 _ _ (t4 _ _ (t3 _ _ c2)))
          · exact (upd_ne (Ne.symm (ne_of_none (t8 _ _ hgs) hq4))).trans (t5 _ _ c4)
          · rw [List.map_append, ← List.cons_append]
            exact (g4.keep f6.kp).app (.cons ((ht1.keep (Same.keep hs)).keep f6.kp) .nil)
          · rw [List.map_append]
            exact (g5.mono fun _ _ h => h.fr f6).app (.cons (hsx.fr f6) .nil)
        · rw [cs, e3]
          exact hF.mono fun _ _ h => h.fr f6
    · rintro σ' H' ⟨gs, fs, v5, v6, rfl, hs, hgs, hfs, hG, hF⟩
      rw [List.take_length] at hG hF
      walk_at "rq"
      intro p hp
      refine k p gl fl gs fs _ (fun b o h => Same.new hp _ _ (hs _ _ h)) upd_same (Same.new hp _ _ hgs) (Same.new hp _ _ hfs) (hG.mono fun _ _ h => h.fr (Fr.new hp)) (hF.mono fun _ _ h => h.fr (Fr.new hp))
/-! the tree -/
def grpO (o : Opd) (i : Nat) (c : List Lk × List Gr) : List (Opd × Nat × List Lk) := (o, i, c.1) :: c.2.map fun r => (r.l.q, r.l.j, r.g)
theorem grpO_eq (o : Opd) (i : Nat) (c : List Lk × List Gr) : grps (o.tree i) c = (grpO o i c).map fun t => (t.1.tree t.2.1, t.2.2) := by
  unfold grps grpO
  simp [Lk.pd]
def hdsK : List (Key × V) := [(.inr "or", .str "or"), (.inr "and", .str "and"), (.inr "<", .str "lt"), (.inr "<=", .str "le"), (.inr "==", .str "eq"), (.inr "+", .str "add"), (.inr "-", .str "sub"), (.inr "*", .str "mul"), (.inr "/", .str "div")]
theorem hds_merge : mergeK [] hdsK = hdsK := by with_unfolding_all rfl
theorem hds_get (p : Op2) : valV hdsK (.inr p.txt) = some (.str p.head) := by cases p <;> with_unfolding_all rfl
def spTree (n : Nat) : Sp := fun vs H Q _ => ∃ (f : Nat) (a b : Addr) (o : Opd) (i : Nat) (ch : List Lk), vs = [.ref a, .ref b, .int (5 - (f : Int))] ∧ f < n ∧ n ≤ 6 ∧ ChX H a b (o.tree i) ch ∧ ∀ v H', Same H H' → Tp H' v (tr f o i ch) → Q v H'
theorem chx_keep {H H' : Hp} {a b : Addr} {p0 : PyData} {ch : List Lk} (h : ChX H a b p0 ch) (s : Same H H') : ChX H' a b p0 ch := by
  obtain ⟨us, ws, h1, h2, h3, ⟨x, y, h4⟩, h5⟩ := h.ex
  exact ⟨us, ws, s _ _ h1, s _ _ h2, h3.keep (Same.keep s), ⟨x, y, h4.mono fun _ _ h => h.fr (Fr.same s)⟩, h5⟩
theorem grx_chx {H : Hp} {x y : Addr} {v : V} {p0 : PyData} {ch : List Lk} (h : GrX x y H v (p0, ch)) (hl : ch.length ≤ 1000) : ∃ g pl sl, v = .ref g ∧ H g = some (.lst [.ref pl, .ref sl]) ∧ ChX H pl sl p0 ch := by
  obtain ⟨g, pl, sl, us, ws, e, a1, a2, a3, a4, a5, a6, h1, h2, h3, h4, h5⟩ := h.ex
  exact ⟨g, pl, sl, e, h1, us, ws, h2, h3, h4, ⟨x, y, h5⟩, hl⟩
abbrev s_law_tree : Stmt := top 42
theorem sc_law_tree : FnScope ["_law_parts", "_law_signs", "_law_level", "_law_levels", "_law_heads", "_law_groups", "_law_found", "_law_trees", "_law_group_here", "_law_tree_here", "_law_k"] ["_law_parts", "_law_signs", "_law_level"] (defScope s_law_tree) := ⟨rfl, rfl, rfl, by decide +kernel, rfl, by decide +kernel, by decide +kernel⟩
theorem cal_law_tree0 (dx : DefAt K mg "_law_tree" s_law_tree) : Cal P w K mg base 2 "_law_tree" ["_law_parts", "_law_signs", "_law_level"] (spTree 0) := by
  refine cal_mk (k := 1) dx sc_law_tree (fun _ _ _ _ _ _ us hl => match us, hl with | [_, _, _], _ => rfl) (fun vs H Q E h => ?_) (fun f cdv A outer s H vs Q E hr h => ?_)
  · obtain ⟨f, a, b, o, i, ch, _, h, _⟩ := h
    omega
  · obtain ⟨f, a, b, o, i, ch, _, h, _⟩ := h
    omega
theorem cal_law_tree (dx : DefAt K mg "_law_tree" s_law_tree) (B : Bl mg) (G_law_group : Cal P w K mg base 1 "_law_group" ["_law_parts", "_law_signs", "_law_wanted"] spGroup) {n k : Nat} (hk : 1 ≤ k)
    (G_law_tree : Cal P w K mg base k "_law_tree" ["_law_parts", "_law_signs", "_law_level"] (spTree n)) : Cal P w K mg base (k + 1) "_law_tree" ["_law_parts", "_law_signs", "_law_level"] (spTree (n + 1)) := by
  refine cal_mk dx sc_law_tree (fun _ _ _ _ _ _ us hl => match us, hl with | [_, _, _], _ => rfl) (fun vs H Q E h => ?_) (fun fn cdv A outer s H vs Q E hr h => ?_)
  · obtain ⟨f, a, b, o, i, ch, rfl, _⟩ := h
    rfl
  · obtain ⟨f, a, b, o, i, ch, rfl, hf, hn, hch, kq⟩ := h
    have hu := hu_of hr
    have tk : L2N.Takes (cxOf (L2N.CX P w) P w K mg base ["_law_parts", "_law_signs", "_law_level", "_law_levels", "_law_heads", "_law_groups", "_law_found", "_law_trees", "_law_group_here", "_law_tree_here", "_law_k"] "_law_tree" (defScope s_law_tree) fn cdv A outer s H E) (fun cls d _ H => E cls d H) := L2N.takes_of rfl rfl rfl rfl
    refine ⟨_, (pss_cons (ps_set (i := 3) sc_law_tree.nd rfl (Or.inl rfl) (pe_lst (pa_cons (pe_lst (pa_cons pe_str pa_nil)) (pa_cons (pe_lst (pa_cons pe_str pa_nil)) (pa_cons (pe_lst (pa_cons pe_str (pa_cons pe_str (pa_cons pe_str pa_nil)))) (pa_cons (pe_lst (pa_cons pe_str (pa_cons pe_str pa_nil))) (pa_cons (pe_lst (pa_cons pe_str (pa_cons pe_str pa_nil))) pa_nil)))))))
      (pss_cons (ps_set (i := 4) sc_law_tree.nd rfl (Or.inl rfl) (pe_disp (pps_cons pe_str pe_str (pps_cons pe_str pe_str (pps_cons pe_str pe_str (pps_cons pe_str pe_str (pps_cons pe_str pe_str (pps_cons pe_str pe_str (pps_cons pe_str pe_str (pps_cons pe_str pe_str (pps_cons pe_str pe_str pps_nil))))))))) (by rfl) (by rfl) (fun z => by cases z) (by decide)))
      (pss_cons (ps_if (pt_cmpR op_eq (pv 2) pe_int (nomark _))
      (pss_one (ps_ret (pe_ix ix_list (pv 0) pe_int (fun _ _ => rfl))))
      pss_nil)
      (pss_cons (ps_asg (pe_cal G_law_group (hr.mono (by first | decide | omega)) tk (pa_cons (pv 0) (pa_cons (pv 1) (pa_cons (pe_ix ix_list (pv 3) (pv 2) (fun _ _ => rfl)) pa_nil)))) (pg_lst rfl (pgs_cons (pg_name (i := 5) sc_law_tree.nd rfl (Or.inl rfl)) (pgs_cons (pg_name (i := 6) sc_law_tree.nd rfl (Or.inl rfl)) pgs_nil))))
      (pss_cons (ps_setLc (i := 7) (own := [("_law_group_here", 8)]) rfl sc_law_tree.nd rfl rfl (sw_true rfl rfl rfl (by decide +kernel)) (pi_list (pv 5)) (blkOk_by (N := ["_law_parts", "_law_signs", "_law_level", "_law_levels", "_law_heads", "_law_groups", "_law_found", "_law_trees", "_law_group_here", "_law_tree_here", "_law_k"]) (sc := defScope s_law_tree) (by decide +kernel)) (fun _ _ _ _ _ => (pg_name (i := 8) sc_law_tree.nd rfl (Or.inl rfl))) (fun _ _ _ _ _ => pts_nil) (fun _ _ _ _ _ => (pe_calN G_law_tree (hr.mono (by first | decide | omega)) (pa_cons (pe_ix (ix_listK (K := K) rfl) (pv 8) pe_int (fun _ _ => rfl)) (pa_cons (pe_ix (ix_listK (K := K) rfl) (pv 8) pe_int (fun _ _ => rfl)) (pa_cons (pe_op op_add (pv 2) pe_int) pa_nil))))))
      (pss_cons (ps_set (i := 9) sc_law_tree.nd rfl (Or.inl rfl) (pe_ix ix_list (pv 7) pe_int (fun _ _ => rfl)))
      (pss_cons (ps_for (passes_of rfl) rfl (pi_range1 (by rfl) B.range (pa_cons (pe_callB call_len_seq (by rfl) B.len PySem.boot_len (pa_cons (pv 6) pa_nil)) pa_nil)) (pg_name (i := 10) sc_law_tree.nd rfl (Or.inl rfl))
      (pss_one (ps_set (i := 9) sc_law_tree.nd rfl (Or.inl rfl) (pe_tup (pa_cons (pe_dget hu (pv 4) (pe_ix ix_list (pe_ix ix_list (pv 6) (pv 10) (fun _ _ => rfl)) pe_int (fun _ _ => rfl)) (fun _ _ => rfl)) (pa_cons (pv 9) (pa_cons (pe_ix ix_list (pv 7) (pe_op op_add (pv 10) pe_int) (fun _ _ => rfl)) (pa_cons (pe_ix ix_list (pe_ix ix_list (pv 6) (pv 10) (fun _ _ => rfl)) pe_int (fun _ _ => rfl)) pa_nil))))))))
      (pss_one (ps_ret (pv 9)))))))))), ?_⟩
    walk_at "rq"
    intro q1 hq1
    have a1 : upd H q1 (.lst [.str "or"]) q1 = some (.lst [.str "or"]) := upd_same
    have s1 : Same H (upd H q1 (.lst [.str "or"])) := Same.new hq1
    generalize upd H q1 (.lst [.str "or"]) = H1 at *
    walk_at "rq"
    intro q2 hq2
    have a2 : upd H1 q2 (.lst [.str "and"]) q2 = some (.lst [.str "and"]) := upd_same
    have s2 : Same H1 (upd H1 q2 (.lst [.str "and"])) := Same.new hq2
    generalize upd H1 q2 (.lst [.str "and"]) = H2 at *
    walk_at "rq"
    intro q3 hq3
    have a3 : upd H2 q3 (.lst [.str "<", .str "<=", .str "=="]) q3 = some (.lst [.str "<", .str "<=", .str "=="]) := upd_same
    have s3 : Same H2 (upd H2 q3 (.lst [.str "<", .str "<=", .str "=="])) := Same.new hq3
    generalize upd H2 q3 (.lst [.str "<", .str "<=", .str "=="]) = H3 at *
    walk_at "rq"
    intro q4 hq4
    have a4 : upd H3 q4 (.lst [.str "+", .str "-"]) q4 = some (.lst [.str "+", .str "-"]) := upd_same
    have s4 : Same H3 (upd H3 q4 (.lst [.str "+", .str "-"])) := Same.new hq4
    generalize upd H3 q4 (.lst [.str "+", .str "-"]) = H4 at *
    walk_at "rq"
    intro q5 hq5
    have a5 : upd H4 q5 (.lst [.str "*", .str "/"]) q5 = some (.lst [.str "*", .str "/"]) := upd_same
    have s5 : Same H4 (upd H4 q5 (.lst [.str "*", .str "/"])) := Same.new hq5
    generalize upd H4 q5 (.lst [.str "*", .str "/"]) = H5 at *
    walk_at "rq"
    intro q6 hq6
    have a6 : upd H5 q6 (.lst [.ref q1, .ref q2, .ref q3, .ref q4, .ref q5]) q6 = some (.lst [.ref q1, .ref q2, .ref q3, .ref q4, .ref q5]) := upd_same
    have s6 : Same H5 (upd H5 q6 (.lst [.ref q1, .ref q2, .ref q3, .ref q4, .ref q5])) := Same.new hq6
    generalize upd H5 q6 (.lst [.ref q1, .ref q2, .ref q3, .ref q4, .ref q5]) = H6 at *
    walk_at "rq"
    intro dp hdp
    walk_at "rq"
    refine ⟨upd_same, hdsK, by with_unfolding_all rfl, by decide, ?_⟩
    rw [hds_merge]
    have ed : upd (upd H6 dp (.dK [])) dp (.dK hdsK) dp = some (.dK hdsK) := upd_same
    have s7 : Same H6 (upd (upd H6 dp (.dK [])) dp (.dK hdsK)) := Same.mut (Same.new hdp) hdp
    generalize upd (upd H6 dp (.dK [])) dp (.dK hdsK) = H7 at *
    have t7 : Same H H7 := fun b o h => s7 _ _ (s6 _ _ (s5 _ _ (s4 _ _ (s3 _ _ (s2 _ _ (s1 _ _ h))))))
    have hlv : ∀ w < 5, ∃ q, ([.ref q1, .ref q2, .ref q3, .ref q4, .ref q5] : List V)[w]? = some (.ref q) ∧ H7 q = some (.lst ((lvls.getD w []).map V.str)) := by
      intro w hw
      match w, hw with
      | 0, _ => exact ⟨q1, rfl, s7 _ _ (s6 _ _ (s5 _ _ (s4 _ _ (s3 _ _ (s2 _ _ a1)))))⟩
      | 1, _ => exact ⟨q2, rfl, s7 _ _ (s6 _ _ (s5 _ _ (s4 _ _ (s3 _ _ a2))))⟩
      | 2, _ => exact ⟨q3, rfl, s7 _ _ (s6 _ _ (s5 _ _ (s4 _ _ a3)))⟩
      | 3, _ => exact ⟨q4, rfl, s7 _ _ (s6 _ _ (s5 _ _ a4))⟩
      | 4, _ => exact ⟨q5, rfl, s7 _ _ (s6 _ _ a5)⟩
      | w + 5, h => omega
    have a6' := s7 _ _ a6
    have hch7 := chx_keep hch t7
    clear a1 a2 a3 a4 a5 a6 s1 s2 s3 s4 s5 s6 s7
    walk_at "rq"
    refine r_ite (fun h1 => ?_) (fun h1 => ?_)
    · have h1 := of_decide_eq_true h1
      obtain rfl : f = 0 := by omega
      obtain ⟨us, ws, ha, hb, hus, hws, hl⟩ := hch7.ex
      obtain ⟨u0, hu0, ht0⟩ := hus.get (i := 0) rfl
      walk_at "rq"
      refine r_ixL (n := 0) (SqL.of ha) hu0 ?_
      walk_at "rq"
      exact kq _ _ t7 ht0
    · have h1 := of_decide_eq_false h1
      obtain ⟨g, rfl⟩ : ∃ g, f = g + 1 := ⟨f - 1, by omega⟩
      obtain ⟨qw, hqw, hqs⟩ := hlv (4 - g) (by omega)
      walk_at "rq"
      rw [show (5 : Int) - ((g + 1 : Nat) : Int) = ((4 - g : Nat) : Int) by omega]
      refine r_ixL (SqL.of a6') hqw ?_
      walk_at "rq"
      refine ⟨a, b, qw, _, ch, 4 - g, rfl, hch7, by omega, hqs, ?_⟩
      intro p gl fl gs fs H8 t8 hp hgl hfl hG hF
      refine ⟨p, _, rfl, SqL.of hp, rfl, ?_⟩
      have t78 : Same H H8 := fun b o h => t8 _ _ (t7 _ _ h)
      have ed8 := t8 _ _ ed
      refine ⟨_, _, rfl, ⟨_, _, rfl, rfl, ?_⟩⟩
      walk_at "rq"
      refine ⟨⟨_, SqL.of hgl⟩, fun D hD => ?_⟩
      have hD0 : H D = none := by
        cases e : H D with
        | none => rfl
        | some u => rw [t78 _ _ e] at hD; cases hD
      rw [grpO_eq] at hG
      have hlen : ch.length ≤ 1000 := by obtain ⟨_, _, _, _, _, _, h⟩ := hch.ex; exact h
      have hgn : gs.length = (grpO o i (cut (4 - g) ch)).length := by rw [hG.len, List.length_map]
      have hg1 : gs.length ≤ 1001 := by
        rw [hgn]
        have := cut_len2 (4 - g) ch
        show ((cut (4 - g) ch).2.map _).length + 1 ≤ 1001
        rw [List.length_map]; omega
      refine lcw_list (xs := gs) (fun k H' => Same H8 H' ∧ ∃ acc, H' D = some (.lst acc) ∧ TpAll H' acc (((grpO o i (cut (4 - g) ch)).take k).map fun t => tr g t.1 t.2.1 t.2.2)) ⟨Same.new hD, [], upd_same, .nil⟩ (fun k H' _ h => SqL.of (h.1 _ _ hgl)) ?_ ?_
      · rintro k x H' hx ⟨hs, acc, hacc, htp⟩
        have hk : k < gs.length := (List.getElem?_eq_some_iff.mp hx).1
        have ht : (grpO o i (cut (4 - g) ch))[k]? = some ((grpO o i (cut (4 - g) ch))[k]'(by omega)) := List.getElem?_eq_getElem (by omega)
        have htk : (grpO o i (cut (4 - g) ch)).take (k + 1) = (grpO o i (cut (4 - g) ch)).take k ++ [(grpO o i (cut (4 - g) ch))[k]'(by omega)] := by rw [List.take_succ, ht]; rfl
        generalize (grpO o i (cut (4 - g) ch))[k]'(by omega) = t at ht htk
        obtain ⟨v, hv, hgr⟩ := hG.get (i := k) (b := (t.1.tree t.2.1, t.2.2)) (by rw [List.getElem?_map, ht]; rfl)
        rw [hx] at hv
        cases hv
        have htl : t.2.2.length ≤ 1000 := by
          have hm : (t.1.tree t.2.1, t.2.2) ∈ grps (o.tree i) (cut (4 - g) ch) := by rw [grpO_eq]; exact List.mem_map.mpr ⟨t, List.mem_of_getElem? ht, rfl⟩
          have := grps_len _ _ _ _ hm
          have e : (t.1.tree t.2.1, t.2.2).2.length = t.2.2.length := rfl
          omega
        obtain ⟨ga, pl, sl, rfl, hga, hcx⟩ := grx_chx hgr htl
        walk_at "rq"
        refine r_ixL (n := 0) (SqL.of (hs _ _ hga)) rfl ?_
        walk_at "rq"
        refine r_ixL (n := 1) (SqL.of (hs _ _ hga)) rfl ?_
        walk_at "rq"
        refine ⟨g, pl, sl, t.1, t.2.1, t.2.2, ?_, by omega, by omega, chx_keep hcx hs, fun v H9 s9 hv => ?_⟩
        · rw [show ((4 - g : Nat) : Int) + 1 = 5 - (g : Int) by omega]
        · have hacc9 := s9 _ _ hacc
          have hal : acc.length ≤ 1001 := by rw [htp.len, List.length_map, List.length_take]; omega
          refine ⟨acc, hacc9, by rw [sizeLine_eq]; omega, ?_⟩
          have km := Keep.mut (o := .lst (acc ++ [v])) hacc9 fun xs z => nomatch z
          refine ⟨Same.mut (fun b o h => s9 _ _ (hs _ _ h)) hD, acc ++ [v], upd_same, ?_⟩
          rw [htk, List.map_append]
          exact ((htp.keep (Same.keep s9)).keep km).app (.cons (hv.keep km) .nil)
      · rintro H9 ⟨hs, acc, hacc, htp⟩
        rw [hgn, List.take_length] at htp
        have hfs9 := hs _ _ hfl
        have hfn : fs.length = (cut (4 - g) ch).2.length := by rw [hF.len, List.length_map]
        have hcl := cut_len2 (4 - g) ch
        obtain ⟨v0, hv0, htv0⟩ := htp.get (i := 0) rfl
        walk_at "rq"
        refine r_ixL (n := 0) (SqL.of hacc) hv0 ?_
        walk_at "rq"
        refine ⟨_, _, rfl, .inl (SqL.of hfs9), ?_⟩
        walk_at "rq"
        refine ⟨by omega, by omega, ?_⟩
        rw [show ((fs.length : Int)).toNat = (cut (4 - g) ch).2.length by omega]
        have t79 : Same H H9 := fun b o h => hs _ _ (t78 _ _ h)
        refine for_range (lo := 0) (n := (cut (4 - g) ch).2.length) (fun k σ' H' => ∃ v9 v8 v10, σ' = [some (.ref a), some (.ref b), some (.int ((4 - g : Nat) : Int)), some (.ref q6), some (.ref dp), some (.ref gl), some (.ref fl), some (.ref D), v8, some v9, v10] ∧ Same H9 H' ∧
          Tp H' v9 (((cut (4 - g) ch).2.take k).foldl (trG g) (tr g o i (cut (4 - g) ch).1))) ⟨v0, none, none, rfl, fun b o h => h, htv0⟩ ?_ ?_
        · rintro k σ' H' hk ⟨v9, v8, v10, rfl, hs', hv9⟩
          have hr : (cut (4 - g) ch).2[k]? = some ((cut (4 - g) ch).2[k]) := List.getElem?_eq_getElem hk
          have htk : (cut (4 - g) ch).2.take (k + 1) = (cut (4 - g) ch).2.take k ++ [(cut (4 - g) ch).2[k]] := by rw [List.take_succ, hr]; rfl
          generalize (cut (4 - g) ch).2[k] = r at hr htk
          obtain ⟨fv, hfv, sa, rfl, _, _, hsa⟩ := hF.get (i := k) (b := r.l.sg) (by rw [List.getElem?_map, hr]; rfl)
          obtain ⟨tv, htv, htt⟩ := htp.get (i := k + 1) (d := tr g r.l.q r.l.j r.g) (by
            show ((tr g o i _) :: (((cut (4 - g) ch).2.map fun r => (r.l.q, r.l.j, r.g)).map _))[k + 1]? = _
            rw [List.getElem?_cons_succ, List.getElem?_map, List.getElem?_map, hr]; rfl)
          have hsa' := hs' _ _ (hs _ _ hsa)
          rw [show (0 : Int) + (k : Int) = ((k : Nat) : Int) by omega]
          walk_at "rq"
          refine r_ixL (SqL.of (hs' _ _ hfs9)) hfv ?_
          walk_at "rq"
          refine r_ixL (n := 0) (SqL.of hsa') rfl ?_
          have hdg : DGet H' dp (.str r.l.op.txt) (some (.str r.l.op.head)) := by
            have := DGet.k (k := Sum.inr r.l.op.txt) (hs' _ _ (hs _ _ ed8))
            rw [hds_get] at this
            exact this
          refine ⟨dp, _, rfl, hdg, ?_⟩
          walk_at "rq"
          refine r_ixL (n := k + 1) (SqL.of (hs' _ _ hacc)) htv ?_
          walk_at "rq"
          refine r_ixL (SqL.of (hs' _ _ hfs9)) hfv ?_
          walk_at "rq"
          refine r_ixL (n := 1) (SqL.of hsa') rfl ?_
          walk_at "rq"
          intro q hq
          walk_at "rq"
          have kq2 := Keep.new (o := .tup [.str r.l.op.head, v9, tv, .int (r.l.at_ : Int)]) hq
          refine ⟨_, _, _, rfl, fun b o h => Same.new hq _ _ (hs' _ _ h), ?_⟩
          rw [htk, List.foldl_append]
          exact .tup upd_same (.cons (.str _) (.cons (hv9.keep kq2) (.cons ((htt.keep (Same.keep hs')).keep kq2) (.cons (.int _) .nil))))
        · rintro σ' H' ⟨v9, v8, v10, rfl, hs', hv9⟩
          rw [List.take_length] at hv9
          walk_at "rq"
          exact kq _ _ (fun b o h => hs' _ _ (t79 _ _ h)) (by rw [tr_succ]; exact hv9)
theorem law_tree_all (dx : DefAt K mg "_law_tree" s_law_tree) (B : Bl mg) (G_law_group : Cal P w K mg base 1 "_law_group" ["_law_parts", "_law_signs", "_law_wanted"] spGroup) : ∀ n, Cal P w K mg base (2 + n) "_law_tree" ["_law_parts", "_law_signs", "_law_level"] (spTree n)
  | 0 => cal_law_tree0 dx
  | n + 1 => cal_law_tree dx B G_law_group (k := 2 + n) (Nat.le_add_right_of_le (by decide)) (law_tree_all dx B G_law_group n)
end
end Al
namespace Al
open PySem PySem.Spec PyProof.Rows L2 NdefX PySem.W
theorem opdT_len (c : Nat) : (opdT c).length ≤ 6 := by
  unfold opdT
  split
  · exact numS3 _ (by omega)
  · split
    · decide
    · split <;> decide
theorem sep2_len (c : Nat) : (sep2 c).length ≤ 2 := by
  have hs : ∀ g ∈ seps2, (lS g).length ≤ 2 := by decide +kernel
  exact hs _ (getD_mem (show _ < 2 by omega))
theorem opx_len (p : Op2) : (lS p.txt).length ≤ 3 := by cases p <;> decide
theorem st2_len (C : Nat → Nat) : ∀ k, (st2 C k).txt.length ≤ 12 * (k + 1)
  | 0 => by
    have := opdT_len (C 0)
    show (lS "show " ++ opdT (C 0)).length ≤ 12
    rw [List.length_append]
    have e : (lS "show ").length = 5 := rfl
    omega
  | k + 1 => by
    have h1 := st2_len C k
    have h2 := opdT_len (C (k + 1))
    have h3 := sep2_len (C (k + 1))
    have h4 := opx_len (fixOp (st2 C k).cmp (rawOp (C (k + 1))))
    show ((st2 C k).txt ++ sep2 (C (k + 1)) ++ lS (fixOp (st2 C k).cmp (rawOp (C (k + 1)))).txt ++ [32] ++ opdT (C (k + 1))).length ≤ _
    simp only [List.length_append, List.length_cons, List.length_nil]
    omega
/-! repr can show it -/
theorem ShowOk.tup4 {a b c d : PyData} {wa wb wc wd da db dc dd dp : Nat} (ha : ShowOk a wa da) (hb : ShowOk b wb db) (hc : ShowOk c wc dc) (hd : ShowOk d wd dd) (h1 : da ≤ dp) (h2 : db ≤ dp) (h3 : dc ≤ dp) (h4 : dd ≤ dp) :
    ShowOk (.tuple [a, b, c, d]) (wa + wb + wc + wd + 4) (dp + 1) := by
  have q := fun (x : PyData) (hx : x ∈ [a, b, c, d]) => hx
  refine ⟨?_, ?_, ?_, ?_, ?_⟩
  · simp only [PyData.showable, PyData.showableAll, ha.sh, hb.sh, hc.sh, hd.sh, Bool.and_self]
  · simp only [PyData.hasDict, PyData.hasDictAll, ha.nd, hb.nd, hc.nd, hd.nd, Bool.or_self]
  · simp only [PyData.leavesShort, PyData.leavesShortAll, ha.lv, hb.lv, hc.lv, hd.lv, Bool.and_self]
  · simp only [PyData.weight, PyData.weightAll]
    have := ha.wt; have := hb.wt; have := hc.wt; have := hd.wt
    omega
  · simp only [PyData.depth, PyData.depthAll]
    have := ha.dp; have := hb.dp; have := hc.dp; have := hd.dp
    omega
def Opd.small : Opd → Prop
  | .num n => n < 10 ^ 12
  | _ => True
theorem opd_show (o : Opd) (i : Nat) (ho : o.small) (hi : i < 10 ^ 11) : ShowOk (o.tree i) 400 3 := by
  have pl : ∀ z ∈ (["var", "x", "y", "number", "call", "f", "power"] : List Str), Plain z ∧ z.length ≤ 6 := by unfold Plain; decide +kernel
  have st : ∀ z ∈ (["var", "x", "y", "number", "call", "f", "power"] : List Str), ShowOk (.str z) 6 0 := fun z hz => (ShowOk.str (pl z hz).1).mono (pl z hz).2 (by decide)
  have it : ∀ k : Nat, k < 10 ^ 12 → ShowOk (.int (k : Int)) 41 0 := fun k hk => ShowOk.int (by omega)
  have l3 : ∀ (a b c : PyData) (w dp : Nat), ShowOk a w dp → ShowOk b w dp → ShowOk c w dp → ShowOk (.tuple [a, b, c]) (3 * (w + 1)) (dp + 1) := fun a b c w dp ha hb hc => ShowOk.tuple (ds := [a, b, c]) fun d hd => by
    rcases List.mem_cons.mp hd with rfl | hd
    · exact ha
    · rcases List.mem_cons.mp hd with rfl | hd
      · exact hb
      · rcases List.mem_cons.mp hd with rfl | hd
        · exact hc
        · cases hd
  cases o with
  | x => exact (l3 _ _ _ 41 0 ((st "var" (by simp)).mono (by decide) (by decide)) ((st "x" (by simp)).mono (by decide) (by decide)) (it i (by omega))).mono (by decide) (by decide)
  | num m =>
    have h2 : ShowOk (.tuple [.int (m : Int), .int 1]) 84 1 := (ShowOk.tuple (ds := [.int (m : Int), .int 1]) (w := 41) (dp := 0) fun d hd => by
      rcases List.mem_cons.mp hd with rfl | hd
      · exact it m ho
      · rcases List.mem_cons.mp hd with rfl | hd
        · exact ShowOk.int (by decide)
        · cases hd)
    have h3 : ShowOk (.tuple []) 0 1 := ShowOk.tuple (ds := []) (w := 0) (dp := 0) fun d hd => by cases hd
    exact (ShowOk.tup4 (st "number" (by simp)) h2 h3 (it i (by omega)) (dp := 1) (by decide) (by decide) (by decide) (by decide)).mono (by decide) (by decide)
  | call =>
    have h1 := l3 _ _ _ 41 0 ((st "var" (by simp)).mono (by decide) (by decide)) ((st "y" (by simp)).mono (by decide) (by decide)) (it (i + 2) (by omega))
    have h2 : ShowOk (.tuple [.tuple [.str "var", .str "y", .int ((i + 2 : Nat) : Int)]]) 127 2 := ShowOk.tuple (w := 126) (dp := 1) fun d hd => by
      rcases List.mem_cons.mp hd with rfl | hd
      · exact h1
      · cases hd
    exact (ShowOk.tup4 (st "call" (by simp)) (st "f" (by simp)) h2 (it i (by omega)) (dp := 2) (by decide) (by decide) (by decide) (by decide)).mono (by decide) (by decide)
  | pow =>
    have h1 := l3 _ _ _ 41 0 ((st "var" (by simp)).mono (by decide) (by decide)) ((st "x" (by simp)).mono (by decide) (by decide)) (it i (by omega))
    have h2 := ShowOk.tup4 (st "power" (by simp)) h1 (ShowOk.int (i := 2) (by decide)) (it (i + 1) (by omega)) (dp := 1) (by decide) (by decide) (by decide) (by decide)
    exact (ShowOk.tup4 (st "power" (by simp)) h2 (ShowOk.int (i := -3) (by decide)) (it (i + 3) (by omega)) (dp := 2) (by decide) (by decide) (by decide) (by decide)).mono (by decide) (by decide)
def Lk.small (l : Lk) : Prop := l.q.small ∧ l.at_ < 10 ^ 11 ∧ l.j < 10 ^ 11
theorem tr_show : ∀ (f : Nat), f ≤ 5 → ∀ (o : Opd) (i : Nat) (ch : List Lk), o.small → i < 10 ^ 11 → (∀ l ∈ ch, l.small) → ShowOk (tr f o i ch) (400 + 450 * ch.length) (3 + ch.length)
  | 0, _, o, i, ch, ho, hi, hc => (opd_show o i ho hi).mono (by omega) (by omega)
  | f + 1, hf, o, i, ch, ho, hi, hc => by
    have ih := tr_show f (by omega)
    obtain ⟨m1, m2⟩ := cut_mem (4 - f) ch
    have hl := cut_len (4 - f) ch
    have h0 := ih o i (cut (4 - f) ch).1 ho hi fun l h => hc l (m1 l h).1
    have go : ∀ (gs : List Gr) (t : PyData) (n : Nat), (∀ r ∈ gs, r.l.small ∧ ∀ l ∈ r.g, l.small) → ShowOk t (400 + 450 * n) (3 + n) → ShowOk (gs.foldl (trG f) t) (400 + 450 * (n + (gs.map fun r => 1 + r.g.length).sum)) (3 + (n + (gs.map fun r => 1 + r.g.length).sum)) := by
      intro gs
      induction gs with
      | nil => intro t n _ h; simpa using h
      | cons r gs ihg =>
        intro t n hr h
        obtain ⟨hs, hsg⟩ := hr r List.mem_cons_self
        have hr1 := ih r.l.q r.l.j r.g hs.1 hs.2.2 hsg
        have hp : Plain r.l.op.head ∧ r.l.op.head.length ≤ 3 := by
          have : ∀ z ∈ (["or", "and", "lt", "le", "eq", "add", "sub", "mul", "div"] : List Str), Plain z ∧ z.length ≤ 3 := by unfold Plain; decide +kernel
          exact this _ (by cases r.l.op <;> simp [Op2.head])
        have hat : ShowOk (.int (r.l.at_ : Int)) 41 0 := ShowOk.int (by have := hs.2.1; omega)
        have h2 := ShowOk.tup4 (ShowOk.str hp.1) h hr1 hat (dp := 3 + n + r.g.length) (Nat.zero_le _) (by omega) (by omega) (Nat.zero_le _)
        have h3 : ShowOk (trG f t r) (400 + 450 * (n + 1 + r.g.length)) (3 + (n + 1 + r.g.length)) := h2.mono (by have := hp.2; omega) (by omega)
        have h4 := ihg (trG f t r) (n + 1 + r.g.length) (fun x hx => hr x (List.mem_cons_of_mem _ hx)) h3
        rw [List.foldl_cons, List.map_cons, List.sum_cons]
        have e : n + (1 + r.g.length + (gs.map fun r => 1 + r.g.length).sum) = n + 1 + r.g.length + (gs.map fun r => 1 + r.g.length).sum := by omega
        rw [e]
        exact h4
    rw [tr_succ]
    have := go (cut (4 - f) ch).2 _ _ (fun r hr => ⟨hc _ (m2 r hr).1, fun l h => hc l ((m2 r hr).2.2 l h).1⟩) h0
    rw [hl]
    exact this
theorem opd2_small (c : Nat) : (opd2 c).small := by
  unfold opd2
  split
  · have h := digV_lt (numS_digits (c / 80 % 1000))
    have h3 := numS3 (c / 80 % 1000) (by omega)
    exact Nat.lt_of_lt_of_le h (Nat.pow_le_pow_right (by decide) (by omega))
  · split
    · trivial
    · split <;> trivial
theorem st2_small (C : Nat → Nat) : ∀ k, k ≤ 100 → ∀ l ∈ (st2 C k).ch, l.small
  | 0, _, l, h => by cases h
  | k + 1, hk, l, h => by
    rcases List.mem_append.mp h with h | h
    · exact st2_small C k (by omega) l h
    · rw [List.mem_singleton] at h
      subst h
      have h1 := st2_len C k
      have h3 := sep2_len (C (k + 1))
      have h4 := opx_len (fixOp (st2 C k).cmp (rawOp (C (k + 1))))
      refine ⟨opd2_small _, ?_, ?_⟩
      · show ((st2 C k).txt ++ sep2 (C (k + 1))).length < _
        rw [List.length_append]; omega
      · show ((st2 C k).txt ++ sep2 (C (k + 1)) ++ lS (fixOp (st2 C k).cmp (rawOp (C (k + 1)))).txt ++ [32]).length < _
        simp only [List.length_append, List.length_cons, List.length_nil]; omega
theorem st2_show (C : Nat → Nat) (k : Nat) (hk : k ≤ 9) : ShowOk (tr 5 (opd2 (C 0)) 5 (st2 C k).ch) 4500 12 := by
  have h := tr_show 5 (by decide) (opd2 (C 0)) 5 (st2 C k).ch (opd2_small _) (by decide) (st2_small C k (by omega))
  have hl := (st2_cok C k).2.2
  exact h.mono (by omega) (by omega)
end Al
namespace Al
open PySem PySem.Spec PyProof.Rows L2 NdefX PySem.W
local macro_rules | `(tactic| walk_at "rd1") => `(tactic| with_reducible first
  | (show tVar _ _ _ _; refine r_var (by with_unfolding_all rfl) ?_) | refine r_c ?_ | refine r_op ?_ | refine r_I0 ?_ | refine r_un ?_ | refine r_U ?_
  | (show rI _ _ _ _ _ _; refine r_I (by with_unfolding_all first | exact ⟨by decide, by decide⟩ | (show (0 : Int) < _; decide)) ?_)
  | refine r_eqI ?_ | refine r_neI ?_ | refine r_eqS ?_ | refine r_neS ?_ | refine r_eqB ?_ | refine r_neB ?_ | refine r_chain ?_
  | refine r_test ?_ | refine r_B ?_ | refine r_bl ?_ | refine r_int ?_ | refine r_and ?_ | refine r_or ?_ | refine r_not ?_ | refine r_andV ?_ | refine r_orV ?_ | refine r_notV ?_
  | refine r_if ?_ | refine r_nil ?_ | refine r_cons ?_ | refine r_cb ?_ | refine r_call ?_ | refine r_callS ?_ | refine r_tup ?_ | refine r_lst ?_ | refine r_seq ?_ | refine r_next ?_ | refine r_asg ?_
  | refine r_name ?_ | refine r_ifS ?_ | refine r_ret ?_ | refine r_retN ?_ | refine r_drop ?_ | refine r_brk ?_ | refine r_ct ?_ | refine r_sl ?_ | refine r_part ?_ | refine r_nopart ?_
  | refine r_bm ?_ | refine r_bm0 ?_ | refine r_raiseX ?_ | refine r_mkO ?_ | refine iteF ?_ | refine iteT ?_ | refine r_int1 ?_ | refine r_int1b ?_ | (show _ ≤ sizeLine ∧ _; refine r_sz (by with_unfolding_all first | omega | (simp only [List.length_cons, List.length_nil]; omega)) ?_)
  | (show ∃ _, _; refine ⟨_, rfl, ?_⟩) | (show ∃ _, _; refine ⟨_, _, rfl, rfl, ?_⟩) | (show ∃ _, _; refine ⟨_, _, rfl, ?_⟩))
local macro_rules | `(tactic| walk_at "rd") => `(tactic| repeat (walk_at "rd1"))
local macro_rules | `(tactic| walk_at "rd2") => `(tactic| with_reducible first
  | (show tFld _ _ _ _ _ _; refine r_fldI (by with_unfolding_all rfl) (by with_unfolding_all assumption) (by with_unfolding_all assumption) (by with_unfolding_all assumption) (by with_unfolding_all rfl) ?_)
  | (show tMetS _ _ _ _ _ _ _ _ _; refine r_rm (by with_unfolding_all assumption) (by with_unfolding_all rfl) (by decide) ?_)
  | refine r_sfl ?_ | refine iteNF ?_ | refine iteNT ?_ | refine r_makS ?_)
local macro_rules | `(tactic| walk_at "rp") => `(tactic| repeat first | walk_at "rd1" | walk_at "rd2")
local macro_rules | `(tactic| walk_at "rq1") => `(tactic| with_reducible first | refine r_rng1 ?_ | refine r_rng2 ?_ | refine r_forL ?_ | refine r_forT ?_ | refine r_dget ?_ | refine r_pnil ?_ | refine r_pcons ?_ | refine r_lcL ?_ | refine r_lcT ?_ | refine r_lcR ?_ | refine r_yes ?_ | refine r_disp ?_)
local macro_rules | `(tactic| walk_at "rq") => `(tactic| repeat first | walk_at "rd1" | walk_at "rd2" | walk_at "rq1")

def spLaw (K : Frag) : Sp := fun vs H Q _ => ∃ (a : Addr) (ns : List Int), vs = [.ref a] ∧ SqL K H a (ns.map V.int) ∧ ns.length ≤ 63 ∧ ∀ H', Q (.bl true) H'
/-! the law's state in plain Lean -/
def pTxt (C : Nat → Nat) : Nat → List Nat
  | 0 => lS "show "
  | k + 1 => (st2 C k).txt
def pChn (C : Nat → Nat) : Nat → List Lk
  | 0 => []
  | k + 1 => (st2 C k).ch
def pCmpF (C : Nat → Nat) : Nat → Bool
  | 0 => false
  | k + 1 => (st2 C k).cmp
def pPrt (C : Nat → Nat) : Nat → List PyData
  | 0 => []
  | k + 1 => (opd2 (C 0)).tree 5 :: (st2 C k).ch.map Lk.pd
def mTxt (C : Nat → Nat) : Nat → List Nat
  | 0 => lS "show "
  | k + 1 => (st2 C k).txt ++ sep2 (C (k + 1)) ++ lS (fixOp (st2 C k).cmp (rawOp (C (k + 1)))).txt ++ [32]
theorem pTxt_succ (C : Nat → Nat) : ∀ k, pTxt C (k + 1) = mTxt C k ++ opdT (C k)
  | 0 => rfl
  | k + 1 => rfl
theorem pPrt_succ (C : Nat → Nat) : ∀ k, pPrt C (k + 1) = pPrt C k ++ [(opd2 (C k)).tree (mTxt C k).length]
  | 0 => rfl
  | k + 1 => by
    show (opd2 (C 0)).tree 5 :: ((st2 C k).ch ++ [_]).map Lk.pd = _
    rw [List.map_append]
    rfl
/-- tree and text of an operand, test by test -/
def stg0 (i : Nat) : PyData × List Nat := (Opd.x.tree i, lS "x")
def stg1 (c i : Nat) : PyData × List Nat := if c / 20 % 4 = 1 then ((Opd.num (digV (numS (c / 80 % 1000)))).tree i, numS (c / 80 % 1000)) else stg0 i
def stg2 (c i : Nat) : PyData × List Nat := if c / 20 % 4 = 2 then (Opd.call.tree i, lS "f(y)") else stg1 c i
def stg3 (c i : Nat) : PyData × List Nat := if c / 20 % 4 = 3 then (Opd.pow.tree i, lS "x^2^-3") else stg2 c i
theorem stg_eq (c i : Nat) : stg3 c i = ((opd2 c).tree i, opdT c) := by
  unfold stg3 stg2 stg1 stg0 opd2 opdT
  by_cases h1 : c / 20 % 4 = 1
  · rw [if_neg (by omega), if_neg (by omega), if_pos h1, if_pos h1, if_pos h1]
  · by_cases h2 : c / 20 % 4 = 2
    · rw [if_neg (by omega), if_pos h2, if_neg h1, if_neg h1, if_pos h2, if_pos h2]
    · by_cases h3 : c / 20 % 4 = 3
      · rw [if_pos h3, if_neg h1, if_neg h2, if_neg h1, if_neg h2, if_pos h3, if_pos h3]
      · rw [if_neg h3, if_neg h2, if_neg h1, if_neg h1, if_neg h2, if_neg h3, if_neg h1, if_neg h2, if_neg h3]
theorem pTxt_len (C : Nat → Nat) : ∀ k, (pTxt C k).length ≤ 12 * k + 5
  | 0 => by show (lS "show ").length ≤ 5; decide
  | k + 1 => by
    have := st2_len C k
    show (st2 C k).txt.length ≤ _
    omega
theorem mTxt_len (C : Nat → Nat) : ∀ k, (mTxt C k).length ≤ 12 * k + 12
  | 0 => by show (lS "show ").length ≤ 12; decide
  | k + 1 => by
    have h1 := st2_len C k
    have h3 := sep2_len (C (k + 1))
    have h4 := opx_len (fixOp (st2 C k).cmp (rawOp (C (k + 1))))
    show ((st2 C k).txt ++ sep2 (C (k + 1)) ++ lS (fixOp (st2 C k).cmp (rawOp (C (k + 1)))).txt ++ [32]).length ≤ _
    simp only [List.length_append, List.length_cons, List.length_nil]
    omega
theorem inC (p : Op2) : inV (.str p.txt) [.str "<", .str "<=", .str "=="] = decide (p.tier = 2) := (inV_str _ ["<", "<=", "=="]).trans (lvl_tier _ (w := 2) (by decide))
theorem inO (p : Op2) : inV (.str p.txt) [.str "or", .str "and"] = decide (p.tier < 2) := by
  refine (inV_str _ ["or", "and"]).trans ?_
  cases p <;> decide +kernel
section
variable {P : Program} {w : World} {K : Frag} {mg : Str → Option Value} {base : Heap}
abbrev s_law : Stmt := top 43
theorem sc_law : FnScope ["_law_script", "_law_text", "_law_parts", "_law_signs", "_law_compared", "_law_k", "_law_cell_here", "_law_sign", "_law_at", "_law_pick", "_law_tree_here", "_law_shown", "_law_lines"] ["_law_script"] (defScope s_law) := ⟨rfl, rfl, rfl, by decide +kernel, rfl, by decide +kernel, by decide +kernel⟩
theorem fnC_law {f : Addr} {fd : FuncData} {DM DO : Addr} (FL : FnP K "law" s_law f fd) (B : Bl mg)
    (G_law_cell : Cal P w K mg base 1 "_law_cell" ["_law_script", "_law_k"] (spLawCell K)) (G_law_tree : Cal P w K mg base 8 "_law_tree" ["_law_parts", "_law_signs", "_law_level"] (spTree 6))
    (G_parse : Cal P w K mg base 204 "parse" ["text"] (spParse DM DO)) : FnC P w K mg base (L2N.CX P w) f fd ["_law_script"] (spLaw K) := by
  refine fnC_of (k := 205) ⟨rfl, by decide, by decide⟩ FL sc_law (fun vs H Q E h => ?_) (fun cdv s H vs Q E hr h => ?_)
  · obtain ⟨a, ns, rfl, _⟩ := h
    rfl
  · obtain ⟨a, ns, rfl, hS, hlen, k⟩ := h
    have tk : L2N.Takes (cxOf (L2N.CX P w) P w K mg base ["_law_script", "_law_text", "_law_parts", "_law_signs", "_law_compared", "_law_k", "_law_cell_here", "_law_sign", "_law_at", "_law_pick", "_law_tree_here", "_law_shown", "_law_lines"] "law" (defScope s_law) f cdv callerA [] s H E) (fun cls d _ H => E cls d H) := L2N.takes_of rfl rfl rfl rfl
    have hg : (callerA.deeper (envOfC "law" (defScope s_law) s.heap.objs.size f cdv)).guards = some [] := rfl
    have hu110 : (callerA.deeper (envOfC "law" (defScope s_law) s.heap.objs.size f cdv)).units + 110 < cLine := by have := hr.un; omega
    refine ⟨_, (pss_cons (ps_set (i := 1) sc_law.nd rfl (Or.inl rfl) pe_str)
      (pss_cons (ps_set (i := 2) sc_law.nd rfl (Or.inl rfl) (pe_lst pa_nil))
      (pss_cons (ps_set (i := 3) sc_law.nd rfl (Or.inl rfl) (pe_lst pa_nil))
      (pss_cons (ps_set (i := 4) sc_law.nd rfl (Or.inl rfl) pe_bl)
      (pss_cons (ps_for (passes_of rfl) rfl (pi_range1 (by rfl) B.range (pa_cons (pe_op op_add pe_int (pe_callB (call_min2 rfl) (by rfl) B.min (by decide +kernel) (pa_cons (pe_callB call_len_seq (by rfl) B.len PySem.boot_len (pa_cons (pv 0) pa_nil)) (pa_cons pe_int pa_nil)))) pa_nil)) (pg_name (i := 5) sc_law.nd rfl (Or.inl rfl))
      (pss_cons (ps_set (i := 6) sc_law.nd rfl (Or.inl rfl) (pe_callB call_abs (by rfl) B.abs (by decide +kernel) (pa_cons (pe_cal G_law_cell (hr.mono (by first | decide | omega)) tk (pa_cons (pv 0) (pa_cons (pv 5) pa_nil))) pa_nil)))
      (C8.pss_cut (ps_if (pt_cmpR op_gt (pv 5) pe_int (nomark _))
      (pss_cons (ps_set (i := 7) sc_law.nd rfl (Or.inl rfl) (pe_ix ix_list (pe_lst (pa_cons pe_str (pa_cons pe_str (pa_cons pe_str (pa_cons pe_str (pa_cons pe_str (pa_cons pe_str (pa_cons pe_str (pa_cons pe_str (pa_cons pe_str (pa_cons pe_str pa_nil))))))))))) (pe_op op_mod (pe_callTy call_int1 (by rfl) B.int (by decide +kernel) (pa_cons (pv 6) pa_nil)) pe_int) (fun _ _ => rfl)))
      (C8.pss_cut (ps_if (PW.pt (pw_and (pt_val (pv 4)) (pw_and1 (pt_cmpR op_in_seq (pv 7) (pe_lst (pa_cons pe_str (pa_cons pe_str (pa_cons pe_str pa_nil)))) (by rfl)))))
      (pss_one (ps_set (i := 7) sc_law.nd rfl (Or.inl rfl) pe_str))
      pss_nil)
      (C8.pss_cut (ps_set (i := 4) sc_law.nd rfl (Or.inl rfl) (pe_or (pe_cmpR op_in_seq (pv 7) (pe_lst (pa_cons pe_str (pa_cons pe_str (pa_cons pe_str pa_nil)))) (by rfl)) (pe_one (pe_and (pv 4) (pe_one (pe_cmpR op_notIn_seq (pv 7) (pe_lst (pa_cons pe_str (pa_cons pe_str pa_nil))) (by rfl)))))))
      (pss_cons (ps_set (i := 1) sc_law.nd rfl (Or.inl rfl) (pe_op op_add_str (pv 1) (pe_ix ix_list (pe_lst (pa_cons pe_str (pa_cons pe_str pa_nil))) (pe_op op_mod (pe_callTy call_int1 (by rfl) B.int (by decide +kernel) (pa_cons (pe_op op_fdiv (pv 6) pe_int) pa_nil)) pe_int) (fun _ _ => rfl))))
      (pss_cons (ps_expr (pe_bm PySem.F.plainAttrs_list PySem.F.slot_list_append PySem.F.type_list_append mt_append (pv 3) (pa_cons (pe_lst (pa_cons (pv 7) (pa_cons (pe_callB call_len_str (by rfl) B.len PySem.boot_len (pa_cons (pv 1) pa_nil)) pa_nil))) pa_nil)))
      (pss_one (ps_set (i := 1) sc_law.nd rfl (Or.inl rfl) (pe_op op_add_str (pe_op op_add_str (pv 1) (pv 7)) pe_str))))))))
      pss_nil)
      (pss_cons (ps_set (i := 8) sc_law.nd rfl (Or.inl rfl) (pe_callB call_len_str (by rfl) B.len PySem.boot_len (pa_cons (pv 1) pa_nil)))
      (pss_cons (ps_set (i := 9) sc_law.nd rfl (Or.inl rfl) (pe_op op_mod (pe_callTy call_int1 (by rfl) B.int (by decide +kernel) (pa_cons (pe_op op_fdiv (pv 6) pe_int) pa_nil)) pe_int))
      (pss_cons (ps_set (i := 10) sc_law.nd rfl (Or.inl rfl) (pe_tup (pa_cons pe_str (pa_cons pe_str (pa_cons (pv 8) pa_nil)))))
      (pss_cons (ps_set (i := 11) sc_law.nd rfl (Or.inl rfl) pe_str)
      (C8.pss_cut (ps_if (pt_cmpR op_eq (pv 9) pe_int (nomark _))
      (pss_cons (ps_set (i := 11) sc_law.nd rfl (Or.inl rfl) (pe_callTy call_str_int (by rfl) B.str (by decide +kernel) (pa_cons (pe_op op_mod (pe_callTy call_int1 (by rfl) B.int (by decide +kernel) (pa_cons (pe_op op_fdiv (pv 6) pe_int) pa_nil)) pe_int) pa_nil)))
      (pss_one (ps_set (i := 10) sc_law.nd rfl (Or.inl rfl) (pe_tup (pa_cons pe_str (pa_cons (pe_tup (pa_cons (pe_callTy call_int_str (by rfl) B.int (by decide +kernel) (pa_cons (pv 11) pa_nil)) (pa_cons pe_int pa_nil))) (pa_cons (pe_tup pa_nil) (pa_cons (pv 8) pa_nil))))))))
      pss_nil)
      (C8.pss_cut (ps_if (pt_cmpR op_eq (pv 9) pe_int (nomark _))
      (pss_cons (ps_set (i := 11) sc_law.nd rfl (Or.inl rfl) pe_str)
      (pss_one (ps_set (i := 10) sc_law.nd rfl (Or.inl rfl) (pe_tup (pa_cons pe_str (pa_cons pe_str (pa_cons (pe_tup (pa_cons (pe_tup (pa_cons pe_str (pa_cons pe_str (pa_cons (pe_op op_add (pv 8) pe_int) pa_nil)))) pa_nil)) (pa_cons (pv 8) pa_nil))))))))
      pss_nil)
      (C8.pss_cut (ps_if (pt_cmpR op_eq (pv 9) pe_int (nomark _))
      (pss_cons (ps_set (i := 11) sc_law.nd rfl (Or.inl rfl) pe_str)
      (pss_one (ps_set (i := 10) sc_law.nd rfl (Or.inl rfl) (pe_tup (pa_cons pe_str (pa_cons (pe_tup (pa_cons pe_str (pa_cons (pe_tup (pa_cons pe_str (pa_cons pe_str (pa_cons (pv 8) pa_nil)))) (pa_cons pe_int (pa_cons (pe_op op_add (pv 8) pe_int) pa_nil))))) (pa_cons (pe_op op_sub pe_int pe_int) (pa_cons (pe_op op_add (pv 8) pe_int) pa_nil))))))))
      pss_nil)
      (pss_cons (ps_expr (pe_bm PySem.F.plainAttrs_list PySem.F.slot_list_append PySem.F.type_list_append mt_append (pv 2) (pa_cons (pv 10) pa_nil)))
      (pss_one (ps_set (i := 1) sc_law.nd rfl (Or.inl rfl) (pe_op op_add_str (pv 1) (pv 11)))))))))))))))
      (pss_cons (ps_set (i := 12) sc_law.nd rfl (Or.inl rfl) (pe_cal G_parse (hr.mono (by first | decide | omega)) tk (pa_cons (pe_op op_add_str (pv 1) pe_str) pa_nil)))
      (pss_one (ps_ret (pe_cmpR op_eq (pe_callB (call_reprD hg hu110) (by rfl) B.repr (by decide +kernel) (pa_cons (pv 12) pa_nil)) (pe_callB (call_reprD hg hu110) (by rfl) B.repr (by decide +kernel) (pa_cons (pe_lst (pa_cons (pe_tup (pa_cons pe_str (pa_cons (pe_cal G_law_tree (hr.mono (by first | decide | omega)) tk (pa_cons (pv 2) (pa_cons (pv 3) (pa_cons pe_int pa_nil)))) (pa_cons pe_non (pa_cons pe_int pa_nil))))) pa_nil)) pa_nil)) (nomark _)))))))))), ?_⟩
    walk_at "rq"
    intro pa hpa
    have a1 : upd H pa (.lst []) pa = some (.lst []) := upd_same
    have s1 : Same H (upd H pa (.lst [])) := Same.new hpa
    generalize upd H pa (.lst []) = H1 at *
    walk_at "rq"
    intro sa hsa
    have a2 : upd H1 sa (.lst []) sa = some (.lst []) := upd_same
    have s2 : Same H1 (upd H1 sa (.lst [])) := Same.new hsa
    generalize upd H1 sa (.lst []) = H2 at *
    walk_at "rq"
    have hnl : (ns.map V.int).length = ns.length := List.length_map ..
    have t2 : Same H H2 := fun b o h => s2 _ _ (s1 _ _ h)
    have hpN : H pa = none := hpa
    have hsN : H sa = none := by
      cases e : H sa with
      | none => rfl
      | some u => rw [s1 _ _ e] at hsa; cases hsa
    have ps : pa ≠ sa := ne_of_none a1 hsa
    generalize hC : (fun j => (ns.getD j 0).natAbs) = C at *
    have hCj : ∀ j, C j = (ns.getD j 0).natAbs := fun j => by rw [← hC]
    refine ⟨_, _, rfl, .inl (L2.Same.seq t2 hS), ?_⟩
    walk_at "rq"
    refine ⟨by rw [hnl]; split <;> omega, by rw [hnl]; split <;> omega, ?_⟩
    have hJ : (1 + (if (9 : Int) < ((ns.map V.int).length : Int) then 9 else ((ns.map V.int).length : Int))).toNat = 1 + min ns.length 9 := by
      rw [hnl]; split <;> omega
    rw [hJ]
    generalize hN : min ns.length 9 = N at *
    have hN9 : N ≤ 9 := by omega
    refine for_range (lo := 0) (n := 1 + N) (fun j σ' H' => ∃ us ws v5 v6 v7 v8 v9 v10 v11, σ' = [some (.ref a), some (.str (uS (pTxt C j))), some (.ref pa), some (.ref sa), some (.bl (pCmpF C j)), v5, v6, v7, v8, v9, v10, v11, none] ∧ Same H H' ∧
      H' pa = some (.lst us) ∧ H' sa = some (.lst ws) ∧ TpAll H' us (pPrt C j) ∧ All2 (SgX pa sa H') ws ((pChn C j).map Lk.sg) ∧ (pPrt C j).length = j)
      ⟨[], [], none, none, none, none, none, none, none, rfl, t2, s2 _ _ a1, a2, .nil, .nil, rfl⟩ ?_ ?_
    · rintro j σ' H' hj ⟨us, ws, v5, v6, v7, v8, v9, v10, v11, rfl, hs, hpa', hsa', hus, hws, hpl⟩
      walk_at "rq"
      refine ⟨a, ns, j, by rw [show (0 : Int) + (j : Int) = ((j : Nat) : Int) by omega], L2.Same.seq hs hS, ?_⟩
      walk_at "rq"
      have e1 : (if ns.getD j 0 < 0 then -(ns.getD j 0) else ns.getD j 0) = ((C j : Nat) : Int) := by
        rw [hCj]; split <;> omega
      rw [e1]
      generalize hc : C j = c at *
      refine ⟨fun σ' H'' => ∃ ws' v7' , σ' = [some (.ref a), some (.str (uS (mTxt C j))), some (.ref pa), some (.ref sa), some (.bl (pCmpF C (j + 1))), some (.int (0 + (j : Int))), some (.int (c : Int)), v7', v8, v9, v10, v11, none] ∧ Same H H'' ∧
        H'' pa = some (.lst us) ∧ H'' sa = some (.lst ws') ∧ Fr pa sa H' H'' ∧ All2 (SgX pa sa H'') ws' ((pChn C (j + 1)).map Lk.sg), ?_, ?_⟩
      · walk_at "rq"
        refine r_ite (fun h1 => ?_) (fun h1 => ?_)
        · have h1 := of_decide_eq_true h1
          obtain ⟨m, rfl⟩ : ∃ m, j = m + 1 := ⟨j - 1, by omega⟩
          have ep : pTxt C (m + 1) = (st2 C m).txt := rfl
          have ec : pCmpF C (m + 1) = (st2 C m).cmp := rfl
          have eh : pChn C (m + 1) = (st2 C m).ch := rfl
          have en : st2 C (m + 1) = nx2 (st2 C m) c := by rw [← hc]; rfl
          have em : mTxt C (m + 1) = (st2 C m).txt ++ sep2 c ++ lS (fixOp (st2 C m).cmp (rawOp c)).txt ++ [32] := by rw [← hc]; rfl
          have en2 : pCmpF C (m + 1 + 1) = nextB (st2 C m).cmp (fixOp (st2 C m).cmp (rawOp c)) := by show (st2 C (m + 1)).cmp = _; rw [en]; rfl
          have en3 : pChn C (m + 1 + 1) = (st2 C m).ch ++ [⟨fixOp (st2 C m).cmp (rawOp c), ((st2 C m).txt ++ sep2 c).length, opd2 c, ((st2 C m).txt ++ sep2 c ++ lS (fixOp (st2 C m).cmp (rawOp c)).txt ++ [32]).length⟩] := by show (st2 C (m + 1)).ch = _; rw [en]; rfl
          have hsl := st2_len C m
          have hcl : (st2 C m).ch.length = m := (st2_cok C m).2.2
          rw [ep, ec]
          rw [eh] at hws
          rw [em, en2, en3]
          generalize st2 C m = S at *
          walk_at "rq"
          intro q1 hq1
          walk_at "rq"
          rw [show (c : Int) % 10 = ((c % 10 : Nat) : Int) by omega]
          have hb1 : (ops10.map fun p => V.str p.txt)[c % 10]? = some (.str (rawOp c).txt) := by
            unfold rawOp
            have : c % 10 < 10 := by omega
            generalize c % 10 = u at *
            match u, this with
            | 0, _ => rfl
            | 1, _ => rfl
            | 2, _ => rfl
            | 3, _ => rfl
            | 4, _ => rfl
            | 5, _ => rfl
            | 6, _ => rfl
            | 7, _ => rfl
            | 8, _ => rfl
            | 9, _ => rfl
            | u + 10, h => omega
          refine r_ixL (xs := ops10.map fun p => V.str p.txt) (SqL.of upd_same) hb1 ?_
          have u1 : Same H' (upd H' q1 (.lst (ops10.map fun p => V.str p.txt))) := Same.new hq1
          change Same H' (upd H' q1 (.lst [.str "or", .str "and", .str "<", .str "<=", .str "==", .str "+", .str "-", .str "*", .str "/", .str "+"])) at u1
          generalize upd H' q1 (.lst [.str "or", .str "and", .str "<", .str "<=", .str "==", .str "+", .str "-", .str "*", .str "/", .str "+"]) = X1 at *
          walk_at "rq"
          refine ⟨fun σ' H'' => σ' = [some (.ref a), some (.str (uS S.txt)), some (.ref pa), some (.ref sa), some (.bl S.cmp), some (.int (0 + ((m + 1 : Nat) : Int))), some (.int (c : Int)), some (.str (fixOp S.cmp (rawOp c)).txt), v8, v9, v10, v11, none] ∧ Same H' H'', ?_, ?_⟩
          · walk_at "rq"
            refine r_ite (fun b1 => ?_) (fun b1 => ?_)
            · walk_at "rq"
              intro q2 hq2
              walk_at "rq"
              refine ⟨q2, _, rfl, .inl (SqL.of upd_same), rfl, rfl, ?_⟩
              rw [inC]
              have u2 : Same H' (upd X1 q2 (.lst [.str "<", .str "<=", .str "=="])) := fun b o h => Same.new hq2 _ _ (u1 _ _ h)
              walk_at "rq"
              refine r_ite (fun b2 => ?_) (fun b2 => ?_) <;> walk_at "rq"
              · refine ⟨?_, u2⟩
                have e : fixOp S.cmp (rawOp c) = .mul := by unfold fixOp; rw [if_pos ⟨b1, of_decide_eq_true b2⟩]
                rw [e]
                rfl
              · refine ⟨?_, u2⟩
                have e : fixOp S.cmp (rawOp c) = rawOp c := by unfold fixOp; rw [if_neg (fun z => of_decide_eq_false b2 z.2)]
                rw [e]
                rfl
            · walk_at "rq"
              refine ⟨?_, u1⟩
              have e : fixOp S.cmp (rawOp c) = rawOp c := by unfold fixOp; rw [if_neg (fun z => by rw [b1] at z; cases z.1)]
              rw [e]
              rfl
          · rintro σ' H'' ⟨rfl, hs2⟩
            generalize fixOp S.cmp (rawOp c) = p at *
            refine ⟨fun σ' X => σ' = [some (.ref a), some (.str (uS S.txt)), some (.ref pa), some (.ref sa), some (.bl (nextB S.cmp p)), some (.int (0 + ((m + 1 : Nat) : Int))), some (.int (c : Int)), some (.str p.txt), v8, v9, v10, v11, none] ∧ Same H' X, ?_, ?_⟩
            · walk_at "rq"
              intro q2 hq2
              walk_at "rq"
              refine ⟨q2, _, rfl, .inl (SqL.of upd_same), rfl, rfl, ?_⟩
              rw [inC]
              have u2 : Same H' (upd H'' q2 (.lst [.str "<", .str "<=", .str "=="])) := fun b o h => Same.new hq2 _ _ (hs2 _ _ h)
              generalize upd H'' q2 (.lst [.str "<", .str "<=", .str "=="]) = X2 at *
              walk_at "rq"
              refine r_ite (fun b1 => ?_) (fun b1 => ?_)
              · have b1 : decide (p.tier = 2) = true := b1
                walk_at "rq"
                refine ⟨?_, u2⟩
                have e : nextB S.cmp p = true := by unfold nextB; rw [b1]; rfl
                rw [e]
                rfl
              · have b1 : decide (p.tier = 2) = false := b1
                walk_at "rq"
                refine r_ite (fun b2 => ?_) (fun b2 => ?_)
                · walk_at "rq"
                  intro q3 hq3
                  walk_at "rq"
                  refine ⟨q3, _, rfl, .inl (SqL.of upd_same), rfl, rfl, ?_⟩
                  rw [inO]
                  walk_at "rq"
                  refine ⟨?_, fun b o h => Same.new hq3 _ _ (u2 _ _ h)⟩
                  have e : nextB S.cmp p = !decide (p.tier < 2) := by unfold nextB; rw [b1, b2]; simp
                  rw [e]
                  rfl
                · walk_at "rq"
                  refine ⟨?_, u2⟩
                  have e : nextB S.cmp p = false := by unfold nextB; rw [b1, b2]; rfl
                  rw [e]
                  rfl
            · rintro σ' X ⟨rfl, hs3⟩
              walk_at "rq"
              intro q4 hq4
              walk_at "rq"
              rw [show (c : Int) / 10 % 2 = ((c / 10 % 2 : Nat) : Int) by omega]
              have hb2 : (seps2.map V.str)[c / 10 % 2]? = some (.str (uS (sep2 c))) := by
                unfold sep2
                rw [List.getElem?_map, List.getElem?_eq_getElem (show c / 10 % 2 < seps2.length by show _ < 2; omega), List.getD_eq_getElem?_getD, List.getElem?_eq_getElem (show c / 10 % 2 < seps2.length by show _ < 2; omega)] <;> rfl
              refine r_ixL (xs := seps2.map V.str) (SqL.of upd_same) hb2 ?_
              have u4 : Same H' (upd X q4 (.lst (seps2.map V.str))) := fun b o h => Same.new hq4 _ _ (hs3 _ _ h)
              change Same H' (upd X q4 (.lst [.str " ", .str "\n "])) at u4
              generalize upd X q4 (.lst [.str " ", .str "\n "]) = X4 at *
              have l1 := sep2_len c
              have l2 := opx_len p
              have l1' : (uS (sep2 c)).length = (sep2 c).length := rfl
              have l2' : p.txt.length = (lS p.txt).length := rfl
              have l3' : (uS S.txt).length = S.txt.length := rfl
              walk_at "rq"
              rw [uS_app]
              have l4 : (uS (S.txt ++ sep2 c)).length = S.txt.length + (sep2 c).length := List.length_append
              walk_at "rq"
              refine ⟨.inl ⟨rfl, _, SqL.of (u4 _ _ hsa')⟩, ?_⟩
              walk_at "rq"
              intro q5 hq5
              have c5 : upd X4 q5 (.lst [.str p.txt, .int ((uS (S.txt ++ sep2 c)).length : Int)]) q5 = some (.lst [.str p.txt, .int ((S.txt ++ sep2 c).length : Int)]) := upd_same
              have u5 : Same X4 (upd X4 q5 (.lst [.str p.txt, .int ((uS (S.txt ++ sep2 c)).length : Int)])) := Same.new hq5
              generalize upd X4 q5 (.lst [.str p.txt, .int ((uS (S.txt ++ sep2 c)).length : Int)]) = X5 at *
              walk_at "rq"
              have hwl : ws.length = m := by rw [hws.len, List.length_map, hcl]
              refine ⟨sa, ws, .ref q5, rfl, rfl, u5 _ _ (u4 _ _ hsa'), by rw [sizeLine_eq]; omega, ?_⟩
              have fr5 : Fr pa sa H' X5 := Fr.same fun b o h => u5 _ _ (u4 _ _ h)
              have fr6 : Fr pa sa H' (upd X5 sa (.lst (ws ++ [.ref q5]))) := fr5.trans (Fr.sety (u5 _ _ (u4 _ _ hsa')))
              have hs6 : Same H (upd X5 sa (.lst (ws ++ [.ref q5]))) := Same.mut (fun b o h => u5 _ _ (u4 _ _ (hs _ _ h))) hsN
              have hp6 : upd X5 sa (.lst (ws ++ [.ref q5])) pa = some (.lst us) := (upd_ne ps).trans (u5 _ _ (u4 _ _ hpa'))
              have hs7 : upd X5 sa (.lst (ws ++ [.ref q5])) sa = some (.lst (ws ++ [.ref q5])) := upd_same
              have hq5s : q5 ≠ sa := Ne.symm (ne_of_none (u4 _ _ hsa') hq5)
              have hq5p : q5 ≠ pa := Ne.symm (ne_of_none (u4 _ _ hpa') hq5)
              have hc6 : upd X5 sa (.lst (ws ++ [.ref q5])) q5 = some (.lst [.str p.txt, .int ((S.txt ++ sep2 c).length : Int)]) := (upd_ne hq5s).trans c5
              generalize upd X5 sa (.lst (ws ++ [.ref q5])) = X6 at *
              walk_at "rq"
              obtain ⟨pl, hpl⟩ : ∃ pl, p.txt = uS pl := ⟨lS p.txt, rfl⟩
              have l5 : (uS (S.txt ++ sep2 c) ++ p.txt).length = S.txt.length + (sep2 c).length + (lS p.txt).length := by
                show (uS (S.txt ++ sep2 c) ++ uS (lS p.txt)).length = _
                rw [uS_app]
                show (S.txt ++ sep2 c ++ lS p.txt).length = _
                rw [List.length_append, List.length_append]
              refine ⟨by rw [l5, sizeLine_eq]; show _ + 1 ≤ _; omega, ?_⟩
              walk_at "rq"
              have e6 : uS (S.txt ++ sep2 c) ++ p.txt ++ (" " : Str) = uS (S.txt ++ sep2 c ++ lS p.txt ++ [32]) := by
                show uS (S.txt ++ sep2 c) ++ uS (lS p.txt) ++ uS [32] = _
                rw [uS_app, uS_app]
              rw [e6]
              refine ⟨ws ++ [.ref q5], some (.str p.txt), rfl, hs6, hp6, hs7, fr6, ?_⟩
              rw [List.map_append]
              exact (hws.mono fun _ _ h => h.fr fr6).app (.cons ⟨q5, rfl, hq5p, hq5s, hc6⟩ .nil)
        · have h1 := of_decide_eq_false h1
          obtain rfl : j = 0 := by omega
          walk_at "rq"
          exact ⟨ws, _, rfl, hs, hpa', hsa', ⟨fun _ _ _ _ h => h, Keep.refl _⟩, hws⟩
      · rintro σ' X0 ⟨ws', v7', rfl, hs0, hpa0, hsa0, fr0, hws0⟩
        have hml := mTxt_len C j
        have hus0 := hus.keep fr0.kp
        have hul : us.length = j := by rw [hus.len, hpl]
        rw [pTxt_succ, pPrt_succ]
        generalize mTxt C j = T at *
        have l0 : (uS T).length = T.length := rfl
        walk_at "rq"
        rw [show (c : Int) / 20 % 4 = ((c / 20 % 4 : Nat) : Int) by omega, l0]
        have sEq := stg_eq c T.length
        rw [hc]
        intro q1 hq1
        have b1 : Tp (upd X0 q1 (.tup [.str "var", .str "x", .int (T.length : Int)])) (.ref q1) (Opd.x.tree T.length) := .tup upd_same (.cons (.str _) (.cons (.str _) (.cons (.int _) .nil)))
        have r1 : Same X0 (upd X0 q1 (.tup [.str "var", .str "x", .int (T.length : Int)])) := Same.new hq1
        generalize upd X0 q1 (.tup [.str "var", .str "x", .int (T.length : Int)]) = X1 at *
        walk_at "rq"
        refine ⟨fun σ' X => ∃ v d z, σ' = [some (.ref a), some (.str (uS T)), some (.ref pa), some (.ref sa), some (.bl (pCmpF C (j + 1))), some (.int (0 + (j : Int))), some (.int (c : Int)), v7', some (.int (T.length : Int)), some (.int ((c / 20 % 4 : Nat) : Int)), some v, some (.str (uS z)), none] ∧ Same X0 X ∧ Tp X v d ∧ stg1 c T.length = (d, z), ?_, ?_⟩
        · walk_at "rq"
          refine r_ite (fun h1 => ?_) (fun h1 => ?_)
          · have h1 := of_decide_eq_true h1
            have h1 : c / 20 % 4 = 1 := by omega
            walk_at "rq"
            rw [show (c : Int) / 80 % 1000 = ((c / 80 % 1000 : Nat) : Int) by omega]
            refine ⟨log_ok (by omega), ?_⟩
            rw [show ((toString ((c / 80 % 1000 : Nat) : Int) : String) : Str) = uS (numS (c / 80 % 1000)) from rfl]
            have h3 := numS3 (c / 80 % 1000) (by omega)
            walk_at "rq"
            refine ⟨_, (digV (numS (c / 80 % 1000)) : Nat), rfl, intText_digits (x := uS (numS (c / 80 % 1000))) (fun a ha => isDigit_ok (numS_digits _ a ha)) (numS_ne _) (by show (numS (c / 80 % 1000)).length ≤ 4300; omega), by show (numS (c / 80 % 1000)).length ≤ 640; omega, ?_⟩
            walk_at "rq"
            intro q2 hq2
            have b2 : Tp (upd X1 q2 (.tup [.int ((digV (numS (c / 80 % 1000)) : Nat) : Int), .int 1])) (.ref q2) (.tuple [.int ((digV (numS (c / 80 % 1000)) : Nat) : Int), .int 1]) := .tup upd_same (.cons (.int _) (.cons (.int _) .nil))
            have r2 : Same X1 (upd X1 q2 (.tup [.int ((digV (numS (c / 80 % 1000)) : Nat) : Int), .int 1])) := Same.new hq2
            generalize upd X1 q2 (.tup [.int ((digV (numS (c / 80 % 1000)) : Nat) : Int), .int 1]) = X2 at *
            walk_at "rq"
            intro q3 hq3
            have b3 : Tp (upd X2 q3 (.tup [])) (.ref q3) (.tuple []) := .tup upd_same .nil
            have r3 : Same X2 (upd X2 q3 (.tup [])) := Same.new hq3
            generalize upd X2 q3 (.tup []) = X3 at *
            walk_at "rq"
            intro q4 hq4
            have kn := Keep.new (o := .tup [.str "number", .ref q2, .ref q3, .int (T.length : Int)]) hq4
            walk_at "rq"
            refine ⟨_, _, _, rfl, fun b o h => Same.new hq4 _ _ (r3 _ _ (r2 _ _ (r1 _ _ h))), .tup upd_same (.cons (.str _) (.cons ((b2.keep (Same.keep r3)).keep kn) (.cons (b3.keep kn) (.cons (.int _) .nil)))), ?_⟩
            unfold stg1
            rw [if_pos h1]
            rfl
          · have h1 := of_decide_eq_false h1
            walk_at "rq"
            refine ⟨_, _, _, rfl, r1, b1, ?_⟩
            unfold stg1
            rw [if_neg (by omega)]
            rfl
        · rintro σ' X ⟨v, d, z, rfl, rs1, bt1, e1⟩
          walk_at "rq"
          refine ⟨fun σ' X => ∃ v d z, σ' = [some (.ref a), some (.str (uS T)), some (.ref pa), some (.ref sa), some (.bl (pCmpF C (j + 1))), some (.int (0 + (j : Int))), some (.int (c : Int)), v7', some (.int (T.length : Int)), some (.int ((c / 20 % 4 : Nat) : Int)), some v, some (.str (uS z)), none] ∧ Same X0 X ∧ Tp X v d ∧ stg2 c T.length = (d, z), ?_, ?_⟩
          · walk_at "rq"
            refine r_ite (fun h1 => ?_) (fun h1 => ?_)
            · have h1 := of_decide_eq_true h1
              have h1 : c / 20 % 4 = 2 := by omega
              walk_at "rq"
              intro q2 hq2
              have b2 : Tp (upd X q2 (.tup [.str "var", .str "y", .int ((T.length : Int) + 2)])) (.ref q2) (.tuple [.str "var", .str "y", .int ((T.length : Int) + 2)]) := .tup upd_same (.cons (.str _) (.cons (.str _) (.cons (.int _) .nil)))
              have r2 : Same X (upd X q2 (.tup [.str "var", .str "y", .int ((T.length : Int) + 2)])) := Same.new hq2
              generalize upd X q2 (.tup [.str "var", .str "y", .int ((T.length : Int) + 2)]) = X2 at *
              walk_at "rq"
              intro q3 hq3
              have b3 : Tp (upd X2 q3 (.tup [.ref q2])) (.ref q3) (.tuple [.tuple [.str "var", .str "y", .int ((T.length : Int) + 2)]]) := .tup upd_same (.cons (b2.keep (Keep.new hq3)) .nil)
              have r3 : Same X2 (upd X2 q3 (.tup [.ref q2])) := Same.new hq3
              generalize upd X2 q3 (.tup [.ref q2]) = X3 at *
              walk_at "rq"
              intro q4 hq4
              walk_at "rq"
              refine ⟨_, _, _, rfl, fun b o h => Same.new hq4 _ _ (r3 _ _ (r2 _ _ (rs1 _ _ h))), .tup upd_same (.cons (.str _) (.cons (.str _) (.cons (b3.keep (Keep.new hq4)) (.cons (.int _) .nil)))), ?_⟩
              unfold stg2
              rw [if_pos h1]
              rfl
            · have h1 := of_decide_eq_false h1
              walk_at "rq"
              refine ⟨_, _, _, rfl, rs1, bt1, ?_⟩
              unfold stg2
              rw [if_neg (by omega), e1]
          · rintro σ' X ⟨v, d, z, rfl, rs2, bt2, e2⟩
            walk_at "rq"
            refine ⟨fun σ' X => ∃ v, σ' = [some (.ref a), some (.str (uS T)), some (.ref pa), some (.ref sa), some (.bl (pCmpF C (j + 1))), some (.int (0 + (j : Int))), some (.int (c : Int)), v7', some (.int (T.length : Int)), some (.int ((c / 20 % 4 : Nat) : Int)), some v, some (.str (uS (opdT c))), none] ∧ Same X0 X ∧ Tp X v ((opd2 c).tree T.length), ?_, ?_⟩
            · walk_at "rq"
              refine r_ite (fun h1 => ?_) (fun h1 => ?_)
              · have h1 := of_decide_eq_true h1
                have h1 : c / 20 % 4 = 3 := by omega
                have e3 : stg3 c T.length = (Opd.pow.tree T.length, lS "x^2^-3") := by unfold stg3; rw [if_pos h1]
                rw [sEq] at e3
                walk_at "rq"
                intro q2 hq2
                have b2 : Tp (upd X q2 (.tup [.str "var", .str "x", .int (T.length : Int)])) (.ref q2) (.tuple [.str "var", .str "x", .int (T.length : Int)]) := .tup upd_same (.cons (.str _) (.cons (.str _) (.cons (.int _) .nil)))
                have r2 : Same X (upd X q2 (.tup [.str "var", .str "x", .int (T.length : Int)])) := Same.new hq2
                generalize upd X q2 (.tup [.str "var", .str "x", .int (T.length : Int)]) = X2 at *
                walk_at "rq"
                intro q3 hq3
                have b3 : Tp (upd X2 q3 (.tup [.str "power", .ref q2, .int 2, .int ((T.length : Int) + 1)])) (.ref q3) (.tuple [.str "power", .tuple [.str "var", .str "x", .int (T.length : Int)], .int 2, .int ((T.length : Int) + 1)]) := .tup upd_same (.cons (.str _) (.cons (b2.keep (Keep.new hq3)) (.cons (.int _) (.cons (.int _) .nil))))
                have r3 : Same X2 (upd X2 q3 (.tup [.str "power", .ref q2, .int 2, .int ((T.length : Int) + 1)])) := Same.new hq3
                generalize upd X2 q3 (.tup [.str "power", .ref q2, .int 2, .int ((T.length : Int) + 1)]) = X3 at *
                walk_at "rq"
                intro q4 hq4
                walk_at "rq"
                have e4 := congrArg Prod.fst e3
                have e5 := congrArg Prod.snd e3
                simp only at e4 e5
                rw [e4, e5]
                exact ⟨_, rfl, fun b o h => Same.new hq4 _ _ (r3 _ _ (r2 _ _ (rs2 _ _ h))), .tup upd_same (.cons (.str _) (.cons (b3.keep (Keep.new hq4)) (.cons (.int _) (.cons (.int _) .nil))))⟩
              · have h1 := of_decide_eq_false h1
                walk_at "rq"
                have e3 : stg3 c T.length = (d, z) := by unfold stg3; rw [if_neg (by omega), e2]
                rw [sEq] at e3
                have e4 := congrArg Prod.fst e3
                have e5 := congrArg Prod.snd e3
                simp only at e4 e5
                rw [e4, e5]
                exact ⟨_, rfl, rs2, bt2⟩
            · rintro σ' X ⟨v, rfl, rs3, bt3⟩
              walk_at "rq"
              refine ⟨.inl ⟨rfl, _, SqL.of (rs3 _ _ hpa0)⟩, ?_⟩
              walk_at "rq"
              refine ⟨pa, us, v, rfl, rfl, rs3 _ _ hpa0, by rw [sizeLine_eq]; omega, ?_⟩
              have hpl3 := rs3 _ _ hpa0
              have fr3 : Fr pa sa X0 (upd X pa (.lst (us ++ [v]))) := (Fr.same rs3).trans (Fr.setx hpl3)
              have km : Keep X (upd X pa (.lst (us ++ [v]))) := Keep.mut hpl3 fun xs z => nomatch z
              have ol := opdT_len c
              have ol' : (uS (opdT c)).length = (opdT c).length := rfl
              walk_at "rq"
              rw [uS_app]
              refine ⟨us ++ [v], ws', _, _, _, _, _, _, _, rfl, Same.mut (fun b o h => rs3 _ _ (hs0 _ _ h)) hpN, upd_same, (upd_ne (Ne.symm ps)).trans (rs3 _ _ hsa0), ?_, hws0.mono fun _ _ h => h.fr fr3, ?_⟩
              · exact ((hus0.keep (Same.keep rs3)).keep km).app (.cons (bt3.keep km) .nil)
              · rw [List.length_append, hpl]; rfl
    · rintro σ' H3 ⟨us, ws, v5, v6, v7, v8, v9, v10, v11, rfl, hs, hpa', hsa', hus, hws, hpl⟩
      have hus : TpAll H3 us ((opd2 (C 0)).tree 5 :: (st2 C N).ch.map Lk.pd) := by rw [Nat.add_comm 1 N] at hus; exact hus
      have hws : All2 (SgX pa sa H3) ws ((st2 C N).ch.map Lk.sg) := by rw [Nat.add_comm 1 N] at hws; exact hws
      have etx : pTxt C (1 + N) = (st2 C N).txt := by rw [Nat.add_comm 1 N]; rfl
      rw [etx]
      have hsl := st2_len C N
      obtain ⟨hcok, _, hcl⟩ := st2_cok C N
      have hsh := st2_show C N (by omega)
      have hlx : Lex 0 ((st2 C N).txt ++ [59]) ((.word "show", 0) :: (toksC (opd2 (C 0)) 5 (st2 C N).ch ++ [(.sign ";", (st2 C N).txt.length)])) none :=
        lex_st2 C N (x := 59) (R := []) (.inr (.inr rfl)) (lex_sign (k := 10) (R := []) (by decide) (by decide) (by decide) .nil)
      generalize st2 C N = S at *
      have l0 : (uS S.txt).length = S.txt.length := rfl
      walk_at "rq"
      refine ⟨by rw [sizeLine_eq, l0]; show _ + 1 ≤ _; omega, ?_⟩
      walk_at "rq"
      have ez : uS S.txt ++ (";" : Str) = uS (S.txt ++ [59]) := uS_app ..
      rw [ez]
      have hzl : (uS (S.txt ++ [59])).length = S.txt.length + 1 := List.length_append
      refine ⟨uS (S.txt ++ [59]), rfl, by omega, .inr ⟨_, none, by omega, hlx, _, line_read hcok (by omega), fun e he => (by cases he), ?_⟩⟩
      intro ds ts' hds p vs H4 hs4 hpn hp hvs
      cases hds
      walk_at "rq"
      have dshow : ShowOk (.list [.tuple [.str "show", tr 5 (opd2 (C 0)) 5 S.ch, .none, .int ((0 : Nat) : Int)]]) 5000 30 := by
        refine (ShowOk.list (w := 4900) (dp := 20) fun d hd => ?_).mono (by show 1 * 4901 ≤ 5000; decide) (by decide)
        rcases List.mem_cons.mp hd with rfl | hd
        · refine (ShowOk.tup4 (ShowOk.str (x := "show") (by unfold Plain; decide +kernel)) hsh ShowOk.none (ShowOk.int (by decide)) (dp := 13) (Nat.zero_le _) (by omega) (Nat.zero_le _) (Nat.zero_le _)).mono ?_ (by decide)
          have e : ("show" : Str).length = 4 := by decide +kernel
          omega
        · cases hd
      refine ⟨p, _, rfl, .lst (SqL.of hp) (TpAll.dp hvs), dshow.sh, dshow.nd, Nat.le_trans dshow.dp (by decide), dshow.fits (by decide), ?_⟩
      walk_at "rq"
      refine ⟨5, pa, sa, opd2 (C 0), 5, S.ch, rfl, by decide, by decide, ⟨us, ws, hs4 _ _ hpa', hs4 _ _ hsa', hus.keep (Same.keep hs4), ⟨pa, sa, hws.mono fun _ _ h => h.fr (Fr.same hs4)⟩, by omega⟩, fun v H5 hs5 hv => ?_⟩
      walk_at "rq"
      intro q1 hq1
      have b1 : Tp (upd H5 q1 (.tup [.str "show", v, .non, .int 0])) (.ref q1) (.tuple [.str "show", tr 5 (opd2 (C 0)) 5 S.ch, .none, .int ((0 : Nat) : Int)]) := .tup upd_same (.cons (.str _) (.cons (hv.keep (Keep.new hq1)) (.cons .non (.cons (.int _) .nil))))
      generalize upd H5 q1 (.tup [.str "show", v, .non, .int 0]) = H6 at *
      walk_at "rq"
      intro q2 hq2
      have b2 := b1.keep (Keep.new (o := .lst [.ref q1]) hq2)
      walk_at "rq"
      refine ⟨q2, _, rfl, .lst (SqL.of upd_same) (.cons b2.dp .nil), dshow.sh, dshow.nd, Nat.le_trans dshow.dp (by decide), dshow.fits (by decide), ?_⟩
      walk_at "rq"
      rw [decide_eq_true (rfl : (PyData.list [.tuple [.str "show", tr 5 (opd2 (C 0)) 5 S.ch, .none, .int ((0 : Nat) : Int)]]).shown = _)]
      exact k _
end
end Al
namespace Al
open PySem PySem.Spec PyProof.Rows L2 NdefX PySem.W
/-! ### own exceptions whose __init__ says super().__init__: facts read off the head -/
def oexB (K : Frag) (C : Addr) : Bool := (match K.lookup C with
  | some ⟨.type t, _, .cls cd, sl⟩ => decide (t = "type") && (match cd.mro, sl.toList with
    | .ref C' :: bm, [_, _, _, _, some (.builtin n), _] => decide (C' = C) && (decide (n = "ValueError.__new__") && (!cd.hasDel && (cd.hasDict && HandSPX.refsVE bm)))
    | _, _ => false)
  | _ => false) && (decide (findIn K (.ref C) "__setattr__" = some (some (.builtin "object.__setattr__"))) && (decide (subIn K (.ref C) (.type "BaseException") = some true) &&
    (decide (typeIn K (.ref C) = some (.type "type")) && keepIn K (.ref C))))
theorem oexB_ok {K : Frag} {C : Addr} (h : oexB K C = true) : OexC K C := by
  obtain ⟨h0, h⟩ := He.ba h
  obtain ⟨h1, h⟩ := He.ba h
  obtain ⟨h2, h⟩ := He.ba h
  obtain ⟨h3, h4⟩ := He.ba h
  refine ⟨?_, of_decide_eq_true h1, of_decide_eq_true h2, of_decide_eq_true h3, h4⟩
  split at h0
  · rename_i t dd cd sl ho
    obtain ⟨ht, h0⟩ := He.ba h0
    split at h0
    · rename_i C' bm k0 k1 k2 k3 n k5 hm hs
      obtain ⟨e1, h0⟩ := He.ba h0
      obtain ⟨e2, h0⟩ := He.ba h0
      obtain ⟨e3, h0⟩ := He.ba h0
      obtain ⟨e4, e5⟩ := He.ba h0
      have e1 := of_decide_eq_true e1
      have e2 := of_decide_eq_true e2
      have ht := of_decide_eq_true ht
      obtain ⟨nm, bs, mro, ns, qn, hd, sn, sub, ab, col, del⟩ := cd
      have e3' : del = false := by
        cases del with
        | false => rfl
        | true => cases e3
      dsimp only at hm e4
      subst hm e1 e2 ht e4 e3'
      have hsl : sl = #[k0, k1, k2, k3, some (.builtin "ValueError.__new__"), k5] := by
        obtain ⟨l⟩ := sl
        simp only at hs
        rw [hs]
      subst hsl
      exact ⟨nm, qn, ns, bs, bm, sn, sub, ab, col, dd, k0, k1, k2, k3, k5, ho, e5⟩
    · cases h0
  · cases h0
/-- one such class: its name, its __init__'s qualified name, its def -/
structure ExD where
  x : Str
  qual : Str
  st : Stmt
  fs : List Str
abbrev ExO : Type := Option (Str × Str × Arguments × FuncBody × Scope × Addr × Addr)
def ExD.val (d : ExD) : ExO := some ("__init__", d.qual, defArgs d.st, .stmts (defBody d.st), defScope d.st, mainGlobals, builtinsNs)
def exI (K : Frag) (d : ExD) : Addr := He.ma K (He.ga K d.x) "__init__"
def exObs (K : Frag) (d : ExD) : ExO := match K.lookup (exI K d) with
  | some ⟨_, _, .func fd, _⟩ => some (fd.name, fd.qualname, fd.params, fd.body, fd.scope, fd.globals, fd.builtins)
  | _ => none
def cellB (K : Frag) (cc D : Addr) : Bool := match K.lookup cc with
  | some ⟨_, _, .cell (some (.ref c)), _⟩ => decide (c = D)
  | _ => false
def codeB (K : Frag) (file : Str) (cda : Addr) : Bool := match K.lookup cda with
  | some ⟨_, _, .fields vs, _⟩ => (match (vs[2]? : Option Value) with
    | some (.str z _) => file == z
    | _ => false)
  | _ => false
def exFnB (K : Frag) (file : Str) (d : ExD) : Bool := match K.lookup (exI K d) with
  | some ⟨_, _, .func fd, _⟩ => (match fd.closure, fd.code, fd.defaults with
    | [(n, cc)], .ref cda, .none => decide (n = "__class__") && (cellB K cc (He.ga K d.x) && (codeB K file cda && codeIn K (.ref cda) d.qual))
    | _, _, _ => false)
  | _ => false
def exB (file : Str) (K : Frag) (d : ExD) : Bool := exFnB K file d && (oexB K (He.ga K d.x) && (xfB K (He.ga K d.x) && (He.eqO (nsIn K mainGlobals d.x) (some (some (.ref (He.ga K d.x)))) &&
  (He.eqO (findIn K (.ref (He.ga K d.x)) "__init__") (some (some (.ref (exI K d)))) && (decide (typeIn K (.ref (exI K d)) = some (.type "function")) &&
  (d.fs.all (fun f => He.eqO (findIn K (.ref (He.ga K d.x)) f) (some none)) && ((clsIn K (He.ga K d.x)).isSome && (decide (mroIn K (He.ga K d.x) (.ref (He.ga K d.x)) = some true) &&
  (He.eqO (ks_superIn K (He.ga K d.x) (He.ga K d.x) "__init__") (some (some (.builtin "ValueError.__init__"))) && (decide (subIn K (.ref (He.ga K d.x)) (.type "ValueError") = some true) && He.eqO (nsIn K cStatics "thirdparty.any") (some none)))))))))))
structure ExF (P : Program) (K : Frag) (mg : Str → Option Value) (d : ExD) : Prop where
  fn : ∃ oc od osl kV doc pm an cda ct cc, K.lookup (exI K d) = some ⟨oc, od, .func (ksFn "__init__" d.qual (defArgs d.st) (defBody d.st) (defScope d.st) .none kV doc pm an (.ref cda) ct cc), osl⟩ ∧ codeIn K (.ref cda) d.qual = true ∧ SupC K mg (He.ga K d.x) cda cc P
  gm : mg d.x = some (.ref (He.ga K d.x))
  fi : findIn K (.ref (He.ga K d.x)) "__init__" = some (some (.ref (exI K d)))
  ty : typeIn K (.ref (exI K d)) = some (.type "function")
  xf : XfC K (He.ga K d.x)
  nf : ∀ f ∈ d.fs, findIn K (.ref (He.ga K d.x)) f = some none
theorem exF_of {P : Program} {K : Frag} {h : Heap} {mg : Str → Option Value} {d : ExD} (X : K.In h) (G : h.Ns mainGlobals mg) (hs : mg "super" = none) (ht : (P.main.scope.names.lookup ("super" : Str)).isSome = false)
    (e : exObs K d = d.val) (c : exB P.main.file K d = true) : ExF P K mg d := by
  obtain ⟨c1, c⟩ := He.ba c
  obtain ⟨c2, c⟩ := He.ba c
  obtain ⟨c3, c⟩ := He.ba c
  obtain ⟨c4, c⟩ := He.ba c
  obtain ⟨c5, c⟩ := He.ba c
  obtain ⟨c6, c⟩ := He.ba c
  obtain ⟨c7, c⟩ := He.ba c
  obtain ⟨c8, c⟩ := He.ba c
  obtain ⟨c9, c⟩ := He.ba c
  obtain ⟨c10, c⟩ := He.ba c
  obtain ⟨c11, c12⟩ := He.ba c
  refine ⟨?_, mg_of X G (He.eqO_ok c4), He.eqO_ok c5, of_decide_eq_true c6, xfB_ok c3, fun f hf => He.eqO_ok (List.all_eq_true.mp c7 f hf)⟩
  unfold exFnB at c1
  unfold exObs at e
  cases q : K.lookup (exI K d) with
  | none =>
    rw [q] at e
    cases e
  | some o =>
    obtain ⟨oc, od, dt, osl⟩ := o
    rw [q] at e c1
    cases dt with
    | func fd =>
      obtain ⟨n1, n2, n3, n4, n5, n6, n7, n8, n9, n10, n11, n12, n13, n14, n15⟩ := fd
      have e2 : (some (n1, n2, n3, n4, n5, n6, n15) : ExO) = some (("__init__" : Str), d.qual, defArgs d.st, .stmts (defBody d.st), defScope d.st, mainGlobals, builtinsNs) := e
      simp only [Option.some.injEq, Prod.mk.injEq] at e2
      obtain ⟨h1, h2, h3, h4, h5, h6, h7⟩ := e2
      subst h1 h2 h3 h4 h5 h6 h7
      have c1' : (match (generalizing := false) n7, n13, n8 with
        | [(n, cc)], .ref cda, .none => decide (n = "__class__") && (cellB K cc (He.ga K d.x) && (codeB K P.main.file cda && codeIn K (.ref cda) d.qual))
        | _, _, _ => false) = true := c1
      split at c1'
      · rename_i n cc cda
        obtain ⟨u1, c1'⟩ := He.ba c1'
        obtain ⟨u2, c1'⟩ := He.ba c1'
        obtain ⟨u3, u4⟩ := He.ba c1'
        have u1 := of_decide_eq_true u1
        subst u1
        refine ⟨oc, od, osl, n9, n10, n11, n12, cda, n14, cc, rfl, u4, oexB_ok c2, ?_, of_decide_eq_true c9, He.eqO_ok c10, of_decide_eq_true c11, hs, He.eqO_ok c12, ?_, ?_, ht⟩
        · exact Option.isSome_iff_exists.mp c8
        · unfold cellB at u2
          split at u2
          · rename_i cl cld D' csl hq
            rw [← of_decide_eq_true u2]
            exact ⟨_, _, _, hq⟩
          · cases u2
        · unfold codeB at u3
          split at u3
          · rename_i ccl cdd vs ccs hq
            split at u3
            · rename_i z tf hz
              exact ⟨_, _, _, _, _, _, hq, hz, u3⟩
            · cases u3
          · cases u3
      · cases c1'
    | _ => cases c1
/-! ### the Hook -/
abbrev AlE : Type := He.AlD × List ExO × Bool
def obsK (fa : List He.Fa) (fn : List He.DefD) (exs : List ExD) (ex : Frag → Bool) (K : Frag) : AlE := (He.obsD fa fn K, exs.map (exObs K), ex K)
def valK (fn : List He.DefD) (exs : List ExD) : AlE := (He.valD fn, exs.map ExD.val, true)
def frE (g : Addr → Option Obj) (n : Nat) : Frag := He.frG g (cStatics :: He.asD g n)
structure SaysE (fa : List He.Fa) (fn : List He.DefD) (exs : List ExD) (ex : Frag → Bool) (K : Frag) : Prop where
  d : He.SaysD fa fn K
  o : exs.map (exObs K) = exs.map ExD.val
  b : ex K = true
def hookE (n : Nat) (fa : List He.Fa) (fn : List He.DefD) (exs : List ExD) (ex : Frag → Bool) : Hook where
  α := AlE
  obs := fun s => obsK fa fn exs ex (frE s.heap.get? n)
  val := fun _ => valK fn exs
  says := fun _ h => ∃ K : Frag, K.In h ∧ SaysE fa fn exs ex K
  of := fun _ _ e => ⟨_, He.frG_in, congrArg (fun z : AlE => z.1) e, congrArg (fun z : AlE => z.2.1) e, congrArg (fun z : AlE => z.2.2) e⟩
  keeps := fun _ _ _ ⟨K, hK, c⟩ k => ⟨K, Frag.In.keeps hK k, c⟩
theorem obsK_eq {n : Nat} {fa : List He.Fa} {fn : List He.DefD} {exs : List ExD} {ex : Frag → Bool} {g : Addr → Option Obj} {s : Shared} (h : ∀ a, g a = s.heap.get? a) : obsK fa fn exs ex (frE g n) = (hookE n fa fn exs ex).obs s := by
  have e : g = s.heap.get? := funext h
  rw [e] <;> rfl
theorem SaysE.exo {fa : List He.Fa} {fn : List He.DefD} {exs : List ExD} {ex : Frag → Bool} {K : Frag} (c : SaysE fa fn exs ex K) (i : Nat) {d : ExD} (h : exs[i]? = some d := by rfl) : exObs K d = d.val := by
  have e2 : (exs.map (exObs K))[i]? = (exs.map ExD.val)[i]? := by rw [c.o]
  rw [List.getElem?_map, List.getElem?_map, h] at e2
  exact Option.some.inj e2
/-- a def as the head tells it -/
def dfn (x : Str) (st : Stmt) : He.DefD := ⟨(x, none), x, x, defArgs st, defBody st, defScope st, [], []⟩
theorem defAt_of {fa : List He.Fa} {fn : List He.DefD} {K : Frag} {h : Heap} {mg : Str → Option Value} (X : K.In h) (G : h.Ns mainGlobals mg) (c : He.SaysD fa fn K) (i j : Nat) {x : Str} {st : Stmt} (hd : fn[i]? = some (dfn x st) := by rfl) (hf : fa[j]? = some (.glo x) := by rfl) :
    DefAt K mg x st := by
  obtain ⟨fd, F⟩ := c.def_ i hd
  exact ⟨_, fd, He.glo_ok X G (c.fact j hf), F⟩
/-- the end of a law over a head by facts -/
theorem walk_W {l : OpenLaw} {n : Nat} {q : Program} {loose : List Str} {XP : (Str → Option Value) → Heap → Prop} {YP : World → Heap → Prop} {d : DefRec} {CX : World → CXT} {x : Str}
    (hn : l.most = some n) (hn2 : n ≤ sizeLine) (hdf : d.params.defaults = [])
    (F : ∀ (w : World) (mg : Str → Option Value) (fa : Addr) (h : Heap), YP w h → h.Ns mainGlobals mg → mg d.name = some (.ref fa) →
      ∃ (K : Frag) (fd : FuncData) (sp : Sp), K.In h ∧ (∀ (s : Shared) (u : Value), BindsTo s fd ⟨[u], []⟩ [(x, u)]) ∧
        (∀ (H : Hp) (a : Addr) (ns : List Int), ns.length ≤ n → Only H → SqL K H a (ns.map V.int) → sp [.ref a] H (fun v _ => v = .bl true) fun _ _ _ => False) ∧
        ∀ base : Heap, K.In base → base.Ns mainGlobals mg → FnC l.prog w K mg base (CX w) fa fd [x] sp)
    (noexc : ∀ (w : World) (H : Hp) (s : Shared) (e : Value) (s' : Shared), CX w [] H s (fun _ _ _ => False) e s' → False) :
    WalkO q loose XP YP l.row.toRowW d [] (fun f vs => PySem.call f vs) := by
  refine Att.attach_call hn hdf ?_
  intro w s₀ s₁ mg mb fa o pm cd doc a vs ns G Y ho hd hcd hmg hobj hints hlen hg
  obtain ⟨K, fd, sp, KX, hb, hsp, hF⟩ := F w mg fa _ Y G.T.g hmg
  exact law_callC KX G.T.g G.T.b G.T.builtins G.T.nolimit hg hobj hints (Nat.le_trans hlen hn2) hF hb (fun H o s => hsp H a ns hlen o s) (fun H e s' => noexc w H s₁ e s')
end Al
namespace Al
open PySem PySem.Spec PyProof.Rows L2 NdefX PySem.W
/-! ### the Hook with tables of text keys; classes with methods -/
abbrev AlF : Type := AlE × List (Option (List (Option (Str × Int))))
def obsF (fa : List He.Fa) (fn : List He.DefD) (exs : List ExD) (ex : Frag → Bool) (ts : List He.Tab) (K : Frag) : AlF := (obsK fa fn exs ex K, ts.map fun t => He.dicW K (t.1 K))
def valF (fn : List He.DefD) (exs : List ExD) (ts : List He.Tab) (w : World) : AlF := (valK fn exs, ts.map fun t => some (He.keysIn w.params t.2))
structure SaysF (fa : List He.Fa) (fn : List He.DefD) (exs : List ExD) (ex : Frag → Bool) (ts : List He.Tab) (w : World) (K : Frag) : Prop where
  e : SaysE fa fn exs ex K
  t : ts.map (fun t => He.dicW K (t.1 K)) = ts.map fun t => some (He.keysIn w.params t.2)
def hookF (n : Nat) (fa : List He.Fa) (fn : List He.DefD) (exs : List ExD) (ex : Frag → Bool) (ts : List He.Tab) : Hook where
  α := AlF
  obs := fun s => obsF fa fn exs ex ts (frE s.heap.get? n)
  val := fun w => valF fn exs ts w
  says := fun w h => ∃ K : Frag, K.In h ∧ SaysF fa fn exs ex ts w K
  of := fun _ _ e => ⟨_, He.frG_in, ⟨congrArg (fun z : AlF => z.1.1) e, congrArg (fun z : AlF => z.1.2.1) e, congrArg (fun z : AlF => z.1.2.2) e⟩, congrArg (fun z : AlF => z.2) e⟩
  keeps := fun _ _ _ ⟨K, hK, c⟩ k => ⟨K, Frag.In.keeps hK k, c⟩
theorem obsF_eq {n : Nat} {fa : List He.Fa} {fn : List He.DefD} {exs : List ExD} {ex : Frag → Bool} {ts : List He.Tab} {g : Addr → Option Obj} {s : Shared} (h : ∀ a, g a = s.heap.get? a) : obsF fa fn exs ex ts (frE g n) = (hookF n fa fn exs ex ts).obs s := by
  have e : g = s.heap.get? := funext h
  rw [e] <;> rfl
section
variable {fa : List He.Fa} {fn : List He.DefD} {exs : List ExD} {ex : Frag → Bool} {ts : List He.Tab} {w : World} {K : Frag} {h : Heap} {mg : Str → Option Value}
theorem SaysF.tab (c : SaysF fa fn exs ex ts w K) (i : Nat) {t : He.Tab} (h : ts[i]? = some t := by rfl) : He.dicW K (t.1 K) = some (He.keysIn w.params t.2) := by
  have e2 : (ts.map fun t => He.dicW K (t.1 K))[i]? = (ts.map fun t => some (He.keysIn w.params t.2))[i]? := by rw [c.t]
  rw [List.getElem?_map, List.getElem?_map, h] at e2
  exact Option.some.inj e2
theorem kdct_of {a : Addr} {ks : List Str} {kvs : List (Str × He.Dv)} (h : He.dicW K a = some (He.keysIn w.params ks)) (hv : He.valsB K a kvs = true) {q : Str × He.Dv} (hq : q ∈ kvs) : KDct K w a q.1 (q.2.v K) := by
  obtain ⟨es, n, hk⟩ := He.dicW_ok h
  obtain ⟨u, h1, h2⟩ := He.valsB_ok hv hq
  exact ⟨es, n, u, hk.at_, hk.lit, h1, h2⟩
theorem kkeys_of {a : Addr} {P : Params} {ks : List Str} (h : He.dicW K a = some (He.keysIn P ks)) : KKeys K a ks := by
  unfold He.dicW at h
  split at h
  · rename_i c es n sl hl
    split at h
    · rename_i hb
      obtain ⟨b1, b2⟩ := He.ba hb
      obtain ⟨b3, b4⟩ := He.ba b2
      have b1 := of_decide_eq_true b1
      subst b1
      have b3 : sl = #[] := Array.isEmpty_iff.mp b3
      subst b3
      have h := Option.some.inj h
      have hlen : es.size = ks.length := by
        have := congrArg List.length h
        rw [List.length_map] at this
        unfold He.keysIn at this
        rw [List.length_map] at this
        exact this
      refine ⟨by simpa using b4, es, n, hl, hlen, fun i z hz => ?_⟩
      have hi : i < es.size := by rw [hlen]; exact (List.getElem?_eq_some_iff.mp hz).1
      have e1 : (es.toList.map He.keyOf)[i]? = (He.keysIn P ks)[i]? := by rw [h]
      unfold He.keysIn at e1
      rw [List.getElem?_map, List.getElem?_map, hz, Array.getElem?_toList, Array.getElem?_eq_getElem hi] at e1
      have e2 : He.keyOf es[i] = some (z, PyData.keyHash P z) := Option.some.inj e1
      unfold He.keyOf at e2
      split at e2
      · rename_i x t q
        have := Option.some.inj e2
        have e3 : x = z := congrArg Prod.fst this
        exact ⟨es[i], t, Array.getElem?_eq_getElem hi, by rw [q, e3]⟩
      · cases e2
    · cases h
  · cases h
/-- a method as the head tells it -/
def mfn (C m : Str) (st : Stmt) : He.DefD := ⟨(C, some m), m, C ++ ("." : Str) ++ m, defArgs st, defBody st, defScope st, [], []⟩
theorem metAt_of (c : He.SaysD fa fn K) (i j k : Nat) {x m q : Str} {st : Stmt} (hq : x ++ ("." : Str) ++ m = q) (hd : fn[i]? = some (mfn x m st) := by rfl) (hf : fa[j]? = some (.meth x m) := by rfl) (hc : fa[k]? = some (.cls x) := by rfl) : MetAt K (He.ga K x) m q st := by
  subst hq
  obtain ⟨fd, F⟩ := c.def_ i hd
  exact ⟨_, fd, He.cls_ok (c.fact k hc), He.meth_ok (c.fact j hf), F⟩
theorem makAt_of (X : K.In h) (G : h.Ns mainGlobals mg) (c : He.SaysD fa fn K) (i j k : Nat) {x q : Str} {st : Stmt} (hq : x ++ ("." : Str) ++ ("__init__" : Str) = q) (hd : fn[i]? = some (mfn x "__init__" st) := by rfl) (hf : fa[j]? = some (.mkr x) := by rfl) (hc : fa[k]? = some (.glo x) := by rfl) : MakAt K mg x q (He.ga K x) st := by
  subst hq
  obtain ⟨fd, F⟩ := c.def_ i hd
  exact ⟨_, fd, He.glo_ok X G (c.fact k hc), He.mkr_ok (c.fact j hf), F⟩
end
end Al
namespace Al
open PySem PySem.Spec PyProof.Rows L2 NdefX PySem.W
abbrev R : OpenRow := OpenLaw.row PySem.Challenge.rw_alnage_k02_chains_and_levels
abbrev sIMalformed : Stmt := inClass (top 2) 0
def xdMalformed : ExD := ⟨"Malformed", "Malformed.__init__", sIMalformed, ["at"]⟩
abbrev sIOversized : Stmt := inClass (top 3) 0
def xdOversized : ExD := ⟨"Oversized", "Oversized.__init__", sIOversized, ["limit"]⟩
def exs : List ExD := [xdMalformed, xdOversized]
def fns : List He.DefD := [dfn "is_letter" (top 9), dfn "is_digit" (top 10), dfn "in_name" (top 11), dfn "run_end" (top 12), dfn "digits_end" (top 13), dfn "comment_end" (top 14), dfn "read_word" (top 15), dfn "read_number" (top 16), dfn "read_sign" (top 17), dfn "tokens" (top 18), dfn "read_power" (top 26), dfn "read_product" (top 27), dfn "read_call" (top 28), dfn "read_primary" (top 29), dfn "read_powers" (top 30), dfn "read_factors" (top 31), dfn "read_terms" (top 32), dfn "read_plain" (top 33), dfn "read_both" (top 34), dfn "read_expression" (top 35), dfn "read_parameters" (top 36), dfn "read_line" (top 37), dfn "parse" (top 38), dfn "_law_cell" (top 40), dfn "_law_group" (top 41), dfn "_law_tree" (top 42), dfn "law" (top 43), mfn "Reader" "__init__" (inClass (top 25) 0), mfn "Reader" "at" (inClass (top 25) 1), mfn "Reader" "sees" (inClass (top 25) 2), mfn "Reader" "sees_kind" (inClass (top 25) 3), mfn "Reader" "accept" (inClass (top 25) 4), mfn "Reader" "expect" (inClass (top 25) 5), mfn "Reader" "read" (inClass (top 25) 6), mfn "Reader" "whole" (inClass (top 25) 7), mfn "Reader" "deeper" (inClass (top 25) 8)]
def fas : List He.Fa := ([.free "len", .free "str", .free "int", .free "abs", .free "min", .free "max", .free "range", .free "repr", .free "isinstance", .free "dict", .free "list", .free "tuple", .free "sorted", .free "any", .free "all", .free "sum", .free "reversed", .free "super", .free "bool", .glo "is_letter", .glo "is_digit", .glo "in_name", .glo "run_end", .glo "digits_end", .glo "comment_end", .glo "read_word", .glo "read_number", .glo "read_sign", .glo "tokens", .glo "read_power", .glo "read_product", .glo "read_call", .glo "read_primary", .glo "read_powers", .glo "read_factors", .glo "read_terms", .glo "read_plain", .glo "read_both", .glo "read_expression", .glo "read_parameters"] : List He.Fa) ++ ([.glo "read_line", .glo "parse", .glo "_law_cell", .glo "_law_group", .glo "_law_tree", .glo "law", .glo "RESERVED", .glo "SIGNS", .int "MAX_TEXT" 12000, .int "MAX_NAME" 16, .int "MAX_DEPTH" 24, .int "MAX_POWER" 9, .exm "Malformed" "Malformed" true, .exm "Oversized" "Oversized" true, .glo "Reader", .cls "Reader", .mkr "Reader", .noat "Reader" "rest", .noat "Reader" "place", .noat "Reader" "limit", .meth "Reader" "at", .meth "Reader" "sees", .meth "Reader" "sees_kind", .meth "Reader" "accept", .meth "Reader" "expect", .meth "Reader" "read", .meth "Reader" "whole", .meth "Reader" "deeper", .glo "SUMS", .glo "PRODUCTS", .glo "COMPARISONS"] : List He.Fa)
def dSUMS : List (Str × He.Dv) := [("+", .str "add"), ("-", .str "sub")]
def dPRODUCTS : List (Str × He.Dv) := [("*", .str "mul"), ("/", .str "div")]
def dCOMPARISONS : List (Str × He.Dv) := [("<", .str "lt"), ("<=", .str "le"), ("==", .str "eq")]
def tabs : List He.Tab := [(fun K => He.ga K "SUMS", ["+", "-"]), (fun K => He.ga K "PRODUCTS", ["*", "/"]), (fun K => He.ga K "COMPARISONS", ["<", "<=", "=="])]
def exFacts (K : Frag) : Bool := exs.all (exB R.prog.main.file K) && He.tupB K "RESERVED" (RES.map He.Dv.str) && He.tupB K "SIGNS" (SIG.map He.Dv.str) && He.valsB K (He.ga K "SUMS") dSUMS && He.valsB K (He.ga K "PRODUCTS") dPRODUCTS && He.valsB K (He.ga K "COMPARISONS") dCOMPARISONS
abbrev hk : Hook := hookF 6 fas fns exs exFacts tabs
def ob (s : SharedT) : AlF := obsF fas fns exs exFacts tabs (frE (HandSHeadRun.getT s) 6)
theorem ob_eq (s : SharedT) : ob s = hk.obs s.abs := obsF_eq (HandSHeadRun.getT_eq s)
def loose : List Str := (["__name__", "Refused", "Malformed", "Oversized", "MAX_TEXT", "MAX_NAME", "RESERVED", "SIGNS", "is_letter", "is_digit", "in_name", "run_end", "digits_end", "comment_end", "read_word", "read_number", "read_sign", "tokens", "MAX_DEPTH", "MAX_POWER"] : List Str) ++ (["SUMS", "PRODUCTS", "COMPARISONS", "Reader", "read_power", "read_product", "read_call", "read_primary", "read_powers", "read_factors", "read_terms", "read_plain", "read_both", "read_expression", "read_parameters", "read_line", "parse", "_law_cell", "_law_group", "_law_tree"] : List Str)
theorem top_run (w : World) : HandSHeadRun.RunEq R (view R.prog [43]) hk ob 8000 loose w :=
  byRow2 "special-get-raises" (P := fun w => HandSHeadRun.RunEq R (view R.prog [43]) hk ob 8000 loose w) (fun w => by intro os; kernel_rfl) (fun w => by intro os; kernel_rfl) w
section
variable {P : Program} {w : World} {K : Frag} {mg : Str → Option Value} {base h : Heap}
theorem bl_of (X : K.In h) (G : h.Ns mainGlobals mg) (c : He.SaysD fas fns K) : Bl mg :=
  ⟨He.free_ok X G (c.fact 0 (f := .free "len") rfl), He.free_ok X G (c.fact 1 (f := .free "str") rfl), He.free_ok X G (c.fact 2 (f := .free "int") rfl), He.free_ok X G (c.fact 3 (f := .free "abs") rfl), He.free_ok X G (c.fact 4 (f := .free "min") rfl), He.free_ok X G (c.fact 5 (f := .free "max") rfl), He.free_ok X G (c.fact 6 (f := .free "range") rfl), He.free_ok X G (c.fact 7 (f := .free "repr") rfl), He.free_ok X G (c.fact 8 (f := .free "isinstance") rfl), He.free_ok X G (c.fact 9 (f := .free "dict") rfl), He.free_ok X G (c.fact 10 (f := .free "list") rfl), He.free_ok X G (c.fact 11 (f := .free "tuple") rfl), He.free_ok X G (c.fact 12 (f := .free "sorted") rfl), He.free_ok X G (c.fact 13 (f := .free "any") rfl), He.free_ok X G (c.fact 14 (f := .free "all") rfl), He.free_ok X G (c.fact 15 (f := .free "sum") rfl), He.free_ok X G (c.fact 16 (f := .free "reversed") rfl), He.free_ok X G (c.fact 17 (f := .free "super") rfl), He.free_ok X G (c.fact 18 (f := .free "bool") rfl)⟩
theorem at_is_letter (X : K.In h) (G : h.Ns mainGlobals mg) (c : He.SaysD fas fns K) : DefAt K mg "is_letter" (top 9) := defAt_of X G c 0 19
theorem at_is_digit (X : K.In h) (G : h.Ns mainGlobals mg) (c : He.SaysD fas fns K) : DefAt K mg "is_digit" (top 10) := defAt_of X G c 1 20
theorem at_in_name (X : K.In h) (G : h.Ns mainGlobals mg) (c : He.SaysD fas fns K) : DefAt K mg "in_name" (top 11) := defAt_of X G c 2 21
theorem at_run_end (X : K.In h) (G : h.Ns mainGlobals mg) (c : He.SaysD fas fns K) : DefAt K mg "run_end" (top 12) := defAt_of X G c 3 22
theorem at_digits_end (X : K.In h) (G : h.Ns mainGlobals mg) (c : He.SaysD fas fns K) : DefAt K mg "digits_end" (top 13) := defAt_of X G c 4 23
theorem at_comment_end (X : K.In h) (G : h.Ns mainGlobals mg) (c : He.SaysD fas fns K) : DefAt K mg "comment_end" (top 14) := defAt_of X G c 5 24
theorem at_read_word (X : K.In h) (G : h.Ns mainGlobals mg) (c : He.SaysD fas fns K) : DefAt K mg "read_word" (top 15) := defAt_of X G c 6 25
theorem at_read_number (X : K.In h) (G : h.Ns mainGlobals mg) (c : He.SaysD fas fns K) : DefAt K mg "read_number" (top 16) := defAt_of X G c 7 26
theorem at_read_sign (X : K.In h) (G : h.Ns mainGlobals mg) (c : He.SaysD fas fns K) : DefAt K mg "read_sign" (top 17) := defAt_of X G c 8 27
theorem at_tokens (X : K.In h) (G : h.Ns mainGlobals mg) (c : He.SaysD fas fns K) : DefAt K mg "tokens" (top 18) := defAt_of X G c 9 28
theorem at_read_power (X : K.In h) (G : h.Ns mainGlobals mg) (c : He.SaysD fas fns K) : DefAt K mg "read_power" (top 26) := defAt_of X G c 10 29
theorem at_read_product (X : K.In h) (G : h.Ns mainGlobals mg) (c : He.SaysD fas fns K) : DefAt K mg "read_product" (top 27) := defAt_of X G c 11 30
theorem at_read_call (X : K.In h) (G : h.Ns mainGlobals mg) (c : He.SaysD fas fns K) : DefAt K mg "read_call" (top 28) := defAt_of X G c 12 31
theorem at_read_primary (X : K.In h) (G : h.Ns mainGlobals mg) (c : He.SaysD fas fns K) : DefAt K mg "read_primary" (top 29) := defAt_of X G c 13 32
theorem at_read_powers (X : K.In h) (G : h.Ns mainGlobals mg) (c : He.SaysD fas fns K) : DefAt K mg "read_powers" (top 30) := defAt_of X G c 14 33
theorem at_read_factors (X : K.In h) (G : h.Ns mainGlobals mg) (c : He.SaysD fas fns K) : DefAt K mg "read_factors" (top 31) := defAt_of X G c 15 34
theorem at_read_terms (X : K.In h) (G : h.Ns mainGlobals mg) (c : He.SaysD fas fns K) : DefAt K mg "read_terms" (top 32) := defAt_of X G c 16 35
theorem at_read_plain (X : K.In h) (G : h.Ns mainGlobals mg) (c : He.SaysD fas fns K) : DefAt K mg "read_plain" (top 33) := defAt_of X G c 17 36
theorem at_read_both (X : K.In h) (G : h.Ns mainGlobals mg) (c : He.SaysD fas fns K) : DefAt K mg "read_both" (top 34) := defAt_of X G c 18 37
theorem at_read_expression (X : K.In h) (G : h.Ns mainGlobals mg) (c : He.SaysD fas fns K) : DefAt K mg "read_expression" (top 35) := defAt_of X G c 19 38
theorem at_read_parameters (X : K.In h) (G : h.Ns mainGlobals mg) (c : He.SaysD fas fns K) : DefAt K mg "read_parameters" (top 36) := defAt_of X G c 20 39
theorem at_read_line (X : K.In h) (G : h.Ns mainGlobals mg) (c : He.SaysD fas fns K) : DefAt K mg "read_line" (top 37) := defAt_of X G c 21 40
theorem at_parse (X : K.In h) (G : h.Ns mainGlobals mg) (c : He.SaysD fas fns K) : DefAt K mg "parse" (top 38) := defAt_of X G c 22 41
theorem at_law_cell (X : K.In h) (G : h.Ns mainGlobals mg) (c : He.SaysD fas fns K) : DefAt K mg "_law_cell" (top 40) := defAt_of X G c 23 42
theorem at_law_group (X : K.In h) (G : h.Ns mainGlobals mg) (c : He.SaysD fas fns K) : DefAt K mg "_law_group" (top 41) := defAt_of X G c 24 43
theorem at_law_tree (X : K.In h) (G : h.Ns mainGlobals mg) (c : He.SaysD fas fns K) : DefAt K mg "_law_tree" (top 42) := defAt_of X G c 25 44
theorem at_law (X : K.In h) (G : h.Ns mainGlobals mg) (c : He.SaysD fas fns K) : DefAt K mg "law" (top 43) := defAt_of X G c 26 45
theorem int_MAX_TEXT (X : K.In h) (G : h.Ns mainGlobals mg) (c : He.SaysD fas fns K) : ∃ t, mg "MAX_TEXT" = some (.int 12000 t) := He.int_ok X G (c.fact 48 (f := .int "MAX_TEXT" 12000) rfl)
theorem int_MAX_NAME (X : K.In h) (G : h.Ns mainGlobals mg) (c : He.SaysD fas fns K) : ∃ t, mg "MAX_NAME" = some (.int 16 t) := He.int_ok X G (c.fact 49 (f := .int "MAX_NAME" 16) rfl)
theorem int_MAX_DEPTH (X : K.In h) (G : h.Ns mainGlobals mg) (c : He.SaysD fas fns K) : ∃ t, mg "MAX_DEPTH" = some (.int 24 t) := He.int_ok X G (c.fact 50 (f := .int "MAX_DEPTH" 24) rfl)
theorem int_MAX_POWER (X : K.In h) (G : h.Ns mainGlobals mg) (c : He.SaysD fas fns K) : ∃ t, mg "MAX_POWER" = some (.int 9 t) := He.int_ok X G (c.fact 51 (f := .int "MAX_POWER" 9) rfl)
theorem glo_RESERVED (X : K.In h) (G : h.Ns mainGlobals mg) (c : He.SaysD fas fns K) : mg "RESERVED" = some (.ref (He.ga K "RESERVED")) := He.glo_ok X G (c.fact 46 (f := .glo "RESERVED") rfl)
theorem glo_SIGNS (X : K.In h) (G : h.Ns mainGlobals mg) (c : He.SaysD fas fns K) : mg "SIGNS" = some (.ref (He.ga K "SIGNS")) := He.glo_ok X G (c.fact 47 (f := .glo "SIGNS") rfl)
theorem exm_Malformed (c : He.SaysD fas fns K) : exmOne K (.ref (He.ga K "Malformed")) (.ref (He.ga K "Malformed")) = some true := He.exm_ok (c.fact 52 (f := .exm "Malformed" "Malformed" true) rfl)
theorem exm_Oversized (c : He.SaysD fas fns K) : exmOne K (.ref (He.ga K "Oversized")) (.ref (He.ga K "Oversized")) = some true := He.exm_ok (c.fact 53 (f := .exm "Oversized" "Oversized" true) rfl)
theorem glo_law (X : K.In h) (G : h.Ns mainGlobals mg) (c : He.SaysD fas fns K) : mg "law" = some (.ref (He.ga K "law")) := He.glo_ok X G (c.fact 45 (f := .glo "law") rfl)
theorem fn_law (c : He.SaysD fas fns K) : ∃ fd, FnP K "law" (top 43) (He.ga K "law") fd := c.def_ 26 (d := dfn "law" (top 43)) rfl
theorem cls_Reader (c : He.SaysD fas fns K) : Cls K (He.ga K "Reader") := He.cls_ok (c.fact 55 (f := .cls "Reader") rfl)
theorem noat_Reader_rest (c : He.SaysD fas fns K) : NoAttr K (He.ga K "Reader") "rest" := He.noat_ok (c.fact 57 (f := .noat "Reader" "rest") rfl)
theorem noat_Reader_place (c : He.SaysD fas fns K) : NoAttr K (He.ga K "Reader") "place" := He.noat_ok (c.fact 58 (f := .noat "Reader" "place") rfl)
theorem noat_Reader_limit (c : He.SaysD fas fns K) : NoAttr K (He.ga K "Reader") "limit" := He.noat_ok (c.fact 59 (f := .noat "Reader" "limit") rfl)
theorem mak_at_Reader (X : K.In h) (G : h.Ns mainGlobals mg) (c : He.SaysD fas fns K) : MakAt K mg "Reader" "Reader.__init__" (He.ga K "Reader") (inClass (top 25) 0) := makAt_of X G c 27 56 54 (by decide +kernel)
theorem met_at_Reader_at (c : He.SaysD fas fns K) : MetAt K (He.ga K "Reader") "at" "Reader.at" (inClass (top 25) 1) := metAt_of c 28 60 55 (by decide +kernel)
theorem met_at_Reader_sees (c : He.SaysD fas fns K) : MetAt K (He.ga K "Reader") "sees" "Reader.sees" (inClass (top 25) 2) := metAt_of c 29 61 55 (by decide +kernel)
theorem met_at_Reader_sees_kind (c : He.SaysD fas fns K) : MetAt K (He.ga K "Reader") "sees_kind" "Reader.sees_kind" (inClass (top 25) 3) := metAt_of c 30 62 55 (by decide +kernel)
theorem met_at_Reader_accept (c : He.SaysD fas fns K) : MetAt K (He.ga K "Reader") "accept" "Reader.accept" (inClass (top 25) 4) := metAt_of c 31 63 55 (by decide +kernel)
theorem met_at_Reader_expect (c : He.SaysD fas fns K) : MetAt K (He.ga K "Reader") "expect" "Reader.expect" (inClass (top 25) 5) := metAt_of c 32 64 55 (by decide +kernel)
theorem met_at_Reader_read (c : He.SaysD fas fns K) : MetAt K (He.ga K "Reader") "read" "Reader.read" (inClass (top 25) 6) := metAt_of c 33 65 55 (by decide +kernel)
theorem met_at_Reader_whole (c : He.SaysD fas fns K) : MetAt K (He.ga K "Reader") "whole" "Reader.whole" (inClass (top 25) 7) := metAt_of c 34 66 55 (by decide +kernel)
theorem met_at_Reader_deeper (c : He.SaysD fas fns K) : MetAt K (He.ga K "Reader") "deeper" "Reader.deeper" (inClass (top 25) 8) := metAt_of c 35 67 55 (by decide +kernel)
theorem glo_SUMS (X : K.In h) (G : h.Ns mainGlobals mg) (c : He.SaysD fas fns K) : mg "SUMS" = some (.ref (He.ga K "SUMS")) := He.glo_ok X G (c.fact 68 (f := .glo "SUMS") rfl)
theorem glo_PRODUCTS (X : K.In h) (G : h.Ns mainGlobals mg) (c : He.SaysD fas fns K) : mg "PRODUCTS" = some (.ref (He.ga K "PRODUCTS")) := He.glo_ok X G (c.fact 69 (f := .glo "PRODUCTS") rfl)
theorem glo_COMPARISONS (X : K.In h) (G : h.Ns mainGlobals mg) (c : He.SaysD fas fns K) : mg "COMPARISONS" = some (.ref (He.ga K "COMPARISONS")) := He.glo_ok X G (c.fact 70 (f := .glo "COMPARISONS") rfl)
end
end Al
namespace Al
open PySem PySem.Spec PyProof.Rows L2 NdefX PySem.W
section
variable {P : Program} {w : World} {K : Frag} {mg : Str → Option Value} {base h : Heap}
theorem scMal : NScope ["self", "at", "__class__"] ["self", "at"] ["__class__"] (defScope sIMalformed) := nscope_by (by decide +kernel)
theorem scOver : NScope ["self", "limit", "__class__"] ["self", "limit"] ["__class__"] (defScope sIOversized) := nscope_by (by decide +kernel)
theorem exc_Malformed (F : ExF P K mg xdMalformed) (hs : mg "str" = none) : ExC1 P w K mg base "Malformed" (He.ga K "Malformed") "at" CMal := by
  obtain ⟨oc, od, osl, kV, doc, pm, an, cda, ct, cc, lk, hcd, T⟩ := F.fn
  refine ⟨F.gm, T.ox, ⟨_, ksFn "__init__" "Malformed.__init__" (defArgs sIMalformed) (defBody sIMalformed) (defScope sIMalformed) .none kV doc pm an (.ref cda) ct cc, F.fi, F.ty, Binds.all fun us hl => match us, hl with | [_, _], _ => rfl, ?_⟩, F.xf, F.nf _ (by simp [xdMalformed])⟩
  · refine fn_super (N := ["self", "at", "__class__"]) lk hcd T scMal rfl rfl (by decide +kernel) (fun _ => rfl) (fun L env e => ⟨_, by subst e; rfl⟩) (fun L env e => by subst e; rfl) (fun vs H Q E h => ?_) (fun A outer s H vs Q E hr h => ?_)
    · obtain ⟨x, v, rfl, _⟩ := h
      rfl
    · obtain ⟨x, v, rfl, ⟨i, rfl, hi⟩, hx, k⟩ := h
      refine ⟨x, _, rfl, hx, _, _, pa_cons (pe_callTy call_str_int (by rfl) hs (by decide +kernel) (pa_cons (pv 1) pa_nil)) pa_nil, pss_one (ps_ost (pv 0) (pv 1)), ?_⟩
      refine ⟨_, rfl, i, rfl, hi, ?_⟩
      exact ⟨by show 1 ≤ 1000; decide, hx, _, rfl, _, rfl, x, _, rfl, T.ox, F.nf _ (by simp [xdMalformed]), .inl ⟨hx, fun dx hn hd => k dx hn hd⟩⟩
theorem exc_Oversized (F : ExF P K mg xdOversized) (hs : mg "str" = none) : ExC1 P w K mg base "Oversized" (He.ga K "Oversized") "limit" COver := by
  obtain ⟨oc, od, osl, kV, doc, pm, an, cda, ct, cc, lk, hcd, T⟩ := F.fn
  refine ⟨F.gm, T.ox, ⟨_, ksFn "__init__" "Oversized.__init__" (defArgs sIOversized) (defBody sIOversized) (defScope sIOversized) .none kV doc pm an (.ref cda) ct cc, F.fi, F.ty, Binds.all fun us hl => match us, hl with | [_, _], _ => rfl, ?_⟩, F.xf, F.nf _ (by simp [xdOversized])⟩
  · refine fn_super (N := ["self", "limit", "__class__"]) lk hcd T scOver rfl rfl (by decide +kernel) (fun _ => rfl) (fun L env e => ⟨_, by subst e; rfl⟩) (fun L env e => by subst e; rfl) (fun vs H Q E h => ?_) (fun A outer s H vs Q E hr h => ?_)
    · obtain ⟨x, v, rfl, _⟩ := h
      rfl
    · obtain ⟨x, v, rfl, ⟨i, rfl⟩, hx, k⟩ := h
      refine ⟨x, _, rfl, hx, _, _, pa_cons (pe_callTy SkE.call_str_str (by rfl) hs (by decide +kernel) (pa_cons (pv 1) pa_nil)) pa_nil, pss_one (ps_ost (pv 0) (pv 1)), ?_⟩
      refine ⟨_, rfl, i, rfl, ?_⟩
      exact ⟨by show 1 ≤ 1000; decide, hx, _, rfl, _, rfl, x, _, rfl, T.ox, F.nf _ (by simp [xdOversized]), .inl ⟨hx, fun dx hn hd => k dx hn hd⟩⟩
end
theorem tup_strs {K : Frag} {x : Str} {l : List Str} (h : He.tupB K x (l.map He.Dv.str) = true) (H : Hp) : SqT K H (He.ga K x) (l.map V.str) := by
  have := He.tupB_ok h H
  rw [List.map_map] at this
  exact this
/-! ### tokens, parse: what the head gives -/
structure ParOk (w : World) (K : Frag) (mg : Str → Option Value) (base : Heap) (DM DO : Addr) : Prop where
  tok : Cal R.prog w K mg base 5 "tokens" ["text"] (spTokens DM DO)
  par : Cal R.prog w K mg base 204 "parse" ["text"] (spParse DM DO)
theorem par_ok {K : Frag} {mg : Str → Option Value} {h : Heap} {w : World} (X : K.In h) (G : h.Ns mainGlobals mg) (c : SaysF fas fns exs exFacts tabs w K) (base : Heap) : ParOk w K mg base (He.ga K "Malformed") (He.ga K "Oversized") := by
  have B := bl_of X G c.e.d
  obtain ⟨b, b6⟩ := He.ba c.e.b
  obtain ⟨b, b5⟩ := He.ba b
  obtain ⟨b, b4⟩ := He.ba b
  obtain ⟨b, b3⟩ := He.ba b
  obtain ⟨b1, b2⟩ := He.ba b
  have top0 : (R.prog.main.scope.names.lookup ("super" : Str)).isSome = false := by decide +kernel
  have FM : ExF R.prog K mg xdMalformed := exF_of X G B.super top0 (c.e.exo 0) (List.all_eq_true.mp b1 _ (by simp [exs]))
  have FO : ExF R.prog K mg xdOversized := exF_of X G B.super top0 (c.e.exo 1) (List.all_eq_true.mp b1 _ (by simp [exs]))
  have XM : ExC1 R.prog w K mg base "Malformed" _ "at" CMal := exc_Malformed FM B.str
  have XO : ExC1 R.prog w K mg base "Oversized" _ "limit" COver := exc_Oversized FO B.str
  have L : LexC K mg := ⟨⟨_, glo_RESERVED X G c.e.d, fun H => tup_strs b2 H⟩, ⟨_, glo_SIGNS X G c.e.d, fun H => tup_strs b3 H⟩, int_MAX_TEXT X G c.e.d, int_MAX_NAME X G c.e.d⟩
  have g1 := cal_is_letter (P := R.prog) (w := w) (base := base) (at_is_letter X G c.e.d)
  have g2 := cal_is_digit (P := R.prog) (w := w) (base := base) (at_is_digit X G c.e.d)
  have g3 := cal_in_name (at_in_name X G c.e.d) g1 g2
  have g4 := cal_run_end (at_run_end X G c.e.d) B g3
  have g5 := cal_digits_end (at_digits_end X G c.e.d) B g2
  have g6 := cal_comment_end (P := R.prog) (w := w) (base := base) (at_comment_end X G c.e.d) B
  have g7 := cal_read_word (at_read_word X G c.e.d) B L XM g4
  have g8 := cal_read_sign (at_read_sign X G c.e.d) B L XM
  have g9 := cal_read_number (at_read_number X G c.e.d) B XM g5 g2 g3
  have g10 := cal_tokens (at_tokens X G c.e.d) B L XM XO g6 g1 g2 g7 g9 g8
  have RK : RC K (He.ga K "Reader") := ⟨cls_Reader c.e.d, fun f hf => by
    rcases List.mem_cons.mp hf with rfl | hf
    · exact noat_Reader_rest c.e.d
    · rcases List.mem_cons.mp hf with rfl | hf
      · exact noat_Reader_place c.e.d
      · rcases List.mem_cons.mp hf with rfl | hf
        · exact noat_Reader_limit c.e.d
        · cases hf⟩
  have PL : ParC K w mg := ⟨int_MAX_DEPTH X G c.e.d, int_MAX_POWER X G c.e.d,
    ⟨_, glo_SUMS X G c.e.d, kdct_of (c.tab 0) b4 (q := ("+", .str "add")) (by simp [dSUMS]), kdct_of (c.tab 0) b4 (q := ("-", .str "sub")) (by simp [dSUMS])⟩,
    ⟨_, glo_PRODUCTS X G c.e.d, kdct_of (c.tab 1) b5 (q := ("*", .str "mul")) (by simp [dPRODUCTS]), kdct_of (c.tab 1) b5 (q := ("/", .str "div")) (by simp [dPRODUCTS])⟩,
    ⟨_, glo_COMPARISONS X G c.e.d, kkeys_of (c.tab 2), fun q hq => by
      rcases List.mem_cons.mp hq with rfl | hq
      · exact kdct_of (c.tab 2) b6 (q := ("<", .str "lt")) (by simp [dCOMPARISONS])
      · rcases List.mem_cons.mp hq with rfl | hq
        · exact kdct_of (c.tab 2) b6 (q := ("<=", .str "le")) (by simp [dCOMPARISONS])
        · rcases List.mem_cons.mp hq with rfl | hq
          · exact kdct_of (c.tab 2) b6 (q := ("==", .str "eq")) (by simp [dCOMPARISONS])
          · cases hq⟩⟩
  have m1 := met_at (P := R.prog) (w := w) (mg := mg) (base := base) (met_at_Reader_at c.e.d) B RK
  have m2 := met_sees (P := R.prog) (w := w) (mg := mg) (base := base) (met_at_Reader_sees c.e.d) B RK
  have m3 := met_sees_kind (P := R.prog) (w := w) (mg := mg) (base := base) (met_at_Reader_sees_kind c.e.d) B RK
  have m4 := met_accept (met_at_Reader_accept c.e.d) B RK m2
  have m5 := met_expect (DO := He.ga K "Oversized") (met_at_Reader_expect c.e.d) B RK m1 m4 XM
  have m6 := met_read (DO := He.ga K "Oversized") (met_at_Reader_read c.e.d) B RK m1 m3 XM
  have m7 := met_whole (DO := He.ga K "Oversized") (met_at_Reader_whole c.e.d) B RK m1 m6 XM
  have m8 := met_deeper (DM := He.ga K "Malformed") (met_at_Reader_deeper c.e.d) B RK PL XO
  have M : RdM R.prog w K mg base (He.ga K "Reader") (He.ga K "Malformed") (He.ga K "Oversized") := ⟨RK, m1, m2, m3, m4, m5, m6, m7, m8⟩
  have D : ParDefs K mg := ⟨at_read_power X G c.e.d, at_read_product X G c.e.d, at_read_call X G c.e.d, at_read_primary X G c.e.d, at_read_powers X G c.e.d, at_read_factors X G c.e.d, at_read_terms X G c.e.d, at_read_plain X G c.e.d, at_read_both X G c.e.d, at_read_expression X G c.e.d, at_read_parameters X G c.e.d, at_read_line X G c.e.d⟩
  have KR := mak_Reader (mak_at_Reader X G c.e.d) B RK g10
  exact ⟨g10, cal_parse (at_parse X G c.e.d) B RK KR (cal_line D B PL M)⟩
theorem law_fnC {K : Frag} {mg : Str → Option Value} {h : Heap} {f : Addr} {w : World} (X : K.In h) (G : h.Ns mainGlobals mg) (hf : mg "law" = some (.ref f)) (c : SaysF fas fns exs exFacts tabs w K) :
    ∃ fd, (∀ (s : Shared) (u : Value), BindsTo s fd ⟨[u], []⟩ [("_law_script", u)]) ∧ ∀ base : Heap, FnC R.prog w K mg base (L2N.CX R.prog w) f fd ["_law_script"] (spLaw K) := by
  obtain ⟨fd, F⟩ := fn_law c.e.d
  have e := hf.symm.trans (glo_law X G c.e.d)
  cases e
  have B := bl_of X G c.e.d
  have bA := FunD.bindsA (ps := ["_law_script"]) F fun _ _ _ _ _ _ us hl => match us, hl with | [_], _ => rfl
  refine ⟨fd, fun s v => bA s [v] rfl, fun base => ?_⟩
  have PO := par_ok X G c base
  have l1 := cal_law_cell (P := R.prog) (w := w) (base := base) (at_law_cell X G c.e.d) B
  have l2 := cal_law_group (P := R.prog) (w := w) (base := base) (at_law_group X G c.e.d) B
  exact fnC_law F B l1 (law_tree_all (at_law_tree X G c.e.d) B l2 6) PO.par
end Al
open PySem PySem.W PySem.Calls PyProof.Rows
theorem PySem.Challenge.cw_alnage_k02_chains_and_levels_holds : PySem.Challenge.rw_alnage_k02_chains_and_levels.Holds := by
  w_on; o_law
  refine HandSHeadRun.head_any (r := OpenLaw.row PySem.Challenge.rw_alnage_k02_chains_and_levels) (q := view (OpenLaw.row PySem.Challenge.rw_alnage_k02_chains_and_levels).prog [43]) (H := Al.hk) (ob := Al.ob) (M := 8000) (loose := Al.loose) (d := HandSHeadRun.topDef (OpenLaw.row PySem.Challenge.rw_alnage_k02_chains_and_levels).prog 43) (kwd := []) Al.ob_eq
    (by kernel_rfl) (fun s => by kernel_rfl) Al.top_run (by kernel_rfl) (by kernel_rfl) (by kernel_rfl) (by rfl) (by first | assumption | decide +kernel) (by decide +kernel) ⟨rfl, rfl, rfl, rfl, rfl, by decide +kernel⟩ ?hw ?hc
  case hw => w_witness2
  case hc =>
    refine Al.walk_W (l := PySem.Challenge.rw_alnage_k02_chains_and_levels) (n := 63) (x := "_law_script") (CX := L2N.CX Al.R.prog) rfl (by decide) (by kernel_rfl) ?F ?N
    · intro w mg fa h Y G hmg0
      obtain ⟨K, KX, c⟩ := Y
      have hmg : mg ("law" : PySem.Str) = some (.ref fa) := by
        have e : (HandSHeadRun.topDef (OpenLaw.row PySem.Challenge.rw_alnage_k02_chains_and_levels).prog 43).name = ("law" : PySem.Str) := by kernel_rfl
        rw [← e]
        exact hmg0
      obtain ⟨fd, hb, hF⟩ := Al.law_fnC KX G hmg c
      exact ⟨K, fd, Al.spLaw K, KX, hb, fun H a ns hl _ hS => ⟨a, ns, rfl, hS, hl, fun _ => rfl⟩, fun base _ _ => hF base⟩
    · rintro w H s e s' ⟨_, _, _, _, _, _, _, _, _, _, _, _, z⟩
      exact z
