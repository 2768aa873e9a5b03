import PyProof.Rows.All
import Wide.All
import OpenK.AllK
import Wide.FinOn
import HandS.ForMost
import HandS.ForExc
import HandS.ExcInit
import HandS.ExcSuper
import HandS.Nested
import KE.KExcSuper
import HandS.RaiseMore
import HandS.ExcField
import HandS.Defaults
import HandS.HeadEnd
import HandS.StrMore
import PyProof.ReprRoads
import HandS.Codes
import HandS.ExcCtx
import HandS.HotCalls
import HandS.Wide
import PyProof.StrOps2
import KE.IntTextLaws
import KE.KIntText
import HandS.Iter
import HandS.Walk
import HandS.More
import HandS.ExcOwn
import HandS.List
import PySem.Challenge.RW_alnage_k01_programs_read_back
import HandS.Head0
import HandS.Head1
import HandS.Head2
import HandS.HeadHook1
import HandS.HeadHook2
import HandS.HeadHook3
import HandS.Comp
import HandS.Zip
import HandS.Dict
import HandS.Small
import HandS.IsInst
import HandS.Exc
import HandS.Deep
set_option Elab.async false
set_option linter.all false
set_option maxRecDepth 100000
set_option maxHeartbeats 0
namespace Al
open PySem PySem.Spec PyProof.Rows L2 NdefX PySem.W
section
variable {prog : Program} {w : World} {A : Around} {E : Value → Shared → Prop} {h : Heap} {g : Array GenState} {d : Drawn} {t : Nat} {os : OsState}
variable {nm q : Str} {C N : Addr} {bs bm : List Value} {hdct : Bool} {sn : List Str} {sub : List Value} {ab : Bool} {col : Option Bool} {dd : Option Addr} {k0 k1 k2 k3 k5 : Option Value}
/-- the bound ValueError.__init__ called -/
theorem call_bwV {u e t0 : Addr} {rest : List Value} {Q : Value → Shared → Prop}
    (hC : h.get? C = some (excClassObj nm q C N bs bm hdct sn sub ab col dd k0 k1 k2 k3 k5 "ValueError.__new__")) (he : h.get? e = some (HandSPX.excO C t0)) (hu : h.get? u = some (kxs_mw "ValueError.__init__" e)) (hrest : rest.length ≤ sizeLine)
    (hq : ∀ h' t1, (∀ b o, b ≠ e → h.get? b = some o → h'.get? b = some o) → h'.get? e = some (HandSPX.excO C t1) → Q .none ⟨h', g, d, t, os⟩) :
    wpAny (model prog w) A (call (.ref u) rest) Q E ⟨h, g, d, t, os⟩ := by
  refine wpAny_call (codeAny_of_tree ?_)
  show wpAny _ A.in1 (callAny (.ref u) ⟨rest, []⟩) _ _ _
  simp only [callAny]
  refine wpAny_bind (wpAny_load hu ?_)
  simp only [kxs_mw, show (Value.type "method-wrapper" == Value.type "method" || Value.type "method-wrapper" == Value.type "builtin_function_or_method" || Value.type "method-wrapper" == Value.type "method-wrapper") = true by decide, if_true]
  refine W.KFB.if_so (by decide) ?_
  refine wpAny_bind (ESX.check_bound F.excBase_ValueError hC he rfl ?_)
  refine wpAny_bind (wpAny_pure (wpAny_pure ?_))
  refine ⟨Code.quiet_builtin _ (by decide +kernel), codeAny_builtin F.excBase_ValueError.initEntry ?_⟩
  rw [Around.under_plainId F.excBase_ValueError.init.plain _]
  wp_walk
  refine hq _ h.objs.size (fun b o hb ho => ?_) ?_
  · rw [Heap.get?_update_other _ _ (Ne.symm hb)]
    exact Heap.get?_push_of_some _ ho
  · rw [Heap.get?_update_self _ (Heap.get?_push_of_some _ he) rfl]
    rfl
end
/-- the facts about the class at D, whose __init__ says super().__init__(..) -/
structure SupC (K : Frag) (mg : Str → Option Value) (D cda cc : Addr) (P : Program) : Prop where
  ox : OexC K D
  cl : ∃ cd, clsIn K D = some cd
  ms : mroIn K D (.ref D) = some true
  sup : ks_superIn K D D "__init__" = some (some (.builtin "ValueError.__init__"))
  sV : subIn K (.ref D) (.type "ValueError") = some true
  sm : mg "super" = none
  st : nsIn K cStatics "thirdparty.any" = some none
  cell : ∃ cl cld csl, K.lookup cc = some ⟨cl, cld, .cell (some (.ref D)), csl⟩
  code : ∃ ccl cdd vs ccs file tf, K.lookup cda = some ⟨ccl, cdd, .fields vs, ccs⟩ ∧ vs[2]? = some (.str file tf) ∧ ((P.main.file : Str) == file) = true
  top : (P.main.scope.names.lookup ("super" : Str)).isSome = false
section
variable {CX : CXT} {P : Program} {w : World} {K : PySem.W.Frag} {mg : Str → Option Value} {base : Heap} {k : Nat} {f D cda cc : Addr} {name qual : Str} {params : Arguments} {scope : Scope} {kV doc pm ct oc : Value} {an od : Option Addr}
    {osl : Array (Option Value)} {N ps : List Str} {sp : Sp} {ex : Expr} {rest : List Stmt} {p0 p1 pa pc pe : Pos} {ar : Arg}
abbrev supBody (ex : Expr) (rest : List Stmt) (p0 p1 pa pc pe : Pos) : List Stmt := .Expr (.Call (.Attribute (.Call (.Name "super" p0) [] [] p1) "__init__" pa) [ex] [] pc) pe :: rest
abbrev supNF (name qual : Str) (params : Arguments) (body : List Stmt) (scope : Scope) (cc cda : Addr) : NF := ⟨name, qual, params, body, scope, [("__class__", cc)], cda⟩
theorem fn_super (lk : K.lookup f = some ⟨oc, od, .func (ksFn name qual params (supBody ex rest p0 p1 pa pc pe) scope .none kV doc pm an (.ref cda) ct cc), osl⟩)
    (hcd : codeIn K (.ref cda) qual = true) (T : SupC K mg D cda cc P) (S : NScope N ps ["__class__"] scope) (har : (params.posonlyargs ++ params.args).head? = some ar)
    (h0 : N[0]? = some ar.arg) (hsN : scope.names.lookup ("super" : Str) = some .globalImplicit)
    (hsw : ∀ L, swapsWith (.Call (.Attribute (.Call (.Name "super" p0) [] [] p1) "__init__" pa) [ex] [] pc) none pe.line (envF (supNF name qual params (supBody ex rest p0 p1 pa pc pe) scope cc cda) f L) = pure false)
    (hev : ∀ L, ∀ env, env = envF (supNF name qual params (supBody ex rest p0 p1 pa pc pe) scope cc cda) f L → ∃ pl, eval (.Call (.Attribute (.Call (.Name "super" p0) [] [] p1) "__init__" pa) [ex] [] pc) env = (do
      let ov ← attributeBase (.Call (.Name "super" p0) [] [] p1) "__init__" env (eval (.Call (.Name "super" p0) [] [] p1) env)
      standAt pa.atName
      let (f, first) ← holding [ov] (getMethod ov "__init__" pl)
      callWith pc f first (backTo pc (starEach [ex] env)) []))
    (hst : ∀ L, ∀ env, env = envF (supNF name qual params (supBody ex rest p0 p1 pa pc pe) scope cc cda) f L → starEach [ex] env = (false, eval ex env) :: starEach [] env)
    (len : ∀ vs H Q E, sp vs H Q E → vs.length = ps.length)
    (hbody : ∀ (A : Around) (outer : List Env) (s : Shared) (H : Hp) (vs : List V) (Q : VK) (E : XK), Room k (A.deeper (envF (supNF name qual params (supBody ex rest p0 p1 pa pc pe) scope cc cda) f s.heap.objs.size)) → sp vs H Q E →
      ∃ x xs, vs = .ref x :: xs ∧ H x = some (exo x D none) ∧ ∃ ta t, PA (ncx CX P w K mg base N (supNF name qual params (supBody ex rest p0 p1 pa pc pe) scope cc cda) f A outer s H E) [ex] ta ∧
        PSs (ncx CX P w K mg base N (supNF name qual params (supBody ex rest p0 p1 pa pc pe) scope cc cda) f A outer s H E) rest t ∧
        ta (startF N vs [none]) H (fun ws H1 => ws.length ≤ 1000 ∧ H1 x = some (exo x D none) ∧ t { nx := fun _ H' => Q .non H', rt := Q } (startF N vs [none]) H1)) :
    FnOk P w K mg base CX (k + 1) f (ksFn name qual params (supBody ex rest p0 p1 pa pc pe) scope .none kV doc pm an (.ref cda) ct cc) ps sp := by
  refine ⟨len, fun A outer s H args us vs Q E hr e0 hb r hsp => ?_⟩
  have hl := len _ _ _ _ hsp
  have KX : K.In s.heap := e0.mod.kin.keeps fun b o e => (e0.bs b o e).1
  have lim : s.heap.NoLimit := e0.mod.nolimit.keeps fun b o e => (e0.bs b o e).1
  obtain ⟨cl, cld, csl, hcell⟩ := T.cell
  have ccB := e0.mod.kin _ _ hcell
  have CA : CellsAt (supNF name qual params (supBody ex rest p0 p1 pa pc pe) scope cc cda).cl ["__class__"] [none] s.heap H := by
    refine ⟨rfl, fun y c hy => ?_, fun y z c h1 h2 => ?_, fun i y hi => ?_⟩
    · have : c = cc := by
        have h2 : List.lookup y [(("__class__" : Str), cc)] = some c := hy
        rw [List.lookup_cons] at h2
        split at h2
        · exact (Option.some.inj h2).symm
        · simp at h2
      subst this
      exact ⟨(e0.bs _ _ ccB).2, some (.ref D), _, (e0.bs _ _ ccB).1, rfl⟩
    · have h1' : List.lookup y [(("__class__" : Str), cc)] = some c := h1
      have h2' : List.lookup z [(("__class__" : Str), cc)] = some c := h2
      rw [List.lookup_cons] at h1' h2'
      split at h1' <;> rename_i e1
      · split at h2' <;> rename_i e2
        · rw [beq_iff_eq.mp e1, beq_iff_eq.mp e2]
        · simp at h2'
      · simp at h1'
    · match i, hi with
      | 0, hi =>
        have hi : some (("__class__" : Str)) = some y := hi
        have := Option.some.inj hi
        subst this
        exact ⟨cc, rfl, fun v hv => by simp at hv⟩
      | i + 1, hi => simp at hi
  refine ks_codeAny_call_defAt (fd := ksFn name qual params (supBody ex rest p0 p1 pa pc pe) scope .none kV doc pm an (.ref cda) ct cc) (body := supBody ex rest p0 p1 pa pc pe) (binds := ps.zip us) hr.depth (KX _ _ lk) rfl lim (codeRec_of KX hcd) rfl hb S.nocell
    (fun ⟨n, v⟩ hy => S.par n (List.of_mem_zip hy).1) (fun h₁ hns kp => ?_) S.co S.gen S.kind
  obtain ⟨x, xs, rfl, hx, ta, t, hA, hS, hq⟩ := hbody A outer s H vs Q E (hr.deeper _) hsp
  have I : Inv (ncx CX P w K mg base N (supNF name qual params (supBody ex rest p0 p1 pa pc pe) scope cc cda) f A outer s H E) [] (startF N (.ref x :: xs) [none]) H { s with heap := h₁, toks := s.toks + (ps.zip us).length } := inv_startN S hr.hd e0 hl r CA hns kp
  let env := envF (supNF name qual params (supBody ex rest p0 p1 pa pc pe) scope cc cda) f s.heap.objs.size
  let X := ncx CX P w K mg base N (supNF name qual params (supBody ex rest p0 p1 pa pc pe) scope cc cda) f A outer s H E
  have hxC : H x ≠ none := by rw [hx]; exact fun z => nomatch z
  -- the frame's name self
  obtain ⟨m, hn, hlk⟩ := id I.loc
  have hpar : scope.names.lookup ar.arg = some .local := by
    cases ps with
    | nil => simp at hl
    | cons p ps =>
      have q := S.pre
      have e1 : (N.take ((p :: ps).length + 1))[0]? = N[0]? := by
        rw [List.getElem?_take_of_lt (by simp)]
      have q2 : List.take ((p :: ps).length + 1) N = p :: ps ++ [("__class__" : Str)] := q
      rw [q2] at e1
      have e2 : some p = N[0]? := e1
      rw [h0] at e2
      have e3 : p = ar.arg := Option.some.inj e2
      rw [← e3]
      exact S.par p (by simp)
  have hlen0 : 0 < N.length := by
    rcases List.getElem?_eq_some_iff.mp h0 with ⟨z, _⟩
    exact z
  have hself : m ar.arg = some (.ref x) := by
    obtain ⟨u, ru, q⟩ := hlk 0 ar.arg (.ref x) h0 rfl (.inl hpar)
    obtain rfl : u = Value.ref x := ru
    rcases q with ⟨_, e⟩ | ⟨kk, _⟩
    · exact e
    · rcases kk with kk | kk
      · have kk' : scope.names.lookup ar.arg = some .cell := kk
        rw [hpar] at kk'; cases kk'
      · have kk' : scope.names.lookup ar.arg = some .free := kk
        rw [hpar] at kk'; cases kk'
  have hfree : scope.names.lookup ("__class__" : Str) = some .free := S.frk _ (by simp)
  obtain ⟨ccl, cdd, cvs, ccs, file, tf, hcode, hvs, hfile⟩ := T.code
  obtain ⟨cdD, hclD⟩ := T.cl
  show PySem.wpAt (model P w) (A.deeper env) (.func (supBody ex rest p0 p1 pa pc pe) env) (execs (supBody ex rest p0 p1 pa pc pe) env) _ _ _
  refine ks_wpAt_execs_cons (ks_wpAt_Expr_any ?_ (by show interactive env = false; simp [interactive, env, S.kind]) (hsw _))
  obtain ⟨pl, hev⟩ := hev _ env rfl
  refine ks_wpAt_MethodCall (pl := pl) ?_ hev
  have KX1 : K.In h₁ := I.kIn
  obtain ⟨oD, hD1, hD2⟩ : ∃ oD, h₁.get? D = some oD ∧ oD.data = .cls cdD := by
    unfold clsIn at hclD
    split at hclD
    · rename_i c d cd' sl ho
      cases hclD
      exact ⟨_, KX1 _ _ ho, rfl⟩
    · cases hclD
  obtain ⟨t1, hx1⟩ := exo_at I.hok hx
  obtain ⟨mb, hb1, hb2⟩ := I.mod.blt
  have IA : InstAt h₁ x (HandSPX.excO D t1) D none := ⟨hx1, rfl, rfl, trivial⟩
  refine ks_wpAt_super_base (env := env) hsN hfree (by decide) rfl (KX1 _ _ lk) rfl har rfl (KX1 _ _ hcode) rfl hvs hfile T.top ?_
  refine ks_loadName_global S.kind hsN (Calls.loadGlobal_builtin (env := env) (I.mod.glob.keeps I.bk) T.sm (hb1.keeps I.bk) ((hb2 _ (by decide)).trans (by decide +kernel : bootBuiltins "super" = some (.type "super"))) ⟨rfl, ?_⟩)
  refine wpAny_loadName_free S.kind hfree rfl ⟨_, KX1 _ _ hcell, rfl⟩ ?_
  refine wpAny_loadName_local S.kind hpar hn hself ?_
  refine ks_wpAny_isType_cls hD1 hD2 ⟨rfl, ?_⟩
  refine ks_wpAny_call_super hD1 hD2 IA.at_ IA.cls (fun c e => ?_) (looks_mroIn KX1 T.ms) (fun h2 e2 k2 => ?_)
  · have := IA.no
    unfold notCls at this
    rw [e] at this
    exact Bool.noConfusion this
  have I2 : Inv X [] (startF N (.ref x :: xs) [none]) H { s with heap := h2, toks := s.toks + (ps.zip us).length } := I.kept k2
  have KX2 : K.In h2 := I2.kIn
  have IA2 : InstAt h2 x (HandSPX.excO D t1) D none := ⟨k2 _ _ hx1, rfl, rfl, trivial⟩
  have hsup := T.sup
  unfold ks_superIn at hsup
  rw [hclD] at hsup
  refine kxs_getMethod kxs_ValueError e2 (looks_opaque KX2 T.st) (l₀ := cdD.mro) (fun A Q E s k q => wpAny_bind ((looks_clsIn KX2 hclD) A _ E s k (wpAny_pure q))) rfl KX2 hsup
    (IA2.type.andThen (looks_subIn KX2 T.sV)) (ks_ne KX2 IA2 hclD) (by decide) ?_
  have k3 : ∀ b o, h2.get? b = some o → (h2.push (kxs_mw "ValueError.__init__" x)).get? b = some o := fun b o e => Heap.get?_push_of_some _ e
  have I3 : Inv X [] (startF N (.ref x :: xs) [none]) H { s with heap := h2.push (kxs_mw "ValueError.__init__" x), toks := s.toks + (ps.zip us).length + 1 } := I2.kept (t' := s.toks + (ps.zip us).length + 1) k3
  have hu3 : (h2.push (kxs_mw "ValueError.__init__" x)).get? h2.objs.size = some (kxs_mw "ValueError.__init__" x) := Heap.get?_push_at rfl rfl
  have I4 : Inv X [(h2.objs.size, kxs_mw "ValueError.__init__" x)] (startF N (.ref x :: xs) [none]) H { s with heap := h2.push (kxs_mw "ValueError.__init__" x), toks := s.toks + (ps.zip us).length + 1 } := I3.pins_of (by
    intro p hp
    obtain rfl : p = (h2.objs.size, kxs_mw "ValueError.__init__" x) := by simpa using hp
    refine ⟨hu3, I2.hok.fresh (Nat.le_refl _), Nat.ne_of_gt I2.lt, I2.nofs (Nat.le_refl _), fun v z => nomatch z⟩)
  show wpAny _ _ (callWith pc (.ref h2.objs.size) [] (backTo pc (starEach [ex] env)) []) _ _ _
  have hst' := hst _ env rfl
  have hAr := hA.run pc [(h2.objs.size, kxs_mw "ValueError.__init__" x)] _ _ _ _ I4 hq
  have hAr2 : wpAny (model P w) (A.deeper env) (spliced (backTo pc (starEach [ex] env))) _ _ _ := hAr
  rw [hst'] at hAr2 ⊢
  refine kxs_callWith (i := "ValueError.__init__") (x := x) rfl (Calls.evalArgs_plain (wpAny_mono hAr2 (fun ws' s4 h4 => ?_) fun e s' hs => hs))
  obtain ⟨ws, H1, I5, r5, hz, hx5, q5⟩ := h4
  have hpin := (I5.pin (h2.objs.size, kxs_mw "ValueError.__init__" x) (by simp)).1
  refine ⟨hpin, ?_⟩
  obtain ⟨nm, qn, N', bs, bm, sn, sub, ab, col, dd, k0, k1, k2', k3', k5, hC, hbm⟩ := T.ox.cls
  obtain ⟨t5, ho5⟩ := exo_at I5.hok hx5
  obtain ⟨h5, g5, d5, tk5, os5⟩ := s4
  have hlen5 : ws'.length ≤ sizeLine := by
    rw [← Paired.length r5, sizeLine_eq]
    omega
  refine call_bwV (I5.kIn _ _ hC) ho5 hpin hlen5 fun h6 t6 k6 hx6 => ?_
  have J := I5.write (t' := tk5) (x := x) (e := x) (o := exo x D none) (by rw [hx5]; exact True.intro) (.inl rfl) k6 ⟨_, hx6⟩ (exo_ok hx6)
  have eu : upd H1 x (exo x D none) = H1 := by
    funext b
    by_cases hb : b = x
    · rw [hb, upd_same, hx5]
    · rw [upd_ne hb]
  rw [eu] at J
  have J0 : Inv X [] (startF N (.ref x :: xs) [none]) H1 ⟨h6, g5, d5, tk5, os5⟩ := J.pins_of (by intro p hp; simp at hp)
  show PySem.wpAt (model P w) (A.deeper env) _ (execs rest env) _ _ _
  refine PySem.wpAt_of_wpAny ?_
  refine wpAny_mono (hS.run [] _ _ _ _ J0 q5) (fun fl s' hs => ?_) fun e s' hs => hs
  have fin : ∀ {σ' : L2.St} {H' : Hp} {v : V} {u : Value}, Inv X [] σ' H' s' → L2.RelV v u → Q v H' → CE outer P w H s Q u s' :=
    fun {σ' H' v u} J rv q => ⟨v, H', J.os, J.bare, J.base, J.hok, rv, q⟩
  cases fl with
  | ret u =>
    obtain ⟨v, σ', H', J, rv, q⟩ := hs
    exact fin J rv q
  | next =>
    obtain ⟨σ', H', J, q⟩ := hs
    exact fin (v := V.non) (u := Value.none) J rfl q
  | brk =>
    obtain ⟨_, _, _, q⟩ := hs
    exact False.elim q
  | cont =>
    obtain ⟨_, _, _, q⟩ := hs
    exact False.elim q
/-- the promise of an __init__ that keeps one field -/
def spX1 (D : Addr) (f : Str) (C : V → Prop) : Sp := fun vs H Q _ => ∃ x v, vs = [.ref x, v] ∧ C v ∧ H x = some (exo x D none) ∧
  ∀ dx, H dx = none → dx ≠ x → Q .non (upd (upd H dx (exd dx [(f, v)])) x (exo x D (some dx)))
end
end Al
namespace Al
open PySem PySem.Spec PyProof.Rows L2 NdefX PySem.W
/-! ### the law's own def, called from outside: what runs around it is known (no guards: repr needs that) -/
structure FnC (P : Program) (w : World) (K : Frag) (mg : Str → Option Value) (base : Heap) (CX : CXT) (f : Addr) (fd : FuncData) (ps : List Str) (sp : Sp) : Prop where
  go : ∀ (s : Shared) (H : Hp) (args : Args) (us : List Value) (vs : List V) (Q : VK) (E : XK), Env0 P w K mg base callerA [] s H → BindsTo s fd args (ps.zip us) → Vals vs us → sp vs H Q E →
    codeAny (model P w) callerA (.call (.ref f) args) (CR CX [] P w H s Q E) s
section
variable {P : Program} {w : World} {K : Frag} {mg mb : Str → Option Value} {base : Heap} {CX : CXT} {f : Addr} {fd : FuncData} {N ps : List Str} {k : Nat} {sp : Sp}
theorem fnC_of {x qual : Str} {params : Arguments} {body : List Stmt} {scope : Scope} {dvs : List V} {kws : List (Str × V)} (hr : Room (k + 1) callerA) (F : FunD K x qual params body scope dvs kws f fd) (S : FnScope N ps scope)
    (len : ∀ vs H Q E, sp vs H Q E → vs.length = ps.length)
    (hbody : ∀ (cdv : Value) (s : Shared) (H : Hp) (vs : List V) (Q : VK) (E : XK), Room k (callerA.deeper (envOfC qual scope s.heap.objs.size f cdv)) → sp vs H Q E →
      ∃ t, PSs (cxOf CX P w K mg base N qual scope f cdv callerA [] s H E) body t ∧ t { nx := fun _ H' => Q .non H', rt := Q } (start N vs) H) : FnC P w K mg base CX f fd ps sp := by
  obtain ⟨oc, od, dV, kV, doc, pm, an, cdv, ct, osl, rfl, lk, hcd, _, _⟩ := F.ex
  refine ⟨fun s H args us vs Q E e0 hb rv hsp => ?_⟩
  have lenv : vs.length = ps.length := len _ _ _ _ hsp
  have inK : K.In s.heap := e0.mod.kin.keeps fun b o e => (e0.bs b o e).1
  have nolim : s.heap.NoLimit := e0.mod.nolimit.keeps fun b o e => (e0.bs b o e).1
  refine codeAny_call_function hr.depth (inK _ _ lk) rfl S.co S.gen rfl (codeRec_of inK hcd) (hb _ _ _ _ ?_)
  refine wpAny_newFunctionEnv_cells S.kind ?pk fun env he s1 x => ?_
  case pk =>
    rintro ⟨n, v⟩ hy
    have nin : n ∈ ps := (List.of_mem_zip hy).1
    rcases S.par n nin with hl | hc
    · exact .inl hl
    · refine .inr ⟨hc, ?_⟩
      exact cellsFrom_some scope.names _ _ (.inl hc)
  subst he
  refine ⟨nolim.keeps x.toInCall.keep, codeAny_func ?_⟩
  obtain ⟨t, ht, hq⟩ := hbody cdv s H vs Q E (hr.deeper _) hsp
  have I := inv_start (CX := CX) (E := E) S hr.hd e0 lenv rv x
  refine wpAny_mono (ht.run [] s1 (start N vs) H _ I hq) (fun fl s' hs => ?_) (fun e s' hs => hs)
  cases fl with
  | next => exact let ⟨σ', H', J, q⟩ := hs; ⟨V.non, H', J.os, J.bare, J.base, J.hok, rfl, q⟩
  | ret u => exact let ⟨v, σ', H', J, rv, q⟩ := hs; ⟨v, H', J.os, J.bare, J.base, J.hok, rv, q⟩
  | brk => exact let ⟨_, _, _, q⟩ := hs; q.elim
  | cont => exact let ⟨_, _, _, q⟩ := hs; q.elim
theorem law_callC {fa a : Addr} {x : Str} {s₁ : Shared} {vs : List Value} {ns : List Int}
    (KX : K.In s₁.heap) (gl : s₁.heap.Ns mainGlobals mg) (bl : s₁.heap.Ns builtinsNs mb) (bls : ∀ x : Str, x ≠ "__name__" → mb x = bootBuiltins x) (lim : s₁.heap.NoLimit) (gens : s₁.gens = #[])
    (scr : s₁.heap.get? a = some { cls := .type "list", data := .seq vs.toArray }) (areI : IntsAre vs ns) (small : ns.length ≤ sizeLine)
    (F : ∀ base : Heap, K.In base → base.Ns mainGlobals mg → FnC P w K mg base CX fa fd [x] sp) (bind : ∀ (s : Shared) (u : Value), BindsTo s fd ⟨[u], []⟩ [(x, u)])
    (prom : ∀ H : Hp, Only H → SqL K H a (ns.map V.int) → sp [.ref a] H (fun v _ => v = .bl true) fun _ _ _ => False)
    (noexc : ∀ H e s', CX [] H s₁ (fun _ _ _ => False) e s' → False) :
    codeAny (model P w) callerA (.call (.ref fa) ⟨[.ref a], []⟩) (fun r s' => r = .ok (.ret (.bool true)) ∧ OldK s₁.heap s'.heap ∧ s'.os = s₁.os ∧ AllBare s'.gens) s₁ := by
  have rels := vals_ints areI
  have lens := areI.length
  have main : ∀ H : Hp, Only H → SqL K H a (ns.map V.int) → HOk P w H s₁.heap → (∀ b, H b ≠ none → b = a) → (H a ≠ none → K.lookup a = none) →
      codeAny (model P w) callerA (.call (.ref fa) ⟨[.ref a], []⟩) (fun r s' => r = .ok (.ret (.bool true)) ∧ OldK s₁.heap s'.heap ∧ s'.os = s₁.os ∧ AllBare s'.gens) s₁ := by
    intro H only seq ok alone apart
    have notDict : ∀ {b : Addr} {o : Obj} {es : Array DictEntry} {ep : Nat}, s₁.heap.get? b = some o → o.data = .dict es ep → H b = none := by
      intro b o es ep e d
      cases q : H b with
      | none => rfl
      | some u =>
        obtain rfl : b = a := alone b (by rw [q]; intro z; cases z)
        rw [scr] at e
        cases e
        exact nomatch (show Data.seq vs.toArray _ = Data.dict es ep from d)
    have nss : ∀ {b : Addr} {m : Str → Option Value}, s₁.heap.Ns b m → (hidT s₁.heap H).Ns b m := by
      rintro b m ⟨o, es, ep, e, d, r⟩
      exact ⟨o, es, ep, hidT_get e (notDict e d), d, r⟩
    have inB : K.In (hidT s₁.heap H) := by
      intro b o e
      refine hidT_get (KX b o e) ?_
      cases q : H b with
      | none => rfl
      | some u =>
        obtain rfl : b = a := alone b (by rw [q]; intro z; cases z)
        rw [apart (by rw [q]; intro z; cases z)] at e
        cases e
    have md : Mod K mg (hidT s₁.heap H) := by
      obtain ⟨mc, h1, h2⟩ := lim
      exact ⟨inB, nss gl, ⟨mb, nss bl, bls⟩, mc, nss h1, h2⟩
    have env0 : Env0 P w K mg (hidT s₁.heap H) callerA [] s₁ H := by
      refine ⟨rfl, md, fun b o e => of_hidT e, Nat.le_of_eq (hidT_size _ _), trivial, ?_, ok, .of_eq gens⟩
      intro b hb
      exact absurd (show b ∈ ([] : List Addr) from hb) List.not_mem_nil
    refine codeAny_mono ((F _ inB (nss gl)).go s₁ H ⟨[.ref a], []⟩ [.ref a] [.ref a] _ _ env0 (bind s₁ (.ref a)) (.cons rfl .nil) (prom H only seq)) ?_
    intro r s' h
    match r, h with
    | .error e, h => exact (noexc H e s' h).elim
    | .ok .next, h => exact h.elim
    | .ok .brk, h => exact h.elim
    | .ok .cont, h => exact h.elim
    | .ok (.ret u), ⟨v, H', os, bare, un, ok', ru, q⟩ =>
      obtain rfl : v = .bl true := q
      obtain rfl : u = Value.bool true := ru
      refine ⟨rfl, OldK.of_keep ?_, os, bare⟩
      intro b o e
      cases q : H b with
      | none => exact un.keep b o e q (fun z => List.not_mem_nil (show b ∈ ([] : List Addr) from z)) List.not_mem_nil
      | some u =>
        rcases only b with z | ⟨ob, xs, z⟩
        · exact nomatch q.symm.trans z
        · have e1 := (ok b _ z).1
          have e2 := (ok' b _ (un.frzs b ob _ z)).1
          exact e2.trans (e1.symm.trans e)
  cases hk : K.lookup a with
  | some o =>
    have e := (KX a o hk).symm.trans scr
    cases e
    refine main (fun _ => none) (fun _ => .inl rfl) (.inr ⟨_, vs.toArray, _, hk, rfl, rfl, rfl, ?_, ?_⟩) (fun b u z => nomatch (show (none : Option HO) = some u from z)) (fun b z => absurd rfl z) (fun z => absurd rfl z)
    · rw [List.size_toArray, lens]
      exact small
    · simpa using rels
  | none =>
    let H : Hp := fun b => if b = a then some (.frz { cls := .type "list", data := .seq vs.toArray } (.lst (ns.map V.int))) else none
    have at_ : H a = some (.frz { cls := .type "list", data := .seq vs.toArray } (.lst (ns.map V.int))) := if_pos rfl
    have off : ∀ b, b ≠ a → H b = none := fun b hb => if_neg hb
    refine main H (fun b => ?_) (.inl (.inr ⟨_, at_⟩)) (fun b u z => ?_) (fun b z => ?_) (fun _ => hk)
    · by_cases hb : b = a
      · exact .inr ⟨_, _, by rw [hb]; exact at_⟩
      · exact .inl (off b hb)
    · by_cases hb : b = a
      · subst hb
        rw [at_] at z
        cases z
        exact ⟨scr, by rw [List.length_map]; exact small, vs, _, rels, scr⟩
      · rw [off b hb] at z
        cases z
    · by_cases hb : b = a
      · exact hb
      · exact absurd (off b hb) z
end
/-- the end of a law over a head by facts -/
theorem walk_C {l : OpenLaw} {n : Nat} {q : Program} {loose : List Str} {XP : (Str → Option Value) → Heap → Prop} {YP : World → Heap → Prop} {d : DefRec} {CX : CXT} {x : Str}
    (hn : l.most = some n) (hn2 : n ≤ sizeLine) (hdf : d.params.defaults = [])
    (F : ∀ (w : World) (mg : Str → Option Value) (fa : Addr) (h : Heap), YP w h → h.Ns mainGlobals mg → mg d.name = some (.ref fa) →
      ∃ (K : Frag) (fd : FuncData) (sp : Sp), K.In h ∧ (∀ (s : Shared) (u : Value), BindsTo s fd ⟨[u], []⟩ [(x, u)]) ∧
        (∀ (H : Hp) (a : Addr) (ns : List Int), ns.length ≤ n → Only H → SqL K H a (ns.map V.int) → sp [.ref a] H (fun v _ => v = .bl true) fun _ _ _ => False) ∧
        ∀ base : Heap, K.In base → base.Ns mainGlobals mg → FnC l.prog w K mg base CX fa fd [x] sp)
    (noexc : ∀ (H : Hp) (s : Shared) (e : Value) (s' : Shared), CX [] H s (fun _ _ _ => False) e s' → False) :
    WalkO q loose XP YP l.row.toRowW d [] (fun f vs => PySem.call f vs) := by
  refine Att.attach_call hn hdf ?_
  intro w s₀ s₁ mg mb fa o pm cd doc a vs ns G Y ho hd hcd hmg hobj hints hlen hg
  obtain ⟨K, fd, sp, KX, hb, hsp, hF⟩ := F w mg fa _ Y G.T.g hmg
  exact law_callC KX G.T.g G.T.b G.T.builtins G.T.nolimit hg hobj hints (Nat.le_trans hlen hn2) hF hb (fun H o s => hsp H a ns hlen o s) (fun H e s' => noexc H s₁ e s')
end Al
namespace Al
open PySem PySem.Spec PyProof.Rows L2 NdefX PySem.W
section
variable {X : Cx}
/-! ### repr of nested data -/
def rRepr (K : Frag) : List V → Hp → VK → Prop := fun xs H Q => ∃ a d, xs = [.ref a] ∧ Dp K H (.ref a) d ∧ d.showable = true ∧ d.hasDict = false ∧ d.depth ≤ 100 ∧ d.shown.length ≤ sizeLine ∧ Q (.str d.shown) H
theorem call_reprD (hg : X.A.guards = some []) (hu : X.A.units + 110 < cLine) : CallR X (.builtin "repr") (rRepr X.K) := by
  intro pins s σ H vs us Q I rv h
  obtain ⟨a, d, rfl, hd, hs, hn, hdp, hz, q⟩ := h
  cases rv with
  | cons r t =>
    cases t
    cases r
    obtain ⟨as, r⟩ := Dp.reads I d _ _ hd rfl
    exact repr_of_reads' r hs (PyData.noDict_hsm hn) hg (by omega) (fun _ _ e => e) (fun h' u tk k => ⟨.str _, H, I.kept k, ⟨_, rfl⟩, q⟩) hz
/-! ### text * number -/
def timesS (z : Str) (n : Nat) : Str := ⟨((List.replicate n z.cps.toList).flatten).toArray⟩
theorem fold_rep (n : Nat) (a : Array Nat) (b : Array Nat) : (List.replicate n a).foldl (· ++ ·) b = b ++ ((List.replicate n a.toList).flatten).toArray := by
  induction n generalizing b with
  | zero => simp
  | succ n ih =>
    rw [List.replicate_succ, List.foldl_cons, ih, List.replicate_succ, List.flatten_cons]
    apply Array.ext'
    simp
theorem timesS_eq (z : Str) (n : Nat) : (⟨(List.replicate n z.cps).foldl (· ++ ·) #[]⟩ : Str) = timesS z n := by
  unfold timesS
  rw [fold_rep]
  simp
theorem timesS_zero (z : Str) : timesS z 0 = Str.empty := rfl
theorem timesS_one (z : Str) : timesS z 1 = z := by
  unfold timesS
  simp
theorem timesS_nil (z : Str) (n : Nat) (h : z.length = 0) : timesS z n = z := by
  have h2 : z.cps = #[] := Array.size_eq_zero_iff.mp h
  obtain ⟨c⟩ := z
  have h3 : c = #[] := h2
  subst h3
  unfold timesS
  congr 1
  induction n with
  | zero => rfl
  | succ n ih => rw [List.replicate_succ, List.flatten_cons]; simpa using ih
theorem timesS_length (z : Str) (n : Nat) : (timesS z n).length = n * z.length := by
  show ((List.replicate n z.cps.toList).flatten).toArray.size = n * z.cps.size
  simp
def rMulS : R2 := fun x y H Q => ∃ (z : Str) (n : Nat), x = .str z ∧ y = .int (n : Int) ∧ n ≤ 1000000 ∧ z.length * n ≤ 1000000 ∧ Q (.str (timesS z n)) H
theorem op_mulS : OpR X (binaryOp .Mult) rMulS := by
  intro pins s σ H x y v u Q I rx ry h
  obtain ⟨z, n, rfl, rfl, hn, hz, q⟩ := h
  obtain ⟨t, rfl⟩ := rx
  obtain ⟨t', rfl⟩ := ry
  refine PySem.P.mul_str (by simp; omega) (fun h1 h2 => ?_) (fun h1 h2 => ?_) ?_
  · have h3 : (2 ^ 63 - 1) / (n : Int) ≥ 1000000 := by
      rw [ge_iff_le, Int.le_ediv_iff_mul_le (by omega)]
      have : (1000000 : Int) * (n : Int) ≤ 1000000 * 1000000 := Int.mul_le_mul_of_nonneg_left (by omega) (by decide)
      omega
    have h4 : z.length ≤ 1000000 := by
      have : z.length * 1 ≤ z.length * n := Nat.mul_le_mul_left _ (by omega)
      omega
    omega
  · have e : ((n : Int).toNat) = n := by omega
    rw [e]
    unfold Builtin.Str.tooLong
    rw [decide_eq_false_iff_not]
    have := sizeLine_eq
    omega
  · have e : ((n : Int).toNat) = n := by omega
    rw [e, timesS_eq]
    split
    · rename_i h1
      have : n = 0 := by omega
      subst this
      exact ⟨by decide, ⟨.str (timesS z 0), H, I.tok _, ⟨_, rfl⟩, q⟩⟩
    · split
      · rename_i h1 h2
        have e2 : timesS z n = z := by
          rw [Bool.or_eq_true] at h2
          rcases h2 with h2 | h2
          · have : n = 1 := by
              have := beq_iff_eq.mp h2
              omega
            rw [this, timesS_one]
          · exact timesS_nil _ _ (beq_iff_eq.mp h2)
        rw [e2] at q
        exact ⟨.str z, H, I, ⟨_, rfl⟩, q⟩
      · refine ⟨?_, ⟨.str (timesS z n), H, I.tok _, ⟨_, rfl⟩, q⟩⟩
        rw [timesS_length, Nat.mul_comm, sizeLine_eq]
        omega
end

/-! ### defs of the text by name -/
abbrev FnP (K : Frag) (x : Str) (st : Stmt) (f : Addr) (fd : FuncData) : Prop := FunD K x x (defArgs st) (defBody st) (defScope st) [] [] f fd
structure DefAt (K : Frag) (mg : Str → Option Value) (x : Str) (st : Stmt) : Prop where
  ex : ∃ f fd, mg x = some (.ref f) ∧ FnP K x st f fd
structure Cal (P : Program) (w : World) (K : Frag) (mg : Str → Option Value) (base : Heap) (k : Nat) (x : Str) (ps : List Str) (sp : Sp) : Prop where
  ex : ∃ f fd, mg x = some (.ref f) ∧ keepIn K (.ref f) = true ∧ Binds K fd ps [] ∧ FnOk P w K mg base (L2N.CX P w) k f fd ps sp
theorem Cal.mono {P : Program} {w : World} {K : Frag} {mg : Str → Option Value} {base : Heap} {j k : Nat} {x : Str} {ps : List Str} {sp : Sp} (c : Cal P w K mg base j x ps sp) (h : j ≤ k) : Cal P w K mg base k x ps sp := by
  obtain ⟨f, fd, h1, h2, h3, h4⟩ := c.ex
  exact ⟨f, fd, h1, h2, h3, h4.mono h⟩
theorem Cal.imp {P : Program} {w : World} {K : Frag} {mg : Str → Option Value} {base : Heap} {k : Nat} {x : Str} {ps : List Str} {sp sp' : Sp} (c : Cal P w K mg base k x ps sp) (h : ∀ vs H Q E, sp' vs H Q E → sp vs H Q E) : Cal P w K mg base k x ps sp' := by
  obtain ⟨f, fd, h1, h2, h3, h4⟩ := c.ex
  exact ⟨f, fd, h1, h2, h3, h4.imp h⟩
theorem cal_mk {P : Program} {w : World} {K : Frag} {mg : Str → Option Value} {base : Heap} {k : Nat} {x : Str} {st : Stmt} {N ps : List Str} {sp : Sp} (dx : DefAt K mg x st) (S : FnScope N ps (defScope st))
    (hb : ∀ (kV doc pm : Value) (an : Option Addr) (cdv ct : Value) (us : List Value), us.length = ps.length → bindArgs (fnOf x x (defArgs st) (defBody st) (defScope st) .none kV doc pm an cdv ct) ⟨us, []⟩ = pure (ps.zip us))
    (len : ∀ vs H Q E, sp vs H Q E → vs.length = ps.length)
    (hbody : ∀ (f : Addr) (cdv : Value) (A : Around) (outer : List Env) (s : Shared) (H : Hp) (vs : List V) (Q : VK) (E : XK), Room k (A.deeper (envOfC x (defScope st) s.heap.objs.size f cdv)) → sp vs H Q E →
      ∃ t, PSs (cxOf (L2N.CX P w) P w K mg base N x (defScope st) f cdv A outer s H E) (defBody st) t ∧ t { nx := fun _ H' => Q .non H', rt := Q } (start N vs) H) : Cal P w K mg base (k + 1) x ps sp := by
  obtain ⟨f, fd, hm, F⟩ := dx.ex
  exact ⟨f, fd, hm, F.kp, F.bindsN hb, F.ok S len (hbody f)⟩
section
variable {X : Cx}
theorem pe_cal {x : Str} {p pos : Pos} {k : Nat} {ps : List Str} {sp : Sp} {W : WX} {e : Expr} {es : List Expr} {ta : TA} (G : Cal X.prog X.w X.K X.mg X.base k x ps sp) (hr : Room k X.A) (tk : L2N.Takes X W) (ha : PA X (e :: es) ta) (hg : Gl X x := by rfl)
    (hdb : (x == ("__debug__" : Str)) = false := by decide) (he : starEach (e :: es) X.env = (false, eval e X.env) :: starEach es X.env := by rfl) (hpl : (backTo pos (starEach es X.env)).any (·.1) = false := by rfl) :
    PE X (.Call (.Name x p) (e :: es) [] pos) (tCallS sp (WE W) ta) := by
  obtain ⟨f, fd, hm, hk, hb, F⟩ := G.ex
  exact pe_callS F hr hg hm hk hb (fun σ => L2N.passAt tk σ) ha hdb he hpl
end
section
variable {X : Cx}
theorem pe_gint {x : Str} {i : Int} {pos : Pos} (hm : ∃ t, X.mg x = some (.int i t)) (hg : Gl X x := by rfl) (hd : (x == ("__debug__" : Str)) = false := by decide) : PE X (.Name x pos) (tC (.int i)) := by
  obtain ⟨t, h⟩ := hm
  exact pe_glob hg h ⟨t, rfl⟩ hd
theorem pe_gref {x : Str} {a : Addr} {pos : Pos} (hm : X.mg x = some (.ref a)) (hg : Gl X x := by rfl) (hd : (x == ("__debug__" : Str)) = false := by decide) : PE X (.Name x pos) (tC (.ref a)) := pe_glob hg hm rfl hd
end
theorem noexcX {P : Program} {w : World} (H : Hp) (s : Shared) (e : Value) (s' : Shared) (h : L2N.CX P w [] H s (fun _ _ _ => False) e s') : False := by
  obtain ⟨_, _, _, _, _, _, _, _, _, _, _, _, z⟩ := h
  exact z
/-! ### raising an exception that keeps one field -/
structure ExC1 (P : Program) (w : World) (K : Frag) (mg : Str → Option Value) (base : Heap) (x : Str) (D : Addr) (f : Str) (C : V → Prop) : Prop where
  gm : mg x = some (.ref D)
  ox : OexC K D
  fi : ∃ fI fd, findIn K (.ref D) "__init__" = some (some (.ref fI)) ∧ typeIn K (.ref fI) = some (.type "function") ∧ Binds K fd ["self", f] [] ∧ FnOk P w K mg base (L2N.CX P w) 1 fI fd ["self", f] (spX1 D f C)
  xf : XfC K D
  nf : findIn K (.ref D) f = some none
section
variable {X : Cx}
theorem passN : Passes (L2N.CX X.prog X.w) X E0 := by
  rintro _ _ _ _ _ _ _ ⟨_, _, _, _, _, _, _, _, _, _, _, _, z⟩
  exact z.elim
/-- an own exception is made where nothing is handled: its context is None -/
theorem pmk_oexN {x : Str} {e : Expr} {es : List Expr} {ta : TA} {p pos : Pos} {D fI : Addr} {k : Nat} {fd : FuncData} {ps : List Str} {sp : Sp} (T : OexC X.K D) (hi : findIn X.K (.ref D) "__init__" = some (some (.ref fI))) (ht : typeIn X.K (.ref fI) = some (.type "function"))
    (FI : FnOk X.prog X.w X.K X.mg X.base (L2N.CX X.prog X.w) k fI fd ps sp) (hr : Room (k + 1) X.A) (hb : Binds X.K fd ps []) (hg : Gl X x) (hm : X.mg x = some (.ref D)) (ha : PA X (e :: es) ta)
    (hdb : (x == ("__debug__" : Str)) = false) (he : starEach (e :: es) X.env = (false, eval e X.env) :: starEach es X.env) (hpl : (backTo pos (starEach es X.env)).any (·.1) = false) :
    L2N.PMk X (.Call (.Name x p) (e :: es) [] pos) (tMkO D sp [] ta) := by
  intro pins s σ H Q I h
  obtain ⟨nm, qn, ns, bs, bm, sn, sub, ab, col, dd, k0, k1, k2, k3, k5, hD, hbm⟩ := T.cls
  refine wpAny_Call_Name_kw (ld_glob I hg hm (callWith_K (h₀ := X.base) I.ok.mod.kin T.kC ?_ he hpl) hdb)
  refine thn (ha.run pos pins s σ H _ I h) ?_
  rintro us ⟨hp, g, dr, tk, os⟩ ⟨vs, H1, I1, r1, hz, q1⟩
  refine ⟨I1.kIn, ?_⟩
  let a : Addr := hp.objs.size + 1
  let hp' := (hp.push (kdv_tup us)).push (HandSPX.excO D hp.objs.size)
  have above : hp.objs.size ≤ a := Nat.le_succ _
  have promise := q1 a (I1.hok.fresh above)
  have old : ∀ b o, hp.get? b = some o → hp'.get? b = some o := by
    intro b o eb
    exact Heap.get?_push_of_some _ (Heap.get?_push_of_some _ eb)
  have new : hp'.get? a = some (HandSPX.excO D hp.objs.size) := by
    show ((hp.push (kdv_tup us)).push (HandSPX.excO D hp.objs.size)).get? (hp.objs.size + 1) = _
    heap_get
  have I2 : Inv X pins σ (upd H1 a (exo a D none)) ⟨hp', g, dr, tk, os⟩ := I1.laid (t' := tk) old above (exo_ok new)
  have rels : Vals (V.ref a :: (vs ++ [])) (Value.ref a :: us) := by
    rw [List.append_nil]
    exact .cons rfl r1
  have lenp : (Value.ref a :: us).length = ps.length := by
    rw [← rels.length]
    exact FI.len _ _ _ _ promise
  have few : us.length ≤ sizeLine := by
    have := Paired.length r1
    rw [sizeLine_eq]
    omega
  have bound := hb _ (Value.ref a :: us) I2.kIn (by rw [List.append_nil]; exact lenp)
  rw [List.append_nil] at bound
  refine wpAny_call (HandSPX.call_own F.excBase_ValueError (fun Y => HandSPX.refsVE_contains Y bm hbm) (I1.kIn _ _ hD) (looks_findIn I1.kIn hi) (fun self => bind_fn I1.kIn self ht) few ?_)
  refine codeAny_mono (FI.run _ X.stack _ _ ⟨Value.ref a :: us, []⟩ (Value.ref a :: us) _ _ (fun _ _ _ => False) (hr.make D us []) (I2.env0.make D us []) bound rels promise) ?_
  intro r s' hq
  match r, hq with
  | .error er, hq =>
    obtain ⟨_, _, _, _, _, _, _, _, _, _, _, _, z⟩ := hq
    exact z.elim
  | .ok .next, hq => exact hq.elim
  | .ok .brk, hq => exact hq.elim
  | .ok .cont, hq => exact hq.elim
  | .ok (.ret u), ⟨v, H2, os2, bare2, un2, hok2, rv, ev, d, fs, ea, ed, hd1, q2⟩ =>
    subst ev
    obtain ⟨h2, g2, d2, t2, os'⟩ := s'
    obtain ⟨t0, G, J, kG, ge, hoe, na⟩ := mk_end0 (d2 := d2) (t2 := t2) I1 above old un2 hok2 os2 bare2 ea ed hd1
    refine ⟨rv, a, _, _, ⟨G, g2, d2, t2, os'⟩, _, .ref D, some d, rfl, J, kG, ge, hoe, ⟨rfl, rfl, ?_⟩, rfl, rfl, na, rfl, bare2, raises_own T.exC T.tyC, q2⟩
    intro ws ew
    cases ew
    rfl
theorem pmk_x1 {x f : Str} {D : Addr} {C : V → Prop} {e : Expr} {ta : TA} {p pos : Pos} (T : ExC1 X.prog X.w X.K X.mg X.base x D f C) (hr : Room 2 X.A) (ha : PA X [e] ta) (hg : Gl X x := by rfl)
    (hdb : (x == ("__debug__" : Str)) = false := by decide) (he : starEach [e] X.env = (false, eval e X.env) :: starEach [] X.env := by rfl) (hpl : (backTo pos (starEach [] X.env)).any (·.1) = false := by rfl) :
    L2N.PMk X (.Call (.Name x p) [e] [] pos) (tMkO D (spX1 D f C) [] ta) := by
  obtain ⟨fI, fd, h1, h2, h3, h4⟩ := T.fi
  exact pmk_oexN T.ox h1 h2 h4 hr h3 hg T.gm ha hdb he hpl
end
def tRaiseX (W : WX) (t : L2.St → Hp → XK → Prop) : TS := fun _ σ H => t σ H fun cls d H' => W cls d σ H'
theorem ps_raiseX {X : Cx} {W : WX} {e : Expr} {t : L2.St → Hp → XK → Prop} {pos : Pos} (hc : X.calm = true) (tk : L2N.Takes X W) (he : L2N.PMk X e t) : PS X (.Raise (some e) none pos) (tRaiseX W t) := L2N.ps_raise hc tk he
section
variable {D : Addr} {f : Str} {C : V → Prop} {ta : TA} {σ : L2.St} {H H1 : Hp} {Q : XK} {v : V}
theorem r_raiseX {W : WX} {t : L2.St → Hp → XK → Prop} {E : Ends} (h : t σ H fun cls d H' => W cls d σ H') : tRaiseX W t E σ H := h
theorem r_mkO {sp : Sp} (h : ta σ H fun vs H1 => vs.length ≤ 1000 ∧ ∀ a, H1 a = none → sp (.ref a :: (vs ++ [])) (upd H1 a (exo a D none))
  (fun v H2 => v = .non ∧ ∃ (d : Addr) (fs : List (Str × V)), H2 a = some (exo a D (some d)) ∧ H2 d = some (exd d fs) ∧ H1 d = none ∧ Q (.ref D) (some d) (upd (del H2 a) d (.xd fs))) (fun _ _ _ => False)) : tMkO D sp [] ta σ H Q := h
theorem r_mkx (hv : C v) (h : ∀ d H', H1 d = none → Same H1 H' → H' d = some (.xd [(f, v)]) → Q (.ref D) (some d) H') : [v].length ≤ 1000 ∧ ∀ a, H1 a = none → spX1 D f C (.ref a :: ([v] ++ [])) (upd H1 a (exo a D none))
  (fun v H2 => v = .non ∧ ∃ (d : Addr) (fs : List (Str × V)), H2 a = some (exo a D (some d)) ∧ H2 d = some (exd d fs) ∧ H1 d = none ∧ Q (.ref D) (some d) (upd (del H2 a) d (.xd fs))) (fun _ _ _ => False) := by
  refine ⟨by show 1 ≤ 1000; decide, fun a ha => ⟨a, v, rfl, hv, upd_same, fun d hd hda => ⟨rfl, d, [(f, v)], upd_same, ?_, ?_, ?_⟩⟩⟩
  · rw [upd_ne hda, upd_same]
  · rw [upd_ne hda] at hd
    exact hd
  · rw [upd_ne hda] at hd
    refine h d _ hd (fun b o hb => ?_) upd_same
    rw [upd_ne (ne_of_none hb hd), del_ne (ne_of_none hb ha), upd_ne (ne_of_none hb ha), upd_ne (ne_of_none hb hd), upd_ne (ne_of_none hb ha)]
    exact hb
end
/-- the built-in names are still those -/
structure Bl (mg : Str → Option Value) : Prop where
  len : mg "len" = none
  str : mg "str" = none
  int : mg "int" = none
  abs : mg "abs" = none
  min : mg "min" = none
  max : mg "max" = none
  range : mg "range" = none
  repr : mg "repr" = none
  isinstance : mg "isinstance" = none
  dict : mg "dict" = none
  list : mg "list" = none
  tuple : mg "tuple" = none
  sorted : mg "sorted" = none
  any : mg "any" = none
  all : mg "all" = none
  sum : mg "sum" = none
  reversed : mg "reversed" = none
  super : mg "super" = none
  bool : mg "bool" = none
/-! ### readings, one lemma a combinator -/
section
variable {σ : L2.St} {H : Hp} {Q : VK} {v x y z : V} {ta tb te tc : TE} {K : Frag} {D : Ends} {t u : TS} {tt tu : TT} {i : Nat}
theorem r_var (h : σ[i]? = some (some v)) (q : Q v H) : tVar i σ H Q := ⟨v, h, q⟩
theorem r_c (q : Q v H) : tC v σ H Q := q
theorem r_op {r : R2} (h : ta σ H fun x H1 => tb σ H1 fun y H2 => r x y H2 Q) : tOp r ta tb σ H Q := h
theorem r_un {r : V → Hp → VK → Prop} (h : ta σ H fun x H1 => r x H1 Q) : tUn r ta σ H Q := h
theorem r_I0 {g : Int → Int → V} {a b : Int} (q : Q (g a b) H) : rI0 g (.int a) (.int b) H Q := ⟨a, b, rfl, rfl, q⟩
theorem r_I {C : Int → Int → Prop} {g : Int → Int → V} {a b : Int} (c : C a b) (q : Q (g a b) H) : rI C g (.int a) (.int b) H Q := ⟨a, b, rfl, rfl, c, q⟩
theorem r_U {g : Int → V} {a : Int} (q : Q (g a) H) : rU g (.int a) H Q := ⟨a, rfl, q⟩
theorem r_eqI {a b : Int} (q : Q (.bl (decide (a = b))) H) : rEq (.int a) (.int b) H Q := ⟨rfl, by
  have e : decide (V.int a = V.int b) = decide (a = b) := by simp
  rw [e]; exact q⟩
theorem r_neI {a b : Int} (q : Q (.bl (!decide (a = b))) H) : rNe (.int a) (.int b) H Q := ⟨rfl, by
  have e : decide (V.int a = V.int b) = decide (a = b) := by simp
  rw [e]; exact q⟩
theorem r_eqS {a b : Str} (q : Q (.bl (decide (a = b))) H) : rEq (.str a) (.str b) H Q := ⟨rfl, by
  have e : decide (V.str a = V.str b) = decide (a = b) := by simp
  rw [e]; exact q⟩
theorem r_neS {a b : Str} (q : Q (.bl (!decide (a = b))) H) : rNe (.str a) (.str b) H Q := ⟨rfl, by
  have e : decide (V.str a = V.str b) = decide (a = b) := by simp
  rw [e]; exact q⟩
theorem r_eqB {a b : Bool} (q : Q (.bl (decide (a = b))) H) : rEq (.bl a) (.bl b) H Q := ⟨rfl, by
  have e : decide (V.bl a = V.bl b) = decide (a = b) := by simp
  rw [e]; exact q⟩
theorem r_neB {a b : Bool} (q : Q (.bl (!decide (a = b))) H) : rNe (.bl a) (.bl b) H Q := ⟨rfl, by
  have e : decide (V.bl a = V.bl b) = decide (a = b) := by simp
  rw [e]; exact q⟩
theorem r_chain {r r' : R2} (h : ta σ H fun x H1 => tb σ H1 fun y H2 => r x y H2 fun z H3 => ∃ k, z = .bl k ∧ if k = true then tc σ H3 (fun w H4 => r' y w H4 Q) else Q (.bl false) H3) : tChain r r' ta tb tc σ H Q := h
theorem r_test {Q : Bool → Hp → Prop} (h : te σ H fun x H' => ∃ k, x = .bl k ∧ Q k H') : tTest te σ H Q := h
theorem r_B {Q : Bool → Hp → Prop} (h : te σ H fun x H1 => ∃ c, x = .bl c ∧ Q c H1) : tB te σ H Q := h
theorem r_bl {b : Bool} {P : Bool → Prop} (q : P b) : ∃ k, V.bl b = .bl k ∧ P k := ⟨b, rfl, q⟩
theorem r_and {Q : Bool → Hp → Prop} (h : tt σ H fun c H1 => if c = true then tu σ H1 Q else Q false H1) : tAnd tt tu σ H Q := h
theorem r_or {Q : Bool → Hp → Prop} (h : tt σ H fun c H1 => if c = true then Q true H1 else tu σ H1 Q) : tOr tt tu σ H Q := h
theorem r_not {Q : Bool → Hp → Prop} (h : tt σ H fun c H1 => Q (!c) H1) : tNot tt σ H Q := h
theorem r_andV (h : ta σ H fun x H1 => ∃ c, x = .bl c ∧ if c = true then tb σ H1 Q else Q (.bl false) H1) : tAndV ta tb σ H Q := h
theorem r_orV (h : ta σ H fun x H1 => ∃ c, x = .bl c ∧ if c = true then Q (.bl true) H1 else tb σ H1 Q) : tOrV ta tb σ H Q := h
theorem r_notV (h : ta σ H fun x H1 => ∃ c, x = .bl c ∧ Q (.bl (!c)) H1) : tNotV ta σ H Q := h
theorem r_if (h : tt σ H fun c H1 => if c = true then ta σ H1 Q else tb σ H1 Q) : tIf tt ta tb σ H Q := h
theorem r_nil {Q : List V → Hp → Prop} (q : Q [] H) : tNil σ H Q := q
theorem r_cons {tr : TA} {Q : List V → Hp → Prop} (h : ta σ H fun x H1 => tr σ H1 fun xs H2 => Q (x :: xs) H2) : tCons ta tr σ H Q := h
theorem r_cb {r : List V → Hp → VK → Prop} {tr : TA} (h : tr σ H fun vs H1 => r vs H1 Q) : tCB r tr σ H Q := h
theorem r_call {sp : Sp} {E : XK} {tr : TA} (h : tr σ H fun vs H1 => sp (vs ++ []) H1 Q E) : tCall sp [] E tr σ H Q := h
theorem r_callS {sp : Sp} {E : L2.St → XK} {tr : TA} (h : tr σ H fun vs H1 => sp vs H1 Q (E σ)) : tCallS sp E tr σ H Q := h
theorem r_tup {tr : TA} (h : tr σ H fun xs H1 => xs.length ≤ sizeLine ∧ ∀ p, H1 p = none → Q (.ref p) (upd H1 p (.tup xs))) : tTup tr σ H Q := h
theorem r_lst {tr : TA} (h : tr σ H fun xs H1 => xs.length ≤ sizeLine ∧ ∀ p, H1 p = none → Q (.ref p) (upd H1 p (.lst xs))) : tLst tr σ H Q := h
theorem r_seq (h : t { D with nx := u D } σ H) : tSeq t u D σ H := h
theorem r_next (h : D.nx σ H) : tNext D σ H := h
theorem r_asg {g : TG} (h : te σ H fun x H1 => g x σ H1 D.nx) : tAsg te g D σ H := h
theorem r_name {q : L2.St → Hp → Prop} (h : q (σ.set i (some v)) H) : gName i v σ H q := h
theorem r_ifS (h : tt σ H fun b H1 => if b = true then t D σ H1 else u D σ H1) : tIfS tt t u D σ H := h
theorem r_ret (h : te σ H D.rt) : tRet te D σ H := h
theorem r_retN (h : D.rt .non H) : tRetN D σ H := h
theorem r_drop (h : te σ H fun _ H1 => D.nx σ H1) : tDrop te D σ H := h
theorem r_brk (h : D.bk σ H) : tBreak D σ H := h
theorem r_ct (h : D.ct σ H) : tCont D σ H := h
theorem r_sl {r : V → Option Int → Option Int → Hp → VK → Prop} {tl th : TO} (h : te σ H fun x H1 => tl σ H1 fun l H2 => th σ H2 fun u H3 => r x l u H3 Q) : tSl r te tl th σ H Q := h
theorem r_part {Q : Option Int → Hp → Prop} (h : te σ H fun x H1 => ∃ i, x = .int i ∧ Q (some i) H1) : tPart te σ H Q := h
theorem r_nopart {Q : Option Int → Hp → Prop} (h : Q none H) : tNoPart σ H Q := h
theorem r_int {a : Int} {P : Int → Prop} (q : P a) : ∃ k, V.int a = .int k ∧ P k := ⟨a, rfl, q⟩
theorem r_slS {z : Str} {lo hi : Option Int} (hz : z.length ≤ sizeLine) (q : Q (.str (cutS z lo hi)) H) : rSlS (.str z) lo hi H Q := ⟨z, rfl, hz, q⟩
theorem r_bm {T : String} {r : V → List V → Hp → VK → Prop} {tr : TA} (h : te σ H fun x H1 => tyV K T x H1 ∧ tr σ H1 fun xs H2 => r x xs H2 Q) : tBM K T r te tr σ H Q := h
theorem r_bm0 {T : String} {r : V → List V → Hp → VK → Prop} (h : te σ H fun x H1 => tyV K T x H1 ∧ r x [] H1 Q) : tBM0 K T r te σ H Q := h
theorem r_ite {b : Bool} {A B : Prop} (h1 : b = true → A) (h2 : b = false → B) : if b = true then A else B := by
  cases b with
  | true => exact h1 rfl
  | false => exact h2 rfl
end
section
variable {H : Hp} {Q : VK}
theorem r_ch {z : Str} {n c : Nat} {R : Nat → Prop} (hc : z.cps.toList[n]? = some c) (hz : z.length ≤ 1000000) (q : R c) :
    ∃ z' i c, V.str z = .str z' ∧ V.int (n : Int) = .int i ∧ 0 ≤ i ∧ i < 2 ^ 63 ∧ i < z'.length ∧ z'.cps[i.toNat]? = some c ∧ R c := by
  have h1 : n < z.cps.toList.length := (List.getElem?_eq_some_iff.mp hc).1
  rw [Array.length_toList] at h1
  have h2 : z.cps.size ≤ 1000000 := hz
  refine ⟨z, n, c, rfl, rfl, by omega, by omega, ?_, ?_, q⟩
  · show (n : Int) < (z.cps.size : Int)
    omega
  · rw [Int.toNat_natCast, ← Array.getElem?_toList]
    exact hc
theorem r_si {P : Str → Int → Prop} {a : Str} {i : Int} (q : P a i) : ∃ x y, V.str a = .str x ∧ V.int i = .int y ∧ P x y := ⟨a, i, rfl, rfl, q⟩
end
theorem r_int1 {R : Int → Prop} {S : Bool → Prop} {a : Int} (q : R a) : (∃ i, [V.int a] = [.int i] ∧ R i) ∨ (∃ k, [V.int a] = [.bl k] ∧ S k) := .inl ⟨a, rfl, q⟩
theorem r_int1b {R : Int → Prop} {S : Bool → Prop} {b : Bool} (q : S b) : (∃ i, [V.bl b] = [.int i] ∧ R i) ∨ (∃ k, [V.bl b] = [.bl k] ∧ S k) := .inr ⟨b, rfl, q⟩
theorem r_mod {g : Int → Int → V} {C : Int → Int → Prop} {a b : Int} {H : Hp} {Q : VK} (c : C a b) (q : Q (g a b) H) : rI C g (.int a) (.int b) H Q := ⟨a, b, rfl, rfl, c, q⟩
theorem r_ixL {K : Frag} {H : Hp} {p : Addr} {xs : List V} {n : Nat} {v : V} {Q : VK} (h : SqL K H p xs) (hv : xs[n]? = some v) (q : Q v H) : rIxL K (.ref p) (.int (n : Int)) H Q := ⟨p, xs, n, v, rfl, rfl, h, atI_nat hv, q⟩
theorem r_ixT {K : Frag} {H : Hp} {p : Addr} {xs : List V} {n : Nat} {v : V} {Q : VK} (h : SqT K H p xs) (hv : xs[n]? = some v) (q : Q v H) : rIxT K (.ref p) (.int (n : Int)) H Q := ⟨p, xs, n, v, rfl, rfl, h, atI_nat hv, q⟩
theorem r_isT {K : Frag} {H : Hp} {p : Addr} {xs : List V} {x : V} {Q : VK} (h : SqT K H p xs) (hx : flatV x = true) (hf : xs.all flatV = true) (q : Q (.bl (inV x xs)) H) : rIn K false x (.ref p) H Q := ⟨p, xs, rfl, .inr h, hx, hf, q⟩
theorem r_mulS {z : Str} {n : Nat} {H : Hp} {Q : VK} (h1 : n ≤ 1000000) (h2 : z.length * n ≤ 1000000) (q : Q (.str (timesS z n)) H) : rMulS (.str z) (.int (n : Int)) H Q := ⟨z, n, rfl, rfl, h1, h2, q⟩
theorem hotC_of {X : Cx} {a : Addr} {oe : Obj} {cls : Value} {d : Option Addr} {pn : List (Addr × Obj)} (hz : L2N.Zn cls d oe) (hf : ∃ vs, oe.data = .fields vs) : L2H.HotC (X.suite a ((a, oe) :: pn)) := by
  obtain ⟨vs, e⟩ := hf
  exact ⟨(a, oe), ⟨rfl, vs, e, hz.2.2 vs e⟩, List.mem_cons_self⟩
/-- a def that is called while an exception is handled -/
structure CalH (P : Program) (w : World) (K : Frag) (mg : Str → Option Value) (base : Heap) (k : Nat) (x : Str) (ps : List Str) (sp : Sp) : Prop where
  ex : ∃ f fd, mg x = some (.ref f) ∧ keepIn K (.ref f) = true ∧ Binds K fd ps [] ∧ L2H.FnH P w K mg base (L2N.CX P w) k f fd ps sp
theorem calH_mk {P : Program} {w : World} {K : Frag} {mg : Str → Option Value} {base : Heap} {k : Nat} {x : Str} {st : Stmt} {N ps : List Str} {sp : Sp} (dx : DefAt K mg x st) (S : FnScope N ps (defScope st))
    (hb : ∀ (kV doc pm : Value) (an : Option Addr) (cdv ct : Value) (us : List Value), us.length = ps.length → bindArgs (fnOf x x (defArgs st) (defBody st) (defScope st) .none kV doc pm an cdv ct) ⟨us, []⟩ = pure (ps.zip us))
    (len : ∀ vs H Q E, sp vs H Q E → vs.length = ps.length)
    (hbody : ∀ (f : Addr) (cdv : Value) (A : Around) (outer : List Env) (s : Shared) (H : Hp) (vs : List V) (Q : VK) (E : XK) (p : Addr × Obj), L2H.Hot1 A p → L2H.RoomH k (A.deeper (envOfC x (defScope st) s.heap.objs.size f cdv)) → sp vs H Q E →
      ∃ t, PSs (L2H.cxH (L2N.CX P w) P w K mg base N x (defScope st) f cdv A outer s H E p) (defBody st) t ∧ t { nx := fun _ H' => Q .non H', rt := Q } (start N vs) H) : CalH P w K mg base (k + 1) x ps sp := by
  obtain ⟨f, fd, hm, FD⟩ := dx.ex
  have hbn := FD.bindsN hb
  have hkp := FD.kp
  obtain ⟨oc, od, dV, kV, doc, pm, an, cdv, ct, osl, rfl, lk, hcd, _, _⟩ := FD.ex
  exact ⟨f, _, hm, hkp, hbn, L2H.fn_ofH lk hcd S len fun A outer s H vs Q E p hot hr hsp => hbody f cdv A outer s H vs Q E p hot hr hsp⟩
section
variable {X : Cx}
theorem pe_calH {x : Str} {p pos : Pos} {k : Nat} {ps : List Str} {sp : Sp} {e : Expr} {es : List Expr} {ta : TA} (G : CalH X.prog X.w X.K X.mg X.base k x ps sp) (hr : L2H.RoomH k X.A) (hc : L2H.HotC X) (ha : PA X (e :: es) ta) (hg : Gl X x := by rfl)
    (hdb : (x == ("__debug__" : Str)) = false := by decide) (he : starEach (e :: es) X.env = (false, eval e X.env) :: starEach es X.env := by rfl) (hpl : (backTo pos (starEach es X.env)).any (·.1) = false := by rfl) :
    PE X (.Call (.Name x p) (e :: es) [] pos) (tCallS sp (fun _ => E0) ta) := by
  obtain ⟨f, fd, hm, hk, hb, FH⟩ := G.ex
  refine L2H.pe_callH FH hr hc hg hm hk hb (fun σ => ?_) ha hdb he hpl
  rintro _ _ _ _ _ _ ⟨_, _, _, _, _, _, _, _, _, _, _, _, z⟩
  exact z.elim
end
theorem r_sz {a : Nat} {B : Prop} (h : a ≤ 1000000) (q : B) : a ≤ sizeLine ∧ B := ⟨Nat.le_trans h (by decide), q⟩
/-! ### data of tuples, texts, numbers: never changed -/
mutual
inductive Tp (H : Hp) : V → PyData → Prop
  | non : Tp H .non .none
  | bl (b : Bool) : Tp H (.bl b) (.bool b)
  | int (i : Int) : Tp H (.int i) (.int i)
  | str (x : Str) : Tp H (.str x) (.str x)
  | tup {a : Addr} {xs : List V} {ds : List PyData} : H a = some (.tup xs) → TpAll H xs ds → Tp H (.ref a) (.tuple ds)
inductive TpAll (H : Hp) : List V → List PyData → Prop
  | nil : TpAll H [] []
  | cons {v : V} {vs : List V} {d : PyData} {ds : List PyData} : Tp H v d → TpAll H vs ds → TpAll H (v :: vs) (d :: ds)
end
def Keep (H H' : Hp) : Prop := ∀ a xs, H a = some (.tup xs) → H' a = some (.tup xs)
theorem Same.keep {H H' : Hp} (h : Same H H') : Keep H H' := fun a xs e => h a _ e
theorem Keep.trans {H H1 H2 : Hp} (a : Keep H H1) (b : Keep H1 H2) : Keep H H2 := fun x xs e => b x xs (a x xs e)
theorem Keep.refl (H : Hp) : Keep H H := fun _ _ e => e
theorem Keep.new {H : Hp} {p : Addr} {o : HO} (h : H p = none) : Keep H (upd H p o) := fun a xs e => by
  rw [upd_ne (ne_of_none e h)]; exact e
theorem Keep.mut {H : Hp} {p : Addr} {o u : HO} (h : H p = some u) (hu : ∀ xs, u ≠ .tup xs) : Keep H (upd H p o) := fun a xs e => by
  rw [upd_ne (ne_of e h (Ne.symm (hu xs)))]; exact e
theorem Same.new {H : Hp} {p : Addr} {o : HO} (h : H p = none) : Same H (upd H p o) := fun a u e => by
  rw [upd_ne (ne_of_none e h)]; exact e
theorem Same.mut {H H' : Hp} {p : Addr} {o : HO} (s : Same H H') (h : H p = none) : Same H (upd H' p o) := fun a u e => by
  rw [upd_ne (ne_of_none e h)]; exact s a u e
mutual
theorem Tp.keep {H H' : Hp} (k : Keep H H') : ∀ {v : V} {d : PyData}, Tp H v d → Tp H' v d
  | _, _, .non => .non
  | _, _, .bl b => .bl b
  | _, _, .int i => .int i
  | _, _, .str x => .str x
  | _, _, .tup h t => .tup (k _ _ h) (TpAll.keep k t)
theorem TpAll.keep {H H' : Hp} (k : Keep H H') : ∀ {vs : List V} {ds : List PyData}, TpAll H vs ds → TpAll H' vs ds
  | _, _, .nil => .nil
  | _, _, .cons h t => .cons (Tp.keep k h) (TpAll.keep k t)
end
mutual
theorem Tp.dp {K : Frag} {H : Hp} : ∀ {v : V} {d : PyData}, Tp H v d → Dp K H v d
  | _, _, .non => .non
  | _, _, .bl b => .bl b
  | _, _, .int i => .int i
  | _, _, .str x => .str x
  | _, _, .tup h t => .tup (SqT.of h) (TpAll.dp t)
theorem TpAll.dp {K : Frag} {H : Hp} : ∀ {vs : List V} {ds : List PyData}, TpAll H vs ds → DpAll K H vs ds
  | _, _, .nil => .nil
  | _, _, .cons h t => .cons (Tp.dp h) (TpAll.dp t)
end
theorem TpAll.app {H : Hp} : ∀ {vs us : List V} {ds es : List PyData}, TpAll H vs ds → TpAll H us es → TpAll H (vs ++ us) (ds ++ es)
  | _, _, _, _, .nil, h => h
  | _, _, _, _, .cons a b, h => .cons a (TpAll.app b h)
theorem TpAll.len {H : Hp} : ∀ {vs : List V} {ds : List PyData}, TpAll H vs ds → vs.length = ds.length
  | _, _, .nil => rfl
  | _, _, .cons _ b => congrArg (· + 1) (TpAll.len b)
theorem TpAll.get {H : Hp} : ∀ {vs : List V} {ds : List PyData} {i : Nat} {d : PyData}, TpAll H vs ds → ds[i]? = some d → ∃ v, vs[i]? = some v ∧ Tp H v d
  | _, _, _, _, .nil, h => by simp at h
  | _, _, 0, _, .cons a _, h => by
    simp at h; subst h; exact ⟨_, rfl, a⟩
  | _, _, i + 1, _, .cons _ b, h => by
    obtain ⟨v, h1, h2⟩ := TpAll.get (i := i) b (by simpa using h)
    exact ⟨v, by simpa using h1, h2⟩
end Al
namespace Al
open PySem PySem.Spec PyProof.Rows L2 NdefX PySem.W
/-! ### the lexer in plain Lean, over lists of code points -/
def isLetter (c : Nat) : Bool := (decide (97 ≤ c) && decide (c ≤ 122)) || (decide (65 ≤ c) && decide (c ≤ 90))
def isDigit (c : Nat) : Bool := decide (48 ≤ c) && decide (c ≤ 57)
def inName (c : Nat) : Bool := isLetter c || (isDigit c || decide (c = 95))
def notNl (c : Nat) : Bool := !decide (c = 10)
def spanEnd (p : Nat → Bool) (l : List Nat) (n : Nat) : Nat := n + ((l.drop n).takeWhile p).length
theorem spanEnd_go {p : Nat → Bool} {l : List Nat} {n c : Nat} (h : l[n]? = some c) (hp : p c = true) : spanEnd p l (n + 1) = spanEnd p l n := by
  unfold spanEnd
  obtain ⟨h1, h2⟩ := List.getElem?_eq_some_iff.mp h
  have e : l.drop n = c :: l.drop (n + 1) := by rw [List.drop_eq_getElem_cons h1, h2]
  rw [e, List.takeWhile_cons, if_pos hp, List.length_cons]
  omega
theorem spanEnd_stop {p : Nat → Bool} {l : List Nat} {n c : Nat} (h : l[n]? = some c) (hp : p c = false) : spanEnd p l n = n := by
  unfold spanEnd
  obtain ⟨h1, h2⟩ := List.getElem?_eq_some_iff.mp h
  have e : l.drop n = c :: l.drop (n + 1) := by rw [List.drop_eq_getElem_cons h1, h2]
  rw [e, List.takeWhile_cons, if_neg (by rw [hp]; decide)]
  simp
theorem spanEnd_end {p : Nat → Bool} {l : List Nat} {n : Nat} (h : l.length ≤ n) : spanEnd p l n = n := by
  unfold spanEnd
  rw [List.drop_eq_nil_of_le h]
  simp
theorem spanEnd_le {p : Nat → Bool} {l : List Nat} {n : Nat} (h : n ≤ l.length) : spanEnd p l n ≤ l.length := by
  unfold spanEnd
  have h1 : ((l.drop n).takeWhile p).length ≤ (l.drop n).length := (List.takeWhile_sublist _).length_le
  rw [List.length_drop] at h1
  omega
theorem spanEnd_ge {p : Nat → Bool} {l : List Nat} {n : Nat} : n ≤ spanEnd p l n := Nat.le_add_right _ _
def uS (l : List Nat) : Str := ⟨l.toArray⟩
def lS (s : Str) : List Nat := s.cps.toList
theorem uS_lS (s : Str) : uS (lS s) = s := rfl
theorem lS_uS (l : List Nat) : lS (uS l) = l := rfl
def RES : List Str := ["and", "base", "else", "false", "from", "fun", "if", "in", "iterate", "let", "not", "or", "show", "then", "true", "unit"]
def SIG : List Str := ["<=", "==", "=", "<", "+", "-", "*", "/", "^", ",", ";", ":", "(", ")", "[", "]"]
inductive Tk where
  | word (s : Str)
  | name (s : Str)
  | num (top bot : Nat)
  | sign (s : Str)
  deriving DecidableEq
def Tk.kind : Tk → Str
  | .word _ => "word"
  | .name _ => "name"
  | .num _ _ => "number"
  | .sign _ => "sign"
def Tk.val : Tk → PyData
  | .word s => .str s
  | .name s => .str s
  | .num a b => .tuple [.int (a : Int), .int (b : Int)]
  | .sign s => .str s
def tokD (t : Tk × Nat) : PyData := .tuple [.str t.1.kind, t.1.val, .int (t.2 : Int)]
/-- the value of digits -/
abbrev digV (l : List Nat) : Nat := NumText.digitsVal l
def wordTok (s : List Nat) : Option (Tk × Nat) :=
  if uS (s.takeWhile inName) ∈ RES then some (.word (uS (s.takeWhile inName)), (s.takeWhile inName).length)
  else if (s.takeWhile inName).length > 16 then none
  else some (.name (uS (s.takeWhile inName)), (s.takeWhile inName).length)
/-- the digits behind a point -/
def partOf (r : List Nat) : List Nat := match r with
  | c :: d :: r => if c = 46 ∧ isDigit d = true then (d :: r).takeWhile isDigit else []
  | _ => []
def nextIn (r : List Nat) : Bool := match r with
  | c :: _ => inName c
  | [] => false
def numLen (s : List Nat) : Nat := (s.takeWhile isDigit).length + (if partOf (s.drop (s.takeWhile isDigit).length) = [] then 0 else 1 + (partOf (s.drop (s.takeWhile isDigit).length)).length)
def numTok (s : List Nat) : Option (Tk × Nat) :=
  if (s.takeWhile isDigit).length > 6 ∨ (partOf (s.drop (s.takeWhile isDigit).length)).length > 4 ∨ nextIn (s.drop (numLen s)) = true then none
  else some (.num (digV (s.takeWhile isDigit ++ partOf (s.drop (s.takeWhile isDigit).length))) (10 ^ (partOf (s.drop (s.takeWhile isDigit).length)).length), numLen s)
def signTok (s : List Nat) : Option (Tk × Nat) := match SIG.find? (fun g => (lS g).isPrefixOf s) with
  | some g => some (.sign g, (lS g).length)
  | none => none
def tok1 (s : List Nat) : Option (Tk × Nat) := match s with
  | [] => none
  | c :: _ => if isLetter c = true then wordTok s else if isDigit c = true then numTok s else signTok s
def isSp (c : Nat) : Bool := decide (c = 32) || (decide (c = 9) || decide (c = 10))
/-- from the index i on, the rest s: the tokens, then the end (none) or a bad piece's index -/
inductive Lex : Nat → List Nat → List (Tk × Nat) → Option Nat → Prop
  | nil {i : Nat} : Lex i [] [] none
  | sp {i c : Nat} {s : List Nat} {ts : List (Tk × Nat)} {e : Option Nat} : isSp c = true → Lex (i + 1) s ts e → Lex i (c :: s) ts e
  | com {i : Nat} {s : List Nat} {ts : List (Tk × Nat)} {e : Option Nat} : Lex (i + (1 + (s.takeWhile notNl).length)) (s.drop (s.takeWhile notNl).length) ts e → Lex i (35 :: s) ts e
  | tok {i c k : Nat} {s : List Nat} {t : Tk} {ts : List (Tk × Nat)} {e : Option Nat} : isSp c = false → c ≠ 35 → tok1 (c :: s) = some (t, k) → Lex (i + k) ((c :: s).drop k) ts e → Lex i (c :: s) ((t, i) :: ts) e
  | bad {i c : Nat} {s : List Nat} : isSp c = false → c ≠ 35 → tok1 (c :: s) = none → Lex i (c :: s) [] (some i)
/-! ### one sign compared -/
theorem lt1 (a b : Nat) : decide ([a] < [b]) = decide (a < b) := by
  by_cases h : a < b
  · rw [decide_eq_true h, decide_eq_true (List.cons_lt_cons_iff.mpr (.inl h))]
  · rw [decide_eq_false h, decide_eq_false]
    intro z
    rcases List.cons_lt_cons_iff.mp z with z | ⟨_, z⟩
    · exact h z
    · exact absurd z (by simp)
theorem le1 (a b : Nat) : (!decide ([a] < [b])) = decide (b ≤ a) := by
  rw [lt1]
  by_cases h : a < b
  · rw [decide_eq_true h, decide_eq_false (by omega)] <;> rfl
  · rw [decide_eq_false h, decide_eq_true (by omega)] <;> rfl
theorem eq1 (a b : Nat) : decide ((⟨#[a]⟩ : Str) = ⟨#[b]⟩) = decide (a = b) := by simp
theorem leA (c : Nat) (x : Str) (a : Nat) (hx : x = ⟨#[a]⟩) : (!decide ((⟨#[c]⟩ : Str).cps.toList < x.cps.toList)) = decide (a ≤ c) := by subst hx; exact le1 c a
theorem leB (c : Nat) (x : Str) (a : Nat) (hx : x = ⟨#[a]⟩) : (!decide (x.cps.toList < (⟨#[c]⟩ : Str).cps.toList)) = decide (c ≤ a) := by subst hx; exact le1 a c
theorem eqA (c : Nat) (x : Str) (a : Nat) (hx : x = ⟨#[a]⟩) : decide ((⟨#[c]⟩ : Str) = x) = decide (c = a) := by subst hx; exact eq1 c a
theorem log_ok {n : Nat} (h : n ≤ 1000000) : ((n : Int)).natAbs.log2 < 1920 := by
  rw [Int.natAbs_natCast]
  by_cases h0 : n = 0
  · subst h0; decide
  · rw [Nat.log2_lt h0]
    exact Nat.lt_of_le_of_lt h (Nat.lt_of_lt_of_le (by decide : 1000000 < 2 ^ 20) (Nat.pow_le_pow_right (by decide) (by decide)))
theorem sIx_nat {N d n : Nat} (h : n ≤ N) : HT.sIx N d (some (n : Int)) = n := by
  rw [HT.sIx_nat]
  omega
theorem cutS_nat {z : Str} {n m : Nat} (h1 : n ≤ z.length) (h2 : m ≤ z.length) : cutS z (some (n : Int)) (some (m : Int)) = uS (((lS z).drop n).take (m - n)) := by
  unfold cutS
  rw [sIx_nat h1, sIx_nat h2] <;> rfl
theorem take_tw (p : Nat → Bool) : ∀ l : List Nat, l.take (l.takeWhile p).length = l.takeWhile p
  | [] => rfl
  | c :: l => by
    rw [List.takeWhile_cons]
    split
    · rw [List.length_cons, List.take_succ_cons, take_tw p l]
    · rfl
theorem cut_span {z : Str} {n : Nat} (p : Nat → Bool) (h1 : n ≤ z.length) : cutS z (some (n : Int)) (some ((spanEnd p (lS z) n : Nat) : Int)) = uS (((lS z).drop n).takeWhile p) := by
  have hl : (lS z).length = z.length := Array.length_toList
  rw [cutS_nat h1 (by rw [← hl]; exact spanEnd_le (by omega))]
  congr 1
  have e : spanEnd p (lS z) n - n = (((lS z).drop n).takeWhile p).length := by unfold spanEnd; omega
  rw [e, take_tw]
theorem inV_str (x : Str) : ∀ l : List Str, inV (.str x) (l.map V.str) = decide (x ∈ l)
  | [] => by simp [inV]
  | y :: l => by
    have ih := inV_str x l
    simp only [inV, List.map_cons, List.any_cons, List.mem_cons] at ih ⊢
    rw [ih]
    by_cases h : x = y
    · subst h; simp [eqV]
    · have h' : ¬ y = x := fun e => h e.symm
      simp [eqV, h, h']
theorem flat_strs : ∀ l : List Str, (l.map V.str).all flatV = true
  | [] => rfl
  | y :: l => by
    rw [List.map_cons, List.all_cons, flat_strs l]
    rfl
theorem starts_iff {x y : Str} {n : Nat} (h : n ≤ x.length) : Txt.startswith3 x y (n : Int) = (lS y).isPrefixOf ((lS x).drop n) := by
  have e1 : PySem.fromIndex x.length (n : Int) = n := by
    unfold PySem.fromIndex
    rw [if_neg (by omega)]
    omega
  have hx : (lS x).length = x.length := Array.length_toList
  have hy : (lS y).length = y.length := Array.length_toList
  have e2 : Builtin.Str.subAt x y n = TL.pre (lS y) ((lS x).drop n) := by
    have := PySem.StrLaws.subAt_eq x y n
    rw [this]
    show (((lS x).drop n).take y.length == lS y) = (((lS x).drop n).take (lS y).length == lS y)
    rw [hy]
  unfold Txt.startswith3
  rw [e1, e2]
  unfold TL.pre
  have e3 : (lS y).isPrefixOf ((lS x).drop n) = true ↔ (lS y) <+: ((lS x).drop n) := List.isPrefixOf_iff_prefix
  cases hp : (lS y).isPrefixOf ((lS x).drop n) with
  | true =>
    have hq := e3.mp hp
    have hlen := hq.length_le
    rw [List.length_drop] at hlen
    have ht := List.prefix_iff_eq_take.mp hq
    by_cases h0 : (lS y).length = 0
    · have : lS y = [] := List.length_eq_zero_iff.mp h0
      rw [Bool.and_eq_true]
      refine ⟨decide_eq_true (by omega), by rw [this]; rfl⟩
    · rw [Bool.and_eq_true]
      exact ⟨decide_eq_true (by omega), beq_iff_eq.mpr ht.symm⟩
  | false =>
    rw [Bool.and_eq_false_iff]
    right
    rw [beq_eq_false_iff_ne]
    intro e
    have : (lS y) <+: ((lS x).drop n) := List.prefix_iff_eq_take.mpr e.symm
    rw [e3.mpr this] at hp
    cases hp
theorem drop_cons {l : List Nat} {n c : Nat} (h : l[n]? = some c) : l.drop n = c :: l.drop (n + 1) := by
  obtain ⟨h1, h2⟩ := List.getElem?_eq_some_iff.mp h
  rw [List.drop_eq_getElem_cons h1, h2]
theorem partOf_yes {l : List Nat} {e d : Nat} (h1 : l[e]? = some 46) (h2 : l[e + 1]? = some d) (h3 : isDigit d = true) : partOf (l.drop e) = (l.drop (e + 1)).takeWhile isDigit := by
  rw [drop_cons h1, drop_cons h2]
  show (if 46 = 46 ∧ isDigit d = true then _ else _) = _
  rw [if_pos ⟨rfl, h3⟩]
theorem partOf_ne {l : List Nat} {e d : Nat} (h1 : l[e]? = some 46) (h2 : l[e + 1]? = some d) (h3 : isDigit d = true) : partOf (l.drop e) ≠ [] := by
  rw [partOf_yes h1 h2 h3, drop_cons h2, List.takeWhile_cons, if_pos h3]
  exact List.cons_ne_nil _ _
theorem partOf_no {l : List Nat} {e : Nat} (h : ¬ (l[e]? = some 46 ∧ ∃ d, l[e + 1]? = some d ∧ isDigit d = true)) : partOf (l.drop e) = [] := by
  cases hc : l[e]? with
  | none =>
    rw [List.drop_eq_nil_of_le (List.getElem?_eq_none_iff.mp hc)]
    rfl
  | some c =>
    rw [drop_cons hc]
    cases hd : l[e + 1]? with
    | none =>
      rw [List.drop_eq_nil_of_le (List.getElem?_eq_none_iff.mp hd)]
      rfl
    | some d =>
      rw [drop_cons hd]
      show (if c = 46 ∧ isDigit d = true then _ else _) = _
      rw [if_neg]
      rintro ⟨rfl, h3⟩
      exact h ⟨hc, d, hd, h3⟩
theorem partOf_digits (r : List Nat) : ∀ c ∈ partOf r, isDigit c = true := by
  intro c hc
  unfold partOf at hc
  split at hc
  · split at hc
    · exact List.all_eq_true.mp (List.all_takeWhile (l := _ :: _) (p := isDigit)) c hc
    · simp at hc
  · simp at hc
theorem isDigit_ok {c : Nat} (h : isDigit c = true) : 48 ≤ c ∧ c ≤ 57 := by
  unfold isDigit at h
  rw [Bool.and_eq_true] at h
  exact ⟨of_decide_eq_true h.1, of_decide_eq_true h.2⟩
theorem uS_app (a b : List Nat) : uS a ++ uS b = uS (a ++ b) := by
  show (⟨a.toArray ++ b.toArray⟩ : Str) = ⟨(a ++ b).toArray⟩
  simp
theorem nextIn_drop {l : List Nat} {e c : Nat} (h : l[e]? = some c) : nextIn (l.drop e) = inName c := by
  rw [drop_cons h] <;> rfl
theorem nextIn_end {l : List Nat} {e : Nat} (h : l.length ≤ e) : nextIn (l.drop e) = false := by
  rw [List.drop_eq_nil_of_le h] <;> rfl
theorem tok_match {o : Option (Tk × Nat)} {S : Tk → Nat → Prop} {N : Prop} (h1 : ∀ t k, o = some (t, k) → S t k) (h2 : o = none → N) : match o with | some (t, k) => S t k | none => N := by
  match o, h1, h2 with
  | some (t, k), h1, _ => exact h1 t k rfl
  | none, _, h2 => exact h2 rfl
theorem isp_in (c : Nat) : inV (.str ⟨#[c]⟩) [.str " ", .str "\t", .str "\n"] = isSp c := by
  have e := inV_str ⟨#[c]⟩ [" ", "\t", "\n"]
  refine Eq.trans e ?_
  unfold isSp
  have h1 := eqA c " " 32 (by decide +kernel)
  have h2 := eqA c "\t" 9 (by decide +kernel)
  have h3 := eqA c "\n" 10 (by decide +kernel)
  rw [← h1, ← h2, ← h3]
  simp [List.mem_cons]
theorem tw_le (p : Nat → Bool) (s : List Nat) : (s.takeWhile p).length ≤ s.length := (List.takeWhile_sublist p).length_le
theorem partOf_lt : ∀ r : List Nat, partOf r ≠ [] → 1 + (partOf r).length ≤ r.length
  | [], h => absurd rfl h
  | [_], h => absurd rfl h
  | a :: d :: r, h => by
    have e : partOf (a :: d :: r) = if a = 46 ∧ isDigit d = true then (d :: r).takeWhile isDigit else [] := rfl
    rw [e] at h ⊢
    split at h
    · rename_i hh
      rw [if_pos hh]
      have := tw_le isDigit (d :: r)
      rw [List.length_cons (a := a)]; omega
    · exact absurd rfl h
theorem tok1_len {c : Nat} {s : List Nat} {t : Tk} {k : Nat} (h : tok1 (c :: s) = some (t, k)) : 1 ≤ k ∧ k ≤ (c :: s).length := by
  have h : (if isLetter c = true then wordTok (c :: s) else if isDigit c = true then numTok (c :: s) else signTok (c :: s)) = some (t, k) := h
  have hw : ∀ p : Nat → Bool, p c = true → 1 ≤ ((c :: s).takeWhile p).length := fun p hp => by
    rw [List.takeWhile_cons, if_pos hp, List.length_cons]; omega
  split at h
  · rename_i hc
    unfold wordTok at h
    have h1 := hw inName (by unfold inName; rw [hc]; rfl)
    have h2 := tw_le inName (c :: s)
    split at h
    · cases h; exact ⟨h1, h2⟩
    · split at h
      · cases h
      · cases h; exact ⟨h1, h2⟩
  · split at h
    · rename_i hc
      unfold numTok at h
      have h1 := hw isDigit hc
      split at h
      · cases h
      · injection h with h
        injection h with _ h
        subst h
        unfold numLen
        have h2 := tw_le isDigit (c :: s)
        generalize ((c :: s).takeWhile isDigit).length = n at *
        refine ⟨by split <;> omega, ?_⟩
        split
        · omega
        · rename_i hp
          have h3 : 1 + (partOf ((c :: s).drop n)).length ≤ ((c :: s).drop n).length := by
            exact partOf_lt _ hp
          rw [List.length_drop] at h3
          omega
    · unfold signTok at h
      split at h
      · rename_i g hg
        cases h
        have hp := List.find?_some hg
        have hm := List.mem_of_find?_eq_some hg
        have h1 : ∀ g ∈ SIG, 1 ≤ (lS g).length := by decide +kernel
        exact ⟨h1 g hm, (List.isPrefixOf_iff_prefix.mp hp).length_le⟩
      · cases h
/-! ### promises -/
def spCh (g : Nat → Bool) : Sp := fun vs H Q _ => ∃ c : Nat, vs = [.str ⟨#[c]⟩] ∧ Q (.bl (g c)) H
def spSpan (p : Nat → Bool) : Sp := fun vs H Q _ => ∃ (z : Str) (n : Nat), vs = [.str z, .int n] ∧ z.length ≤ 20000 ∧ n ≤ z.length ∧ Q (.int (spanEnd p (lS z) n)) H
def spTok (DM : Addr) (p : Nat → Bool) (g : List Nat → Option (Tk × Nat)) : Sp := fun vs H Q E => ∃ (z : Str) (n : Nat), vs = [.str z, .int n] ∧ z.length ≤ 20000 ∧ n < z.length ∧ (∃ c, (lS z)[n]? = some c ∧ p c = true) ∧
  match g ((lS z).drop n) with
  | some (t, k) => ∀ p v H', Same H H' → H' p = some (.tup [v, .int ((n + k : Nat) : Int)]) → Tp H' v (tokD (t, n)) → Q (.ref p) H'
  | none => ∀ d H', Same H H' → H' d = some (.xd [("at", .int n)]) → E (.ref DM) (some d) H'
def spTokens (DM DO : Addr) : Sp := fun vs H Q E => ∃ (z : Str), vs = [.str z] ∧ z.length ≤ 20000 ∧
  ((12000 < z.length ∧ ∀ d H', Same H H' → H' d = some (.xd [("limit", .str "text")]) → E (.ref DO) (some d) H') ∨
    ∃ ts e, z.length ≤ 12000 ∧ Lex 0 (lS z) ts e ∧ match e with
    | none => ∀ p vs H', Same H H' → H p = none → H' p = some (.lst vs) → TpAll H' vs (ts.map tokD) → Q (.ref p) H'
    | some i => ∀ d H', Same H H' → H' d = some (.xd [("at", .int (i : Int))]) → E (.ref DM) (some d) H')
def CMal (v : V) : Prop := ∃ i : Int, v = .int i ∧ i.natAbs.log2 < 1920
def COver (v : V) : Prop := ∃ x : Str, v = .str x
/-- the constants of the lexer -/
structure LexC (K : Frag) (mg : Str → Option Value) : Prop where
  res : ∃ a, mg "RESERVED" = some (.ref a) ∧ ∀ H, SqT K H a (RES.map V.str)
  sig : ∃ a, mg "SIGNS" = some (.ref a) ∧ ∀ H, SqT K H a (SIG.map V.str)
  gMT : ∃ t, mg "MAX_TEXT" = some (.int 12000 t)
  gMN : ∃ t, mg "MAX_NAME" = some (.int 16 t)
end Al
namespace Al
open PySem PySem.Spec PyProof.Rows L2 NdefX PySem.W
/-! ### data that repr can show -/
structure ShowOk (d : PyData) (w dp : Nat) : Prop where
  sh : d.showable = true
  nd : d.hasDict = false
  lv : d.leavesShort 13 = true
  wt : d.weight ≤ w
  dp : d.depth ≤ dp
theorem ShowOk.fits {d : PyData} {w dp : Nat} (h : ShowOk d w dp) (hw : w ≤ 1000000) : d.shown.length ≤ sizeLine :=
  PyData.shown_fits (B := 13) (by decide) (by decide) h.lv (Nat.le_trans h.wt (Nat.le_trans hw (by decide)))
theorem ShowOk.mono {d : PyData} {w w' dp dp' : Nat} (h : ShowOk d w dp) (hw : w ≤ w') (hd : dp ≤ dp') : ShowOk d w' dp' := ⟨h.sh, h.nd, h.lv, Nat.le_trans h.wt hw, Nat.le_trans h.dp hd⟩
theorem ShowOk.none : ShowOk .none 0 0 := ⟨rfl, rfl, rfl, Nat.le_refl _, Nat.le_refl _⟩
theorem ShowOk.bool (b : Bool) : ShowOk (.bool b) 0 0 := ⟨rfl, rfl, rfl, Nat.le_refl _, Nat.le_refl _⟩
def Plain (x : Str) : Prop := ∀ c ∈ lS x, c < 16 ^ 8
theorem ShowOk.str {x : Str} (h : Plain x) : ShowOk (.str x) x.length 0 := by
  refine ⟨rfl, rfl, ?_, Nat.le_refl _, Nat.le_refl _⟩
  show (x.cps.toList.all fun c => decide (c < 16 ^ 8)) = true
  rw [List.all_eq_true]
  intro c hc
  exact decide_eq_true (h c hc)
theorem ShowOk.int {i : Int} (h : i.natAbs < 10 ^ 12) : ShowOk (.int i) 41 0 := by
  have hl : i.natAbs.log2 < 40 := by
    by_cases h0 : i.natAbs = 0
    · rw [h0]; decide
    · rw [Nat.log2_lt h0]
      exact Nat.lt_of_lt_of_le h (by decide)
  refine ⟨?_, rfl, ?_, ?_, Nat.le_refl _⟩
  · show decide (i.natAbs.log2 < 1920) = true
    exact decide_eq_true (by omega)
  · show decide (((PyData.int i).shown).length ≤ 13) = true
    exact decide_eq_true (PyData.shown_int_le h)
  · show (if (i == 0) = true then 0 else i.natAbs.log2 + 1) ≤ 41
    split <;> omega
theorem showAll {w dp : Nat} : ∀ {ds : List PyData}, (∀ d ∈ ds, ShowOk d w dp) → PyData.showableAll ds = true ∧ PyData.hasDictAll ds = false ∧ PyData.leavesShortAll 13 ds = true ∧ PyData.weightAll ds ≤ ds.length * (w + 1) ∧ PyData.depthAll ds ≤ dp
  | [], _ => ⟨rfl, rfl, rfl, Nat.zero_le _, Nat.zero_le _⟩
  | d :: ds, h => by
    obtain ⟨h1, h2, h3, h4, h5⟩ := showAll fun e he => h e (List.mem_cons_of_mem _ he)
    have hd := h d List.mem_cons_self
    refine ⟨?_, ?_, ?_, ?_, ?_⟩
    · simp only [PyData.showableAll, hd.sh, h1, Bool.and_self]
    · simp only [PyData.hasDictAll, hd.nd, h2, Bool.or_self]
    · simp only [PyData.leavesShortAll, hd.lv, h3, Bool.and_self]
    · simp only [PyData.weightAll, List.length_cons]
      have := hd.wt
      have e : (ds.length + 1) * (w + 1) = ds.length * (w + 1) + (w + 1) := Nat.succ_mul _ _
      omega
    · simp only [PyData.depthAll]
      exact Nat.max_le.mpr ⟨hd.dp, h5⟩
theorem ShowOk.list {ds : List PyData} {w dp : Nat} (h : ∀ d ∈ ds, ShowOk d w dp) : ShowOk (.list ds) (ds.length * (w + 1)) (dp + 1) := by
  obtain ⟨h1, h2, h3, h4, h5⟩ := showAll h
  exact ⟨by simpa [PyData.showable] using h1, by simpa [PyData.hasDict] using h2, by simpa [PyData.leavesShort] using h3, by simpa [PyData.weight] using h4, by simp only [PyData.depth]; omega⟩
theorem ShowOk.tuple {ds : List PyData} {w dp : Nat} (h : ∀ d ∈ ds, ShowOk d w dp) : ShowOk (.tuple ds) (ds.length * (w + 1)) (dp + 1) := by
  obtain ⟨h1, h2, h3, h4, h5⟩ := showAll h
  exact ⟨by simpa [PyData.showable] using h1, by simpa [PyData.hasDict] using h2, by simpa [PyData.leavesShort] using h3, by simpa [PyData.weight] using h4, by simp only [PyData.depth]; omega⟩
/-- tokens of which repr is asked -/
def Tk.ok : Tk → Prop
  | .word s => Plain s ∧ s.length ≤ 16
  | .name s => Plain s ∧ s.length ≤ 16
  | .num a b => a < 10 ^ 12 ∧ b < 10 ^ 12
  | .sign s => Plain s ∧ s.length ≤ 16
theorem tok_show {t : Tk × Nat} (h : t.1.ok) (hi : t.2 < 10 ^ 12) : ShowOk (tokD t) 303 2 := by
  obtain ⟨t, i⟩ := t
  have hk : ShowOk (.str t.kind) 100 1 := by
    have : Plain t.kind ∧ t.kind.length ≤ 100 := by
      have k4 : ∀ x ∈ (["word", "name", "number", "sign"] : List Str), Plain x ∧ x.length ≤ 100 := by unfold Plain; decide +kernel
      cases t <;> exact k4 _ (by simp [Tk.kind])
    exact (ShowOk.str this.1).mono this.2 (by decide)
  have hv : ShowOk t.val 100 1 := by
    cases t with
    | word s => exact (ShowOk.str h.1).mono (Nat.le_trans h.2 (by decide)) (by decide)
    | name s => exact (ShowOk.str h.1).mono (Nat.le_trans h.2 (by decide)) (by decide)
    | sign s => exact (ShowOk.str h.1).mono (Nat.le_trans h.2 (by decide)) (by decide)
    | num a b =>
      refine (ShowOk.tuple (ds := [.int (a : Int), .int (b : Int)]) (w := 41) (dp := 0) ?_).mono (by show 2 * 42 ≤ 100; decide) (by decide)
      intro d hd
      rcases List.mem_cons.mp hd with rfl | hd
      · exact ShowOk.int h.1
      · rcases List.mem_cons.mp hd with rfl | hd
        · exact ShowOk.int h.2
        · cases hd
  refine (ShowOk.tuple (ds := [.str t.kind, t.val, .int (i : Int)]) (w := 100) (dp := 1) ?_).mono (by show 3 * 101 ≤ 303; decide) (by decide)
  intro d hd
  rcases List.mem_cons.mp hd with rfl | hd
  · exact hk
  · rcases List.mem_cons.mp hd with rfl | hd
    · exact hv
    · rcases List.mem_cons.mp hd with rfl | hd
      · exact (ShowOk.int (i := (i : Int)) hi).mono (by decide) (by decide)
      · cases hd
end Al
namespace Al
open PySem PySem.Spec PyProof.Rows L2 NdefX PySem.W
/-! ### methods and classes by name, over the layer with exceptions -/
structure MetX (P : Program) (w : World) (K : Frag) (mg : Str → Option Value) (base : Heap) (k : Nat) (C : Addr) (m : Str) (ps : List Str) (sp : Sp) : Prop where
  ex : ∃ (f : Addr) (fd : FuncData), Cls K C ∧ Meth K C m f ∧ Binds K fd ps [] ∧ FnOk P w K mg base (L2N.CX P w) k f fd ps sp
structure MakX (P : Program) (w : World) (K : Frag) (mg : Str → Option Value) (base : Heap) (k : Nat) (x : Str) (C : Addr) (ps : List Str) (sp : Sp) : Prop where
  ex : ∃ (f : Addr) (fd : FuncData), mg x = some (.ref C) ∧ Mk K C f ∧ Binds K fd ps [] ∧ FnOk P w K mg base (L2N.CX P w) k f fd ps sp
/-- where a method's def stands -/
structure MetAt (K : Frag) (C : Addr) (m q : Str) (st : Stmt) : Prop where
  ex : ∃ f fd, Cls K C ∧ Meth K C m f ∧ FunD K m q (defArgs st) (defBody st) (defScope st) [] [] f fd
structure MakAt (K : Frag) (mg : Str → Option Value) (x q : Str) (C : Addr) (st : Stmt) : Prop where
  ex : ∃ f fd, mg x = some (.ref C) ∧ Mk K C f ∧ FunD K "__init__" q (defArgs st) (defBody st) (defScope st) [] [] f fd
section
variable {P : Program} {w : World} {K : Frag} {mg : Str → Option Value} {base : Heap} {k : Nat} {x m q : Str} {C : Addr} {st : Stmt} {N ps : List Str} {sp : Sp}
theorem met_mk (dx : MetAt K C m q st) (S : FnScope N ps (defScope st))
    (hb : ∀ (kV doc pm : Value) (an : Option Addr) (cdv ct : Value) (us : List Value), us.length = ps.length → bindArgs (fnOf m q (defArgs st) (defBody st) (defScope st) .none kV doc pm an cdv ct) ⟨us, []⟩ = pure (ps.zip us))
    (len : ∀ vs H Q E, sp vs H Q E → vs.length = ps.length)
    (hbody : ∀ (f : Addr) (cdv : Value) (A : Around) (outer : List Env) (s : Shared) (H : Hp) (vs : List V) (Q : VK) (E : XK), Room k (A.deeper (envOfC q (defScope st) s.heap.objs.size f cdv)) → sp vs H Q E →
      ∃ t, PSs (cxOf (L2N.CX P w) P w K mg base N q (defScope st) f cdv A outer s H E) (defBody st) t ∧ t { nx := fun _ H' => Q .non H', rt := Q } (start N vs) H) : MetX P w K mg base (k + 1) C m ps sp := by
  obtain ⟨f, fd, hc, hm, F⟩ := dx.ex
  exact ⟨f, fd, hc, hm, F.bindsN hb, F.ok S len (hbody f)⟩
theorem mak_mk (dx : MakAt K mg x q C st) (S : FnScope N ps (defScope st))
    (hb : ∀ (kV doc pm : Value) (an : Option Addr) (cdv ct : Value) (us : List Value), us.length = ps.length → bindArgs (fnOf "__init__" q (defArgs st) (defBody st) (defScope st) .none kV doc pm an cdv ct) ⟨us, []⟩ = pure (ps.zip us))
    (len : ∀ vs H Q E, sp vs H Q E → vs.length = ps.length)
    (hbody : ∀ (f : Addr) (cdv : Value) (A : Around) (outer : List Env) (s : Shared) (H : Hp) (vs : List V) (Q : VK) (E : XK), Room k (A.deeper (envOfC q (defScope st) s.heap.objs.size f cdv)) → sp vs H Q E →
      ∃ t, PSs (cxOf (L2N.CX P w) P w K mg base N q (defScope st) f cdv A outer s H E) (defBody st) t ∧ t { nx := fun _ H' => Q .non H', rt := Q } (start N vs) H) : MakX P w K mg base (k + 1) x C ps sp := by
  obtain ⟨f, fd, hc, hm, F⟩ := dx.ex
  exact ⟨f, fd, hc, hm, F.bindsN hb, F.ok S len (hbody f)⟩
end
def tMetS (C : Addr) (m : Str) (sp : Sp) (E : L2.St → XK) (ta : TE) (t : TA) : TE := fun σ H Q => ta σ H fun x H1 => ∃ a dx fs, x = .ref a ∧ H1 a = some (.ins C dx fs) ∧ fs.lookup m = none ∧ t σ H1 fun vs H2 => sp (x :: vs) H2 Q (E σ)
def tMakS (C : Addr) (sp : Sp) (E : L2.St → XK) (t : TA) : TE := fun σ H Q => t σ H fun vs H1 => ∀ x dx, H1 x = none → H1 dx = none → dx ≠ x → sp (.ref x :: vs) (upd (upd H1 dx (.own x)) x (.ins C dx [])) (fun v H2 => v = .non ∧ Q (.ref x) H2) (E σ)
section
variable {X : Cx} {k : Nat} {C : Addr} {x m : Str} {ps : List Str} {sp : Sp} {W : WX} {p pos apos : Pos} {e o : Expr} {es : List Expr} {ta : TE} {t : TA}
theorem pe_metX {pl : Sem Bool} (G : MetX X.prog X.w X.K X.mg X.base k C m ps sp) (hr : Room k X.A) (tk : L2N.Takes X W) (he : PE X o ta) (ha : PA X (e :: es) t)
    (hst : starEach (e :: es) X.env = (false, eval e X.env) :: starEach es X.env := by rfl) (hpl : (backTo pos (starEach es X.env)).any (·.1) = false := by rfl)
    (ht : eval (.Call (.Attribute o m apos) (e :: es) [] pos) X.env = (do
      let ov ← eval o X.env
      standAt apos.atName
      let (f, first) ← holding [ov] (getMethod ov m pl)
      callWith pos f first (backTo pos (starEach (e :: es) X.env)) (backToKw pos (keywordEach [] X.env))) := by rfl) :
    PE X (.Call (.Attribute o m apos) (e :: es) [] pos) (tMetS C m sp (WE W) ta t) := by
  obtain ⟨f, fd, c, hm, hb, F⟩ := G.ex
  refine ⟨fun pins s σ H Q I h => ?_⟩
  refine PySem.W.methodCall_KW (pl := pl) (thn (he.run pins s σ H _ I h) fun u s1 ⟨x, H1, I1, rx, a, dx, fs, ex, ea, l, q⟩ => ?_) ht
  subst ex
  obtain rfl : u = Value.ref a := rx
  refine getmeth_ok I1 ea c hm l ?_
  refine PySem.W.callWith_K (first := [.ref a]) (h₀ := X.base) I.ok.mod.kin hm.kp (thn (ha.run pos pins s1 σ H1 _ I1 q) fun us s2 ⟨vs, H2, I2, r, q2⟩ => ⟨I2.kIn, ?_⟩) hst hpl
  exact run_fnS (us := .ref a :: us) (vs := .ref a :: vs) F hr hb (L2N.passAt tk σ) I2 (.cons rfl r) q2
theorem pe_metX0 {pl : Sem Bool} (G : MetX X.prog X.w X.K X.mg X.base k C m ps sp) (hr : Room k X.A) (tk : L2N.Takes X W) (he : PE X o ta)
    (ht : eval (.Call (.Attribute o m apos) [] [] pos) X.env = (do
      let ov ← eval o X.env
      standAt apos.atName
      let (f, first) ← holding [ov] (getMethod ov m pl)
      callWith pos f first (backTo pos (starEach [] X.env)) (backToKw pos (keywordEach [] X.env))) := by rfl) :
    PE X (.Call (.Attribute o m apos) [] [] pos) (tMetS C m sp (WE W) ta tNil) := by
  obtain ⟨f, fd, c, hm, hb, F⟩ := G.ex
  refine ⟨fun pins s σ H Q I h => ?_⟩
  refine PySem.W.methodCall_KW (pl := pl) (thn (he.run pins s σ H _ I h) fun u s1 ⟨x, H1, I1, rx, a, dx, fs, ex, ea, l, q⟩ => ?_) ht
  subst ex
  obtain rfl : u = Value.ref a := rx
  refine getmeth_ok I1 ea c hm l ?_
  exact PySem.W.callWith_K0 I1.kIn hm.kp (run_fnS (us := [.ref a]) (vs := [.ref a]) F hr hb (L2N.passAt tk σ) I1 (.cons rfl .nil) q)
theorem pe_makX (G : MakX X.prog X.w X.K X.mg X.base k x C ps sp) (hr : Room (k + 1) X.A) (tk : L2N.Takes X W) (ha : PA X (e :: es) t) (hg : Gl X x := by rfl)
    (hdb : (x == ("__debug__" : Str)) = false := by decide) (he : starEach (e :: es) X.env = (false, eval e X.env) :: starEach es X.env := by rfl) (hpl : (backTo pos (starEach es X.env)).any (·.1) = false := by rfl) :
    PE X (.Call (.Name x p) (e :: es) [] pos) (tMakS C sp (WE W) t) := by
  obtain ⟨f, fd, hm, M, hb, F⟩ := G.ex
  refine ⟨fun pins s σ H Q I h => ?_⟩
  refine wpAny_Call_Name_kw (ld_glob I hg hm ?_ hdb)
  refine PySem.W.callWith_K (h₀ := X.base) I.ok.mod.kin M.kp (thn (ha.run pos pins s σ H _ I h) fun us s1 ⟨vs, H1, I1, r, q⟩ => ⟨I1.kIn, ?_⟩) he hpl
  have hq := q (s1.heap.objs.size + 1) s1.heap.objs.size (I1.hok.fresh (Nat.le_succ _)) (I1.hok.fresh (Nat.le_refl _)) (Nat.ne_of_lt (Nat.lt_succ_self _))
  have I2 := Inv.made (C := C) I1
  have r2 : Vals (V.ref (s1.heap.objs.size + 1) :: vs) (Value.ref (s1.heap.objs.size + 1) :: us) := .cons rfl r
  have hl : (Value.ref (s1.heap.objs.size + 1) :: us).length = ps.length := by
    have e := r2.length
    rw [F.len _ _ _ _ hq] at e
    exact e.symm
  have b := hb _ (Value.ref (s1.heap.objs.size + 1) :: us) I2.kIn (by rw [List.append_nil]; exact hl)
  rw [List.append_nil] at b
  refine wpAny_call (make_map (f := f) I1.kIn M.makes M.init (beq_iff_eq.mp M.fn) (codeAny_mono (F.run _ X.stack _ _ ⟨Value.ref (s1.heap.objs.size + 1) :: us, []⟩ (Value.ref (s1.heap.objs.size + 1) :: us) _ _ (WE W σ) (hr.make C us [])
    (I2.env0.make C us []) b r2 hq) fun r s' hq' => ?_))
  cases r with
  | error e => exact L2N.passAt tk σ pins _ _ e s' I2 hq'
  | ok fl =>
    cases fl with
    | ret u =>
      obtain ⟨v, H', I3, rv, ev, q3⟩ := I2.after hq'
      subst ev
      exact ⟨rv, ⟨V.ref (s1.heap.objs.size + 1), H', I3, rfl, q3⟩⟩
    | next => exact False.elim hq'
    | brk => exact False.elim hq'
    | cont => exact False.elim hq'
end
/-! ### for over a dict of the module (texts as keys) -/
def KKeys (K : Frag) (d : Addr) (ks : List Str) : Prop := (d == sysModules) = false ∧ ∃ es n, K.lookup d = some ⟨.type "dict", none, .dict es n, #[]⟩ ∧ es.size = ks.length ∧ ∀ (i : Nat) (z : Str), ks[i]? = some z → ∃ (en : DictEntry) (t : Tok), es[i]? = some en ∧ en.key = Value.str z t
def Ikk (ks : List Str) : It := ⟨fun i _ => i < ks.length, fun i H x H' => H' = H ∧ ∃ z, ks[i]? = some z ∧ x = .str z, fun i _ => ks.length ≤ i⟩
theorem walk_kk {ks : List Str} : Walk (Ikk ks) ks.length (fun _ => True) (fun i H x H' => H' = H ∧ ∃ z, ks[i]? = some z ∧ x = .str z) :=
  ⟨fun _ _ hi _ => hi, fun _ _ => Nat.le_refl _, fun _ _ _ _ _ _ y => y⟩
section
variable {P : Program} {w : World} {K : Frag} {tg : Expr} {d : Addr} {ks : List Str}
theorem turn_kk (it : Addr) {es : Array DictEntry} {ep : Nat} (hk : K.lookup d = some ⟨.type "dict", none, .dict es ep, #[]⟩) (hsz : es.size = ks.length) (hen : ∀ (i : Nat) (z : Str), ks[i]? = some z → ∃ (en : DictEntry) (t : Tok), es[i]? = some en ∧ en.key = Value.str z t) :
    Turn P w K tg (Ikk ks) [it] it (fun i h => h.IsKeyIter it d i ks.length ep) where
  mem := by simp
  obj := fun i h st b hb => by
    have e : b = it := by simpa using hb
    subst e
    obtain ⟨oi, e, c, dd⟩ := st
    exact ⟨oi, e, fun v z => by rw [dd] at z; cases z⟩
  keep := fun i h h' st k => st.at fun oi e => k it (by simp) oi e
  item := by
    intro X hP hw hK hc i pins s σ H E I hf st hg
    subst hP hw hK
    have hi : i < ks.length := hg
    obtain ⟨f0, f1, f2, f3, f4, f5⟩ := hf it (by simp)
    have hgd := I.kIn _ _ hk
    obtain ⟨en, t, he, hkey⟩ := hen i ks[i] (List.getElem?_eq_getElem hi)
    refine next_key_item st hgd rfl hsz he fun h' st' sb => ?_
    have I1 : Inv X pins σ H { s with heap := h' } := I.turned (t' := s.toks) (fun b ob hb e => (sb.2 b hb).trans e) f0 f1 f3 f4 f5
    obtain ⟨oi, e, c, dd⟩ := id st'
    refine ⟨en.key, rfl, go_of (s := { s with heap := h' }) e c dd (by decide) ⟨.str ks[i], H, I1, by rw [hkey]; exact ⟨t, rfl⟩, ⟨rfl, ks[i], List.getElem?_eq_getElem hi, rfl⟩, st', fun b hb => (hf b hb).1⟩⟩
  done := by
    intro X hP hw hK hc i pins s σ H E I hf st hg
    subst hP hw hK
    obtain ⟨f0, f1, f2, f3, f4, f5⟩ := hf it (by simp)
    exact next_key_end (I.ok.hd hc) st (I.kIn _ _ hk) rfl hsz hg fun h' eb => ⟨rfl, I.turned (t' := s.toks) (fun b ob hb e => eb b ob hb e) f0 f1 f3 f4 f5⟩
  self := fun A i s Q E st h => wpAny_pyIter_keyiter st h
end
def iKK (K : Frag) (td : TE) : TI := fun σ H R => td σ H fun x H1 => ∃ d ks, x = .ref d ∧ KKeys K d ks ∧ R (Ikk ks) H1
theorem pi_kk {X : Cx} {tg e : Expr} {td : TE} (he : PE X e td) : PI X tg e (iKK X.K td) := by
  refine ⟨fun pins s σ H R I h => ?_⟩
  refine thn (he.run pins s σ H _ I h) fun u s1 ⟨x, H1, I1, rx, d, ks, ex, ⟨hs, es, n, hk, hsz, hen⟩, q⟩ => ?_
  subst ex
  obtain rfl : u = Value.ref d := rx
  refine iter_keys hs (I1.kIn _ _ hk) ⟨rfl, rfl, rfl⟩ rfl (pi_one (tk := s1.toks) I1 _ (turn_kk _ hk hsz hen) ⟨_, Heap.get?_push_size _ rfl, rfl, ?_⟩ q)
  rw [hsz]; rfl
end Al
namespace Al
open PySem PySem.Spec PyProof.Rows L2 NdefX PySem.W
/-! ### the parser in plain Lean: the state is what is left of the tokens; n levels are left -/
abbrev TS1 : Type := List (Tk × Nat)
inductive PErr where
  | mal (i : Nat)
  | over
abbrev Pr (α : Type) : Type := StateT TS1 (ExceptT PErr Option) α
theorem bind_run {α β : Type} (x : Pr α) (k : α → Pr β) (ts : TS1) : (x >>= k) ts = (match x ts with
  | some (.ok (a, ts')) => k a ts'
  | some (.error e) => some (.error e)
  | none => none) := by
  show (x ts >>= fun (p : α × TS1) => k p.1 p.2 : ExceptT PErr Option (β × TS1)) = _
  cases h : x ts with
  | none => rfl
  | some o => cases o with
    | ok a => rfl
    | error e => rfl
def Tk.txt : Tk → Str
  | .word s => s
  | .name s => s
  | .num _ _ => ""
  | .sign s => s
def seesB (ts : TS1) (k v : Str) : Bool := match ts with
  | t :: _ => decide (t.1.kind = k) && decide (t.1.txt = v)
  | [] => false
def kindB (ts : TS1) (k : Str) : Bool := match ts with
  | t :: _ => decide (t.1.kind = k)
  | [] => false
def atP (L : Nat) (ts : TS1) : Nat := match ts with
  | t :: _ => t.2
  | [] => L
def headV (ts : TS1) : PyData := match ts with
  | t :: _ => t.1.val
  | [] => .none
def pSees (k v : Str) : Pr Bool := fun ts => some (.ok (seesB ts k v, ts))
def pAcc (k v : Str) : Pr Bool := fun ts => if seesB ts k v = true then some (.ok (true, ts.tail)) else some (.ok (false, ts))
def pKind (k : Str) : Pr Bool := fun ts => some (.ok (kindB ts k, ts))
def pAt (L : Nat) : Pr Nat := fun ts => some (.ok (atP L ts, ts))
def pExp (L : Nat) (k v : Str) : Pr Unit := fun ts => if seesB ts k v = true then some (.ok ((), ts.tail)) else some (.error (.mal (atP L ts)))
def pRead (L : Nat) (k : Str) : Pr PyData := fun ts => if kindB ts k = true then some (.ok (headV ts, ts.tail)) else some (.error (.mal (atP L ts)))
def pWhole (L lim : Nat) : Pr Int := fun ts => match ts with
  | (.num a b, i) :: r => if b ≠ 1 ∨ lim < a then some (.error (.mal i)) else some (.ok ((a : Int), r))
  | _ => some (.error (.mal (atP L ts)))
def pDeep (n : Nat) : Pr Nat := match n with
  | 0 => throw .over
  | n + 1 => pure n
def pPower (L : Nat) : Pr Int := do
  if ← pAcc "sign" "-" then
    let a ← pWhole L 9
    return -a
  else pWhole L 9
def pProdL (L : Nat) (acc : List PyData) : Pr PyData := do
  if ← pAcc "sign" "]" then return .tuple acc
  else
    let at_ ← pAt L
    let name ← pRead L "name"
    if ← pAcc "sign" "^" then
      let p ← pPower L
      pProdL L (acc ++ [.tuple [name, .int p, .int (at_ : Int)]])
    else pProdL L (acc ++ [.tuple [name, .int 1, .int (at_ : Int)]])
partial_fixpoint
def pProd (L : Nat) : Pr PyData := do
  pExp L "sign" "["
  pProdL L []
def heads : List (Str × Str) := [("+", "add"), ("-", "sub"), ("*", "mul"), ("/", "div"), ("<", "lt"), ("<=", "le"), ("==", "eq")]
def cmps : List (Str × Str) := [("<", "lt"), ("<=", "le"), ("==", "eq")]
def headOf (s : PyData) : Str := match s with
  | .str z => (heads.lookup z).getD ""
  | _ => ""
mutual
def pArgs (L n : Nat) (acc : List PyData) : Pr PyData := do
  if ← pAcc "sign" "," then
    let m ← pDeep n
    let a ← pExpr L m
    pArgs L n (acc ++ [a])
  else
    pExp L "sign" ")"
    return .tuple acc
partial_fixpoint
def pCall (L n : Nat) : Pr PyData := do
  pExp L "sign" "("
  if ← pAcc "sign" ")" then return .tuple []
  else
    let m ← pDeep n
    let a ← pExpr L m
    pArgs L n [a]
partial_fixpoint
def pPrim (L n : Nat) : Pr PyData := do
  let at_ ← pAt L
  if ← pAcc "word" "true" then return .tuple [.str "bool", .bool true]
  else if ← pAcc "word" "false" then return .tuple [.str "bool", .bool false]
  else if ← pAcc "sign" "(" then
    let m ← pDeep n
    let a ← pExpr L m
    pExp L "sign" ")"
    return a
  else if ← pAcc "word" "iterate" then
    let name ← pRead L "name"
    let c ← pWhole L 20
    pExp L "word" "from"
    let m ← pDeep n
    let a ← pPrim L m
    return .tuple [.str "iterate", name, .int c, a, .int (at_ : Int)]
  else if ← pKind "number" then
    let v ← pRead L "number"
    if ← pSees "sign" "[" then
      let u ← pProd L
      return .tuple [.str "number", v, u, .int (at_ : Int)]
    else return .tuple [.str "number", v, .tuple [], .int (at_ : Int)]
  else
    let name ← pRead L "name"
    if ← pSees "sign" "(" then
      let u ← pCall L n
      return .tuple [.str "call", name, u, .int (at_ : Int)]
    else return .tuple [.str "var", name, .int (at_ : Int)]
partial_fixpoint
def pPowL (L n : Nat) (a : PyData) : Pr PyData := do
  if ← pSees "sign" "^" then
    let at_ ← pAt L
    pExp L "sign" "^"
    let m ← pDeep n
    let p ← pPower L
    pPowL L m (.tuple [.str "power", a, .int p, .int (at_ : Int)])
  else return a
partial_fixpoint
def pPowers (L n : Nat) : Pr PyData := do
  let a ← pPrim L n
  pPowL L n a
partial_fixpoint
def pFacL (L n : Nat) (a : PyData) : Pr PyData := do
  if ← pSees "sign" "*" then
    let at_ ← pAt L
    let s ← pRead L "sign"
    let m ← pDeep n
    let b ← pPowers L m
    pFacL L m (.tuple [.str (headOf s), a, b, .int (at_ : Int)])
  else if ← pSees "sign" "/" then
    let at_ ← pAt L
    let s ← pRead L "sign"
    let m ← pDeep n
    let b ← pPowers L m
    pFacL L m (.tuple [.str (headOf s), a, b, .int (at_ : Int)])
  else return a
partial_fixpoint
def pFactors (L n : Nat) : Pr PyData := do
  let a ← pPowers L n
  pFacL L n a
partial_fixpoint
def pTermL (L n : Nat) (a : PyData) : Pr PyData := do
  if ← pSees "sign" "+" then
    let at_ ← pAt L
    let s ← pRead L "sign"
    let m ← pDeep n
    let b ← pFactors L m
    pTermL L m (.tuple [.str (headOf s), a, b, .int (at_ : Int)])
  else if ← pSees "sign" "-" then
    let at_ ← pAt L
    let s ← pRead L "sign"
    let m ← pDeep n
    let b ← pFactors L m
    pTermL L m (.tuple [.str (headOf s), a, b, .int (at_ : Int)])
  else return a
partial_fixpoint
def pTerms (L n : Nat) : Pr PyData := do
  let a ← pFactors L n
  pTermL L n a
partial_fixpoint
def pPlain (L n : Nat) : Pr PyData := do
  let at_ ← pAt L
  if ← pAcc "word" "not" then
    let m ← pDeep n
    let a ← pPlain L m
    return .tuple [.str "not", a, .int (at_ : Int)]
  else
    let a ← pTerms L n
    pCmp L n a cmps
partial_fixpoint
def pCmp (L n : Nat) (a : PyData) (ops : List (Str × Str)) : Pr PyData := do
  match ops with
  | [] => return a
  | (z, hd) :: r =>
    let at2 ← pAt L
    if ← pAcc "sign" z then
      let m ← pDeep n
      let b ← pTerms L m
      return .tuple [.str hd, a, b, .int (at2 : Int)]
    else pCmp L n a r
partial_fixpoint
def pBothL (L n : Nat) (a : PyData) : Pr PyData := do
  if ← pSees "word" "and" then
    let at_ ← pAt L
    pExp L "word" "and"
    let m ← pDeep n
    let b ← pPlain L m
    pBothL L m (.tuple [.str "and", a, b, .int (at_ : Int)])
  else return a
partial_fixpoint
def pBoth (L n : Nat) : Pr PyData := do
  let a ← pPlain L n
  pBothL L n a
partial_fixpoint
def pOrL (L n : Nat) (at_ : Nat) (a : PyData) : Pr PyData := do
  if ← pSees "word" "or" then
    let at2 ← pAt L
    pExp L "word" "or"
    let m ← pDeep n
    let b ← pBoth L m
    pOrL L m at_ (.tuple [.str "or", a, b, .int (at2 : Int)])
  else return a
partial_fixpoint
def pExpr (L n : Nat) : Pr PyData := do
  let at_ ← pAt L
  if ← pAcc "word" "if" then
    let m ← pDeep n
    let c ← pExpr L m
    pExp L "word" "then"
    let m2 ← pDeep n
    let a ← pExpr L m2
    pExp L "word" "else"
    let m3 ← pDeep n
    let b ← pExpr L m3
    return .tuple [.str "if", c, a, b, .int (at_ : Int)]
  else if ← pAcc "word" "let" then
    let name ← pRead L "name"
    pExp L "sign" "="
    let m ← pDeep n
    let a ← pExpr L m
    pExp L "word" "in"
    let m2 ← pDeep n
    let b ← pExpr L m2
    return .tuple [.str "let", name, a, b, .int (at_ : Int)]
  else
    let a ← pBoth L n
    pOrL L n at_ a
partial_fixpoint
end
def pParL (L : Nat) (acc : List PyData) : Pr PyData := do
  let name ← pRead L "name"
  let u ← (do if ← pAcc "sign" ":" then pProd L else return .none : Pr PyData)
  if ← pAcc "sign" "," then pParL L (acc ++ [.tuple [name, u]])
  else
    pExp L "sign" ")"
    return .tuple (acc ++ [.tuple [name, u]])
partial_fixpoint
def pPars (L : Nat) : Pr PyData := do
  pExp L "sign" "("
  if ← pAcc "sign" ")" then return .tuple []
  else pParL L []
def pSemi (L : Nat) (l : PyData) : Pr PyData := do
  pExp L "sign" ";"
  return l
def pLine (L : Nat) : Pr PyData := do
  let at_ ← pAt L
  if ← pAcc "word" "base" then
    let name ← pRead L "name"
    pSemi L (.tuple [.str "base", name, .int (at_ : Int)])
  else if ← pAcc "word" "unit" then
    let name ← pRead L "name"
    pExp L "sign" "="
    let v ← pRead L "number"
    let u ← pProd L
    pSemi L (.tuple [.str "unit", name, v, u, .int (at_ : Int)])
  else if ← pAcc "word" "fun" then
    let name ← pRead L "name"
    let ps ← pPars L
    let u ← (do if ← pAcc "sign" ":" then pProd L else return .none : Pr PyData)
    pExp L "sign" "="
    let e ← pExpr L 23
    pSemi L (.tuple [.str "fun", name, ps, u, e, .int (at_ : Int)])
  else
    pExp L "word" "show"
    let e ← pExpr L 23
    let u ← (do if ← pAcc "word" "in" then pProd L else return .none : Pr PyData)
    pSemi L (.tuple [.str "show", e, u, .int (at_ : Int)])
def pEnd : Pr Bool := fun ts => some (.ok (ts.isEmpty, ts))
def pLines (L : Nat) (acc : List PyData) : Pr (List PyData) := do
  if ← pEnd then return acc
  else
    let l ← pLine L
    pLines L (acc ++ [l])
partial_fixpoint
/-! ### one step of it -/
section
variable {α β : Type} {ts : TS1} {L : Nat} {k v : Str} {out : Except PErr (β × TS1)}
theorem b_accT {A B : Pr β} (e : seesB ts k v = true) (h : (pAcc k v >>= fun b => if b = true then A else B) ts = some out) : A ts.tail = some out := by
  rw [bind_run] at h
  unfold pAcc at h
  rw [if_pos e] at h
  exact h
theorem b_accF {A B : Pr β} (e : seesB ts k v = false) (h : (pAcc k v >>= fun b => if b = true then A else B) ts = some out) : B ts = some out := by
  rw [bind_run] at h
  unfold pAcc at h
  rw [if_neg (by rw [e]; decide)] at h
  exact h
theorem b_seesT {A B : Pr β} (e : seesB ts k v = true) (h : (pSees k v >>= fun b => if b = true then A else B) ts = some out) : A ts = some out := by
  rw [bind_run] at h
  unfold pSees at h
  rw [e] at h
  exact h
theorem b_seesF {A B : Pr β} (e : seesB ts k v = false) (h : (pSees k v >>= fun b => if b = true then A else B) ts = some out) : B ts = some out := by
  rw [bind_run] at h
  unfold pSees at h
  rw [e] at h
  exact h
theorem b_kindT {A B : Pr β} (e : kindB ts k = true) (h : (pKind k >>= fun b => if b = true then A else B) ts = some out) : A ts = some out := by
  rw [bind_run] at h
  unfold pKind at h
  rw [e] at h
  exact h
theorem b_kindF {A B : Pr β} (e : kindB ts k = false) (h : (pKind k >>= fun b => if b = true then A else B) ts = some out) : B ts = some out := by
  rw [bind_run] at h
  unfold pKind at h
  rw [e] at h
  exact h
theorem b_at {f : Nat → Pr β} (h : (pAt L >>= f) ts = some out) : f (atP L ts) ts = some out := by
  rw [bind_run] at h
  exact h
theorem b_expT {f : Unit → Pr β} (e : seesB ts k v = true) (h : (pExp L k v >>= f) ts = some out) : f () ts.tail = some out := by
  rw [bind_run] at h
  unfold pExp at h
  rw [if_pos e] at h
  exact h
theorem b_expF {f : Unit → Pr β} (e : seesB ts k v = false) (h : (pExp L k v >>= f) ts = some out) : out = .error (.mal (atP L ts)) := by
  rw [bind_run] at h
  unfold pExp at h
  rw [if_neg (by rw [e]; decide)] at h
  exact (Option.some.inj h).symm
theorem b_readT {f : PyData → Pr β} (e : kindB ts k = true) (h : (pRead L k >>= f) ts = some out) : f (headV ts) ts.tail = some out := by
  rw [bind_run] at h
  unfold pRead at h
  rw [if_pos e] at h
  exact h
theorem b_readF {f : PyData → Pr β} (e : kindB ts k = false) (h : (pRead L k >>= f) ts = some out) : out = .error (.mal (atP L ts)) := by
  rw [bind_run] at h
  unfold pRead at h
  rw [if_neg (by rw [e]; decide)] at h
  exact (Option.some.inj h).symm
theorem b_deep {f : Nat → Pr β} {n : Nat} (h : (pDeep n >>= f) ts = some out) : (n = 0 ∧ out = .error .over) ∨ ∃ m, n = m + 1 ∧ f m ts = some out := by
  rw [bind_run] at h
  cases n with
  | zero => exact .inl ⟨rfl, (Option.some.inj h).symm⟩
  | succ m => exact .inr ⟨m, rfl, h⟩
theorem b_ret {a : β} (h : (pure a : Pr β) ts = some out) : out = .ok (a, ts) := (Option.some.inj h).symm
theorem b_bind {g : Pr α} {f : α → Pr β} (h : (g >>= f) ts = some out) : ∃ o, g ts = some o ∧ (∀ e, o = .error e → out = .error e) ∧ ∀ a ts', o = .ok (a, ts') → f a ts' = some out := by
  rw [bind_run] at h
  cases q : g ts with
  | none =>
    rw [q] at h
    cases h
  | some o =>
    rw [q] at h
    cases o with
    | ok a => exact ⟨_, rfl, (by intro _ e; cases e), fun a ts' e => by cases e; exact h⟩
    | error e => exact ⟨_, rfl, fun e' z => by cases z; exact (Option.some.inj h).symm, (by intro _ _ z; cases z)⟩
end
end Al
namespace Al
open PySem PySem.Spec PyProof.Rows L2 NdefX PySem.W
def top (i : Nat) : Stmt := PySem.Challenge.pw_alnage_k01_programs_read_back.main.body.getD i (.Pass ⟨0, 0, 0, 0⟩)
local macro_rules | `(tactic| walk_at "rd1") => `(tactic| with_reducible first
  | (show tVar _ _ _ _; refine r_var (by with_unfolding_all rfl) ?_) | refine r_c ?_ | refine r_op ?_ | refine r_I0 ?_ | refine r_un ?_ | refine r_U ?_
  | (show rI _ _ _ _ _ _; refine r_I (by with_unfolding_all first | exact ⟨by decide, by decide⟩ | (show (0 : Int) < _; decide)) ?_)
  | refine r_eqI ?_ | refine r_neI ?_ | refine r_eqS ?_ | refine r_neS ?_ | refine r_eqB ?_ | refine r_neB ?_ | refine r_chain ?_
  | refine r_test ?_ | refine r_B ?_ | refine r_bl ?_ | refine r_int ?_ | refine r_and ?_ | refine r_or ?_ | refine r_not ?_ | refine r_andV ?_ | refine r_orV ?_ | refine r_notV ?_
  | refine r_if ?_ | refine r_nil ?_ | refine r_cons ?_ | refine r_cb ?_ | refine r_call ?_ | refine r_callS ?_ | refine r_tup ?_ | refine r_lst ?_ | refine r_seq ?_ | refine r_next ?_ | refine r_asg ?_
  | refine r_name ?_ | refine r_ifS ?_ | refine r_ret ?_ | refine r_retN ?_ | refine r_drop ?_ | refine r_brk ?_ | refine r_ct ?_ | refine r_sl ?_ | refine r_part ?_ | refine r_nopart ?_
  | refine r_bm ?_ | refine r_bm0 ?_ | refine r_raiseX ?_ | refine r_mkO ?_ | refine iteF ?_ | refine iteT ?_ | refine r_int1 ?_ | refine r_int1b ?_ | (show _ ≤ sizeLine ∧ _; refine r_sz (by with_unfolding_all first | omega | (simp only [List.length_cons, List.length_nil]; omega)) ?_)
  | (show ∃ _, _; refine ⟨_, rfl, ?_⟩) | (show ∃ _, _; refine ⟨_, _, rfl, rfl, ?_⟩) | (show ∃ _, _; refine ⟨_, _, rfl, ?_⟩))
local macro_rules | `(tactic| walk_at "rd") => `(tactic| repeat (walk_at "rd1"))

section
variable {P : Program} {w : World} {K : Frag} {mg : Str → Option Value} {base : Heap}
abbrev s_is_letter : Stmt := top 9
theorem sc_is_letter : FnScope ["char"] ["char"] (defScope s_is_letter) := ⟨rfl, rfl, rfl, by decide +kernel, rfl, by decide +kernel, by decide +kernel⟩
theorem cal_is_letter (dx : DefAt K mg "is_letter" s_is_letter) : Cal P w K mg base 1 "is_letter" ["char"] (spCh isLetter) := by
  refine cal_mk dx sc_is_letter (fun _ _ _ _ _ _ us hl => match us, hl with | [_], _ => rfl) (fun vs H Q E h => ?_) (fun f cdv A outer s H vs Q E hr h => ?_)
  · obtain ⟨c, rfl, _⟩ := h
    rfl
  · obtain ⟨c, rfl, k⟩ := h
    refine ⟨_, (pss_one (ps_ret (pe_or (pe_chain op_le_str op_le_str pe_str (pv 0) pe_str) (pe_one (pe_chain op_le_str op_le_str pe_str (pv 0) pe_str))))), ?_⟩
    walk_at "rd"
    rw [leA c "a" 97 (by decide +kernel)]
    refine r_ite (fun h1 => ?_) (fun h1 => ?_) <;> walk_at "rd"
    · rw [leB c "z" 122 (by decide +kernel)]
      refine r_ite (fun h2 => ?_) (fun h2 => ?_) <;> walk_at "rd"
      · have e : isLetter c = true := by simp [isLetter, h1, h2]
        rw [e] at k; exact k
      · rw [leA c "A" 65 (by decide +kernel), decide_eq_true (by have := of_decide_eq_true h1; omega : 65 ≤ c)]
        walk_at "rd"
        rw [leB c "Z" 90 (by decide +kernel)]
        have e : isLetter c = decide (c ≤ 90) := by have := of_decide_eq_true h1; simp [isLetter, h1, h2]; omega
        rw [e] at k; exact k
    · rw [leA c "A" 65 (by decide +kernel)]
      refine r_ite (fun h2 => ?_) (fun h2 => ?_) <;> walk_at "rd"
      · rw [leB c "Z" 90 (by decide +kernel)]
        have e : isLetter c = decide (c ≤ 90) := by simp [isLetter, h1, h2]
        rw [e] at k; exact k
      · have e : isLetter c = false := by simp [isLetter, h1, h2]
        rw [e] at k; exact k
abbrev s_is_digit : Stmt := top 10
theorem sc_is_digit : FnScope ["char"] ["char"] (defScope s_is_digit) := ⟨rfl, rfl, rfl, by decide +kernel, rfl, by decide +kernel, by decide +kernel⟩
theorem cal_is_digit (dx : DefAt K mg "is_digit" s_is_digit) : Cal P w K mg base 1 "is_digit" ["char"] (spCh isDigit) := by
  refine cal_mk dx sc_is_digit (fun _ _ _ _ _ _ us hl => match us, hl with | [_], _ => rfl) (fun vs H Q E h => ?_) (fun f cdv A outer s H vs Q E hr h => ?_)
  · obtain ⟨c, rfl, _⟩ := h
    rfl
  · obtain ⟨c, rfl, k⟩ := h
    refine ⟨_, (pss_one (ps_ret (pe_chain op_le_str op_le_str pe_str (pv 0) pe_str))), ?_⟩
    walk_at "rd"
    rw [leA c "0" 48 (by decide +kernel)]
    refine r_ite (fun h1 => ?_) (fun h1 => ?_) <;> walk_at "rd"
    · rw [leB c "9" 57 (by decide +kernel)]
      have e : isDigit c = decide (c ≤ 57) := by simp [isDigit, h1]
      rw [e] at k; exact k
    · have e : isDigit c = false := by simp [isDigit, h1]
      rw [e] at k; exact k
abbrev s_in_name : Stmt := top 11
theorem sc_in_name : FnScope ["char"] ["char"] (defScope s_in_name) := ⟨rfl, rfl, rfl, by decide +kernel, rfl, by decide +kernel, by decide +kernel⟩
theorem cal_in_name (dx : DefAt K mg "in_name" s_in_name) (G_is_letter : Cal P w K mg base 1 "is_letter" ["char"] (spCh isLetter)) (G_is_digit : Cal P w K mg base 1 "is_digit" ["char"] (spCh isDigit)) :
    Cal P w K mg base 2 "in_name" ["char"] (spCh inName) := by
  refine cal_mk dx sc_in_name (fun _ _ _ _ _ _ us hl => match us, hl with | [_], _ => rfl) (fun vs H Q E h => ?_) (fun f cdv A outer s H vs Q E hr h => ?_)
  · obtain ⟨c, rfl, _⟩ := h
    rfl
  · obtain ⟨c, rfl, k⟩ := h
    have tk : L2N.Takes (cxOf (L2N.CX P w) P w K mg base ["char"] "in_name" (defScope s_in_name) f cdv A outer s H E) (fun cls d _ H => E cls d H) := L2N.takes_of rfl rfl rfl rfl
    refine ⟨_, (pss_one (ps_ret (pe_or (pe_cal G_is_letter (hr.mono (by first | decide | omega)) tk (pa_cons (pv 0) pa_nil)) (pe_or (pe_cal G_is_digit (hr.mono (by first | decide | omega)) tk (pa_cons (pv 0) pa_nil)) (pe_one (pe_cmpR op_eq (pv 0) pe_str (nomark _))))))), ?_⟩
    walk_at "rd"
    refine ⟨c, rfl, ?_⟩
    walk_at "rd"
    refine r_ite (fun h1 => ?_) (fun h1 => ?_) <;> walk_at "rd"
    · have e : inName c = true := by simp [inName, h1]
      rw [e] at k; exact k
    · refine ⟨c, rfl, ?_⟩
      walk_at "rd"
      refine r_ite (fun h2 => ?_) (fun h2 => ?_) <;> walk_at "rd"
      · have e : inName c = true := by simp [inName, h2]
        rw [e] at k; exact k
      · rw [eqA c "_" 95 (by decide +kernel)]
        have e : inName c = decide (c = 95) := by simp [inName, h1, h2]
        rw [e] at k; exact k
abbrev s_run_end : Stmt := top 12
theorem sc_run_end : FnScope ["text", "at"] ["text", "at"] (defScope s_run_end) := ⟨rfl, rfl, rfl, by decide +kernel, rfl, by decide +kernel, by decide +kernel⟩
theorem cal_run_end (dx : DefAt K mg "run_end" s_run_end) (B : Bl mg) (G_in_name : Cal P w K mg base 2 "in_name" ["char"] (spCh inName)) : Cal P w K mg base 3 "run_end" ["text", "at"] (spSpan inName) := by
  refine cal_mk dx sc_run_end (fun _ _ _ _ _ _ us hl => match us, hl with | [_, _], _ => rfl) (fun vs H Q E h => ?_) (fun f cdv A outer s H vs Q E hr h => ?_)
  · obtain ⟨z, n, rfl, _⟩ := h
    rfl
  · obtain ⟨z, n, rfl, hz, hn, k⟩ := h
    have tk : L2N.Takes (cxOf (L2N.CX P w) P w K mg base ["text", "at"] "run_end" (defScope s_run_end) f cdv A outer s H E) (fun cls d _ H => E cls d H) := L2N.takes_of rfl rfl rfl rfl
    refine ⟨_, (pss_cons (ps_while (passes_of rfl) (PW.pt (pw_and (pt_cmpR op_lt (pv 1) (pe_callB call_len_str (by rfl) B.len PySem.boot_len (pa_cons (pv 0) pa_nil)) (nomark _)) (pw_and1 (pt_val (pe_cal G_in_name (hr.mono (by first | decide | omega)) tk (pa_cons (pe_item_str (pv 0) (pv 1) (fun _ _ => rfl)) pa_nil))))))
      (pss_one (ps_set (i := 1) sc_run_end.nd rfl (Or.inl rfl) (pe_op op_add (pv 1) pe_int))))
      (pss_one (ps_ret (pv 1)))), ?_⟩
    walk_at "rd"
    refine ⟨fun m σ' H' => ∃ i : Nat, σ' = [some (.str z), some (.int (i : Int))] ∧ H = H' ∧ i ≤ z.length ∧ spanEnd inName (lS z) i = spanEnd inName (lS z) n ∧ m = z.length - i, ⟨_, n, rfl, rfl, hn, rfl, rfl⟩, ?_⟩
    rintro m σ' H' ⟨i, rfl, rfl, h2, h3, rfl⟩
    walk_at "rd"
    refine r_ite (fun h1 => ?_) (fun h1 => ?_) <;> walk_at "rd"
    · have hi : i < (lS z).length := by have := of_decide_eq_true h1; show i < z.cps.toList.length; rw [Array.length_toList]; show i < z.length; omega
      refine r_ch (List.getElem?_eq_getElem hi) (by omega) ?_
      walk_at "rd"
      refine ⟨_, rfl, ?_⟩
      walk_at "rd"
      refine r_ite (fun h4 => ?_) (fun h4 => ?_)
      · refine ⟨fun σ' H' => ∃ m', m' < z.length - i ∧ ∃ i : Nat, σ' = [some (.str z), some (.int (i : Int))] ∧ H = H' ∧ i ≤ z.length ∧ spanEnd inName (lS z) i = spanEnd inName (lS z) n ∧ m' = z.length - i, fun _ _ h => h, ?_⟩
        walk_at "rd"
        refine ⟨z.length - (i + 1), ?_, i + 1, rfl, rfl, ?_, ?_, rfl⟩
        · have := of_decide_eq_true h1; omega
        · have := of_decide_eq_true h1; omega
        · rw [spanEnd_go (List.getElem?_eq_getElem hi) h4, h3]
      · walk_at "rd"
        rw [spanEnd_stop (List.getElem?_eq_getElem hi) h4] at h3
        rw [h3]; exact k
    · have hi : (lS z).length ≤ i := by have := of_decide_eq_false h1; show z.cps.toList.length ≤ i; rw [Array.length_toList]; show z.length ≤ i; omega
      rw [spanEnd_end hi] at h3
      rw [h3]; exact k
abbrev s_digits_end : Stmt := top 13
theorem sc_digits_end : FnScope ["text", "at"] ["text", "at"] (defScope s_digits_end) := ⟨rfl, rfl, rfl, by decide +kernel, rfl, by decide +kernel, by decide +kernel⟩
theorem cal_digits_end (dx : DefAt K mg "digits_end" s_digits_end) (B : Bl mg) (G_is_digit : Cal P w K mg base 1 "is_digit" ["char"] (spCh isDigit)) : Cal P w K mg base 2 "digits_end" ["text", "at"] (spSpan isDigit) := by
  refine cal_mk dx sc_digits_end (fun _ _ _ _ _ _ us hl => match us, hl with | [_, _], _ => rfl) (fun vs H Q E h => ?_) (fun f cdv A outer s H vs Q E hr h => ?_)
  · obtain ⟨z, n, rfl, _⟩ := h
    rfl
  · obtain ⟨z, n, rfl, hz, hn, k⟩ := h
    have tk : L2N.Takes (cxOf (L2N.CX P w) P w K mg base ["text", "at"] "digits_end" (defScope s_digits_end) f cdv A outer s H E) (fun cls d _ H => E cls d H) := L2N.takes_of rfl rfl rfl rfl
    refine ⟨_, (pss_cons (ps_while (passes_of rfl) (PW.pt (pw_and (pt_cmpR op_lt (pv 1) (pe_callB call_len_str (by rfl) B.len PySem.boot_len (pa_cons (pv 0) pa_nil)) (nomark _)) (pw_and1 (pt_val (pe_cal G_is_digit (hr.mono (by first | decide | omega)) tk (pa_cons (pe_item_str (pv 0) (pv 1) (fun _ _ => rfl)) pa_nil))))))
      (pss_one (ps_set (i := 1) sc_digits_end.nd rfl (Or.inl rfl) (pe_op op_add (pv 1) pe_int))))
      (pss_one (ps_ret (pv 1)))), ?_⟩
    walk_at "rd"
    refine ⟨fun m σ' H' => ∃ i : Nat, σ' = [some (.str z), some (.int (i : Int))] ∧ H = H' ∧ i ≤ z.length ∧ spanEnd isDigit (lS z) i = spanEnd isDigit (lS z) n ∧ m = z.length - i, ⟨_, n, rfl, rfl, hn, rfl, rfl⟩, ?_⟩
    rintro m σ' H' ⟨i, rfl, rfl, h2, h3, rfl⟩
    walk_at "rd"
    refine r_ite (fun h1 => ?_) (fun h1 => ?_) <;> walk_at "rd"
    · have hi : i < (lS z).length := by have := of_decide_eq_true h1; show i < z.cps.toList.length; rw [Array.length_toList]; show i < z.length; omega
      refine r_ch (List.getElem?_eq_getElem hi) (by omega) ?_
      walk_at "rd"
      refine ⟨_, rfl, ?_⟩
      walk_at "rd"
      refine r_ite (fun h4 => ?_) (fun h4 => ?_)
      · refine ⟨fun σ' H' => ∃ m', m' < z.length - i ∧ ∃ i : Nat, σ' = [some (.str z), some (.int (i : Int))] ∧ H = H' ∧ i ≤ z.length ∧ spanEnd isDigit (lS z) i = spanEnd isDigit (lS z) n ∧ m' = z.length - i, fun _ _ h => h, ?_⟩
        walk_at "rd"
        refine ⟨z.length - (i + 1), ?_, i + 1, rfl, rfl, ?_, ?_, rfl⟩
        · have := of_decide_eq_true h1; omega
        · have := of_decide_eq_true h1; omega
        · rw [spanEnd_go (List.getElem?_eq_getElem hi) h4, h3]
      · walk_at "rd"
        rw [spanEnd_stop (List.getElem?_eq_getElem hi) h4] at h3
        rw [h3]; exact k
    · have hi : (lS z).length ≤ i := by have := of_decide_eq_false h1; show z.cps.toList.length ≤ i; rw [Array.length_toList]; show z.length ≤ i; omega
      rw [spanEnd_end hi] at h3
      rw [h3]; exact k
abbrev s_comment_end : Stmt := top 14
theorem sc_comment_end : FnScope ["text", "at"] ["text", "at"] (defScope s_comment_end) := ⟨rfl, rfl, rfl, by decide +kernel, rfl, by decide +kernel, by decide +kernel⟩
theorem cal_comment_end (dx : DefAt K mg "comment_end" s_comment_end) (B : Bl mg)  : Cal P w K mg base 1 "comment_end" ["text", "at"] (spSpan notNl) := by
  refine cal_mk dx sc_comment_end (fun _ _ _ _ _ _ us hl => match us, hl with | [_, _], _ => rfl) (fun vs H Q E h => ?_) (fun f cdv A outer s H vs Q E hr h => ?_)
  · obtain ⟨z, n, rfl, _⟩ := h
    rfl
  · obtain ⟨z, n, rfl, hz, hn, k⟩ := h
    have tk : L2N.Takes (cxOf (L2N.CX P w) P w K mg base ["text", "at"] "comment_end" (defScope s_comment_end) f cdv A outer s H E) (fun cls d _ H => E cls d H) := L2N.takes_of rfl rfl rfl rfl
    refine ⟨_, (pss_cons (ps_while (passes_of rfl) (PW.pt (pw_and (pt_cmpR op_lt (pv 1) (pe_callB call_len_str (by rfl) B.len PySem.boot_len (pa_cons (pv 0) pa_nil)) (nomark _)) (pw_and1 (pt_cmpR op_ne (pe_item_str (pv 0) (pv 1) (fun _ _ => rfl)) pe_str (nomark _)))))
      (pss_one (ps_set (i := 1) sc_comment_end.nd rfl (Or.inl rfl) (pe_op op_add (pv 1) pe_int))))
      (pss_one (ps_ret (pv 1)))), ?_⟩
    walk_at "rd"
    refine ⟨fun m σ' H' => ∃ i : Nat, σ' = [some (.str z), some (.int (i : Int))] ∧ H = H' ∧ i ≤ z.length ∧ spanEnd notNl (lS z) i = spanEnd notNl (lS z) n ∧ m = z.length - i, ⟨_, n, rfl, rfl, hn, rfl, rfl⟩, ?_⟩
    rintro m σ' H' ⟨i, rfl, rfl, h2, h3, rfl⟩
    walk_at "rd"
    refine r_ite (fun h1 => ?_) (fun h1 => ?_) <;> walk_at "rd"
    · have hi : i < (lS z).length := by have := of_decide_eq_true h1; show i < z.cps.toList.length; rw [Array.length_toList]; show i < z.length; omega
      refine r_ch (List.getElem?_eq_getElem hi) (by omega) ?_
      walk_at "rd"
      rw [show (!decide ((⟨#[(lS z)[i]]⟩ : Str) = "\n")) = notNl (lS z)[i] from congrArg not (eqA _ "\n" 10 (by decide +kernel))]
      refine r_ite (fun h4 => ?_) (fun h4 => ?_)
      · refine ⟨fun σ' H' => ∃ m', m' < z.length - i ∧ ∃ i : Nat, σ' = [some (.str z), some (.int (i : Int))] ∧ H = H' ∧ i ≤ z.length ∧ spanEnd notNl (lS z) i = spanEnd notNl (lS z) n ∧ m' = z.length - i, fun _ _ h => h, ?_⟩
        walk_at "rd"
        refine ⟨z.length - (i + 1), ?_, i + 1, rfl, rfl, ?_, ?_, rfl⟩
        · have := of_decide_eq_true h1; omega
        · have := of_decide_eq_true h1; omega
        · rw [spanEnd_go (List.getElem?_eq_getElem hi) h4, h3]
      · walk_at "rd"
        rw [spanEnd_stop (List.getElem?_eq_getElem hi) h4] at h3
        rw [h3]; exact k
    · have hi : (lS z).length ≤ i := by have := of_decide_eq_false h1; show z.cps.toList.length ≤ i; rw [Array.length_toList]; show z.length ≤ i; omega
      rw [spanEnd_end hi] at h3
      rw [h3]; exact k
abbrev s_read_word : Stmt := top 15
theorem sc_read_word : FnScope ["text", "at", "end", "word"] ["text", "at"] (defScope s_read_word) := ⟨rfl, rfl, rfl, by decide +kernel, rfl, by decide +kernel, by decide +kernel⟩
theorem cal_read_word {DM : Addr} (dx : DefAt K mg "read_word" s_read_word) (B : Bl mg) (L : LexC K mg) (XMalformed : ExC1 P w K mg base "Malformed" DM "at" CMal) (G_run_end : Cal P w K mg base 3 "run_end" ["text", "at"] (spSpan inName)) :
    Cal P w K mg base 4 "read_word" ["text", "at"] (spTok DM (fun _ => true) wordTok) := by
  refine cal_mk dx sc_read_word (fun _ _ _ _ _ _ us hl => match us, hl with | [_, _], _ => rfl) (fun vs H Q E h => ?_) (fun f cdv A outer s H vs Q E hr h => ?_)
  · obtain ⟨z, n, rfl, _⟩ := h
    rfl
  · obtain ⟨z, n, rfl, hz, hn, hc, k⟩ := h
    obtain ⟨aR, gRES, hRES⟩ := L.res
    have tk : L2N.Takes (cxOf (L2N.CX P w) P w K mg base ["text", "at", "end", "word"] "read_word" (defScope s_read_word) f cdv A outer s H E) (fun cls d _ H => E cls d H) := L2N.takes_of rfl rfl rfl rfl
    refine ⟨_, (pss_cons (ps_set (i := 2) sc_read_word.nd rfl (Or.inl rfl) (pe_cal G_run_end (hr.mono (by first | decide | omega)) tk (pa_cons (pv 0) (pa_cons (pv 1) pa_nil))))
      (pss_cons (ps_set (i := 3) sc_read_word.nd rfl (Or.inl rfl) (pe_slice sl_str (pv 0) (po_some (pv 1)) (po_some (pv 2))))
      (pss_cons (ps_if (pt_cmpR op_in_seq (pv 3) (pe_gref gRES) (by rfl))
      (pss_one (ps_ret (pe_tup (pa_cons (pe_tup (pa_cons pe_str (pa_cons (pv 3) (pa_cons (pv 1) pa_nil)))) (pa_cons (pv 2) pa_nil)))))
      pss_nil)
      (pss_cons (ps_if (pt_cmpR op_gt (pe_callB call_len_str (by rfl) B.len PySem.boot_len (pa_cons (pv 3) pa_nil)) (pe_gint L.gMN) (nomark _))
      (pss_one (ps_raiseX rfl tk (pmk_x1 XMalformed (hr.mono (by decide)) (pa_cons (pv 1) pa_nil))))
      pss_nil)
      (pss_one (ps_ret (pe_tup (pa_cons (pe_tup (pa_cons pe_str (pa_cons (pv 3) (pa_cons (pv 1) pa_nil)))) (pa_cons (pv 2) pa_nil))))))))), ?_⟩
    walk_at "rd"
    refine ⟨z, n, rfl, hz, by omega, ?_⟩
    walk_at "rd"
    refine r_slS (by rw [sizeLine_eq]; omega) ?_
    rw [cut_span inName (by omega)]
    walk_at "rd"
    refine ⟨aR, RES.map V.str, rfl, .inr (hRES _), rfl, flat_strs _, ?_⟩
    walk_at "rd"
    rw [inV_str]
    have hse : spanEnd inName (lS z) n = n + (((lS z).drop n).takeWhile inName).length := rfl
    unfold wordTok at k
    generalize hw : ((lS z).drop n).takeWhile inName = wd at *
    have hlw : (uS wd).length = wd.length := rfl
    rw [hse]
    have hwl : wd.length ≤ 20000 := by
      rw [← hw]
      have h1 := (List.takeWhile_sublist (l := (lS z).drop n) inName).length_le
      rw [List.length_drop] at h1
      have h2 : (lS z).length = z.length := Array.length_toList
      omega
    refine r_ite (fun h1 => ?_) (fun h1 => ?_)
    · have h1' : uS wd ∈ RES := of_decide_eq_true h1
      rw [if_pos h1'] at k
      walk_at "rd"
      intro p hp
      walk_at "rd"
      intro q hq
      have pq : p ≠ q := fun e => by rw [e] at hq; rw [upd_same] at hq; cases hq
      refine k q _ _ (fun b o hb => ?_) upd_same (.tup (a := p) (xs := [V.str "word", V.str (uS wd), V.int n]) ?_ (.cons (.str _) (.cons (.str _) (.cons (.int _) .nil))))
      · exact Same.new hq _ _ (Same.new hp _ _ hb)
      · rw [upd_ne pq, upd_same]
    · have h1' : ¬ uS wd ∈ RES := of_decide_eq_false h1
      rw [if_neg h1'] at k
      walk_at "rd"
      rw [hlw]
      refine r_ite (fun h2 => ?_) (fun h2 => ?_)
      · have h2' : wd.length > 16 := by have := of_decide_eq_true h2; omega
        rw [if_pos h2'] at k
        walk_at "rd"
        refine r_mkx ⟨_, rfl, log_ok (by omega)⟩ fun d H' hd hs he => k d H' hs he
      · have h2' : ¬ wd.length > 16 := by have := of_decide_eq_false h2; omega
        rw [if_neg h2'] at k
        walk_at "rd"
        intro p hp
        walk_at "rd"
        intro q hq
        have pq : p ≠ q := fun e => by rw [e] at hq; rw [upd_same] at hq; cases hq
        refine k q _ _ (fun b o hb => ?_) upd_same (.tup (a := p) (xs := [V.str "name", V.str (uS wd), V.int n]) ?_ (.cons (.str _) (.cons (.str _) (.cons (.int _) .nil))))
        · exact Same.new hq _ _ (Same.new hp _ _ hb)
        · rw [upd_ne pq, upd_same]
abbrev s_read_sign : Stmt := top 17
theorem sc_read_sign : FnScope ["text", "at", "sign"] ["text", "at"] (defScope s_read_sign) := ⟨rfl, rfl, rfl, by decide +kernel, rfl, by decide +kernel, by decide +kernel⟩
theorem cal_read_sign {DM : Addr} (dx : DefAt K mg "read_sign" s_read_sign) (B : Bl mg) (L : LexC K mg) (XMalformed : ExC1 P w K mg base "Malformed" DM "at" CMal) :
    Cal P w K mg base 3 "read_sign" ["text", "at"] (spTok DM (fun _ => true) signTok) := by
  refine cal_mk dx sc_read_sign (fun _ _ _ _ _ _ us hl => match us, hl with | [_, _], _ => rfl) (fun vs H Q E h => ?_) (fun f cdv A outer s H vs Q E hr h => ?_)
  · obtain ⟨z, n, rfl, _⟩ := h
    rfl
  · obtain ⟨z, n, rfl, hz, hn, hc, k⟩ := h
    obtain ⟨aS, gSIG, hSIG⟩ := L.sig
    have tk : L2N.Takes (cxOf (L2N.CX P w) P w K mg base ["text", "at", "sign"] "read_sign" (defScope s_read_sign) f cdv A outer s H E) (fun cls d _ H => E cls d H) := L2N.takes_of rfl rfl rfl rfl
    refine ⟨_, (pss_cons (ps_for (passes_of rfl) rfl (pi_tup (pe_gref gSIG)) (pg_name (i := 2) sc_read_sign.nd rfl (Or.inl rfl))
      (pss_one (ps_if (pt_val (pe_bm PySem.F.plainAttrs_str PySem.F.slot_str_startswith PySem.F.type_str_startswith mt_startswith3 (pv 0) (pa_cons (pv 2) (pa_cons (pv 1) pa_nil))))
      (pss_one (ps_ret (pe_tup (pa_cons (pe_tup (pa_cons pe_str (pa_cons (pv 2) (pa_cons (pv 1) pa_nil)))) (pa_cons (pe_op op_add (pv 1) (pe_callB call_len_str (by rfl) B.len PySem.boot_len (pa_cons (pv 2) pa_nil))) pa_nil)))))
      pss_nil)))
      (pss_one (ps_raiseX rfl tk (pmk_x1 XMalformed (hr.mono (by decide)) (pa_cons (pv 1) pa_nil))))), ?_⟩
    walk_at "rd"
    refine ⟨aS, rfl, ⟨_, hSIG _⟩, for_tup (K := K) (a := aS) (xs := SIG.map V.str) (fun i σ' H' => H = H' ∧ (∃ v, σ' = [some (.str z), some (.int (n : Int)), v]) ∧ i ≤ SIG.length ∧ ∀ g ∈ SIG.take i, (lS g).isPrefixOf ((lS z).drop n) = false)
      ⟨rfl, ⟨none, rfl⟩, Nat.zero_le _, fun g hg => by simp at hg⟩ (fun i σ' H' _ _ => hSIG _) ?_ ?_⟩
    · rintro i x σ' H' hi ⟨rfl, ⟨v, rfl⟩, hle, hpre⟩
      rw [List.getElem?_map] at hi
      obtain ⟨g, hg, rfl⟩ := Option.map_eq_some_iff.mp hi
      walk_at "rd"
      refine ⟨rfl, ?_⟩
      walk_at "rd"
      refine ⟨_, _, _, rfl, rfl, ?_⟩
      rw [starts_iff (by omega)]
      walk_at "rd"
      obtain ⟨hlt, hg2⟩ := List.getElem?_eq_some_iff.mp hg
      refine r_ite (fun h1 => ?_) (fun h1 => ?_)
      · have hf : SIG.find? (fun g => (lS g).isPrefixOf ((lS z).drop n)) = some g := by
          rw [List.find?_eq_some_iff_getElem]
          refine ⟨h1, i, hlt, hg2, fun j hj => ?_⟩
          have := hpre SIG[j] (List.mem_take_iff_getElem.mpr ⟨j, by omega, rfl⟩)
          rw [this] <;> rfl
        have hs : signTok ((lS z).drop n) = some (.sign g, (lS g).length) := by unfold signTok; rw [hf]
        rw [hs] at k
        walk_at "rd"
        intro p hp
        walk_at "rd"
        have hgl : g.length ≤ 2 := by
          have : ∀ g ∈ SIG, g.length ≤ 2 := by decide +kernel
          exact this g (List.mem_of_getElem? hg)
        refine r_sz (by omega) ?_
        walk_at "rd"
        intro q hq
        have pq : p ≠ q := fun e => by rw [e] at hq; rw [upd_same] at hq; cases hq
        refine k q _ _ (fun b o hb => ?_) upd_same (.tup (a := p) (xs := [V.str "sign", V.str g, V.int n]) ?_ (.cons (.str _) (.cons (.str _) (.cons (.int _) .nil))))
        · exact Same.new hq _ _ (Same.new hp _ _ hb)
        · rw [upd_ne pq, upd_same]
      · walk_at "rd"
        refine ⟨rfl, ⟨_, rfl⟩, by omega, fun g' hg' => ?_⟩
        rw [List.take_succ, hg] at hg'
        rcases List.mem_append.mp hg' with h | h
        · exact hpre g' h
        · simp at h; subst h; exact h1
    · rintro σ' H' ⟨rfl, ⟨v, rfl⟩, hle, hpre⟩
      have hs : signTok ((lS z).drop n) = none := by
        have : SIG.find? (fun g => (lS g).isPrefixOf ((lS z).drop n)) = none := by
          rw [List.find?_eq_none]
          intro g hg
          rw [List.length_map, List.take_length] at hpre
          rw [hpre g hg]; decide
        unfold signTok; rw [this]
      rw [hs] at k
      walk_at "rd"
      exact r_mkx ⟨_, rfl, log_ok (by omega)⟩ fun d H' hd hs he => k d H' hs he
abbrev s_read_number : Stmt := top 16
theorem sc_read_number : FnScope ["text", "at", "end", "whole", "part", "last", "worth", "_"] ["text", "at"] (defScope s_read_number) := ⟨rfl, rfl, rfl, by decide +kernel, rfl, by decide +kernel, by decide +kernel⟩
theorem cal_read_number {DM : Addr} (dx : DefAt K mg "read_number" s_read_number) (B : Bl mg) (XMalformed : ExC1 P w K mg base "Malformed" DM "at" CMal)
    (G_digits_end : Cal P w K mg base 2 "digits_end" ["text", "at"] (spSpan isDigit)) (G_is_digit : Cal P w K mg base 1 "is_digit" ["char"] (spCh isDigit)) (G_in_name : Cal P w K mg base 2 "in_name" ["char"] (spCh inName)) :
    Cal P w K mg base 4 "read_number" ["text", "at"] (spTok DM isDigit numTok) := by
  refine cal_mk dx sc_read_number (fun _ _ _ _ _ _ us hl => match us, hl with | [_, _], _ => rfl) (fun vs H Q E h => ?_) (fun f cdv A outer s H vs Q E hr h => ?_)
  · obtain ⟨z, n, rfl, _⟩ := h
    rfl
  · obtain ⟨z, n, rfl, hz, hn, hc, k⟩ := h
    have tk : L2N.Takes (cxOf (L2N.CX P w) P w K mg base ["text", "at", "end", "whole", "part", "last", "worth", "_"] "read_number" (defScope s_read_number) f cdv A outer s H E) (fun cls d _ H => E cls d H) := L2N.takes_of rfl rfl rfl rfl
    refine ⟨_, (pss_cons (ps_set (i := 2) sc_read_number.nd rfl (Or.inl rfl) (pe_cal G_digits_end (hr.mono (by first | decide | omega)) tk (pa_cons (pv 0) (pa_cons (pv 1) pa_nil))))
      (pss_cons (ps_set (i := 3) sc_read_number.nd rfl (Or.inl rfl) (pe_slice sl_str (pv 0) (po_some (pv 1)) (po_some (pv 2))))
      (pss_cons (ps_set (i := 4) sc_read_number.nd rfl (Or.inl rfl) pe_str)
      (C8.pss_cut (ps_if (PW.pt (pw_and (pt_cmpR op_lt (pe_op op_add (pv 2) pe_int) (pe_callB call_len_str (by rfl) B.len PySem.boot_len (pa_cons (pv 0) pa_nil)) (nomark _)) (pw_and (pt_cmpR op_eq (pe_item_str (pv 0) (pv 2) (fun _ _ => rfl)) pe_str (nomark _)) (pw_and1 (pt_val (pe_cal G_is_digit (hr.mono (by first | decide | omega)) tk (pa_cons (pe_item_str (pv 0) (pe_op op_add (pv 2) pe_int) (fun _ _ => rfl)) pa_nil)))))))
      (pss_cons (ps_set (i := 5) sc_read_number.nd rfl (Or.inl rfl) (pe_cal G_digits_end (hr.mono (by first | decide | omega)) tk (pa_cons (pv 0) (pa_cons (pe_op op_add (pv 2) pe_int) pa_nil))))
      (pss_cons (ps_set (i := 4) sc_read_number.nd rfl (Or.inl rfl) (pe_slice sl_str (pv 0) (po_some (pe_op op_add (pv 2) pe_int)) (po_some (pv 5))))
      (pss_one (ps_set (i := 2) sc_read_number.nd rfl (Or.inl rfl) (pv 5)))))
      pss_nil)
      (C8.pss_cut (ps_if (PW.pt (pw_or (pt_cmpR op_gt (pe_callB call_len_str (by rfl) B.len PySem.boot_len (pa_cons (pv 3) pa_nil)) pe_int (nomark _)) (pw_or (pt_cmpR op_gt (pe_callB call_len_str (by rfl) B.len PySem.boot_len (pa_cons (pv 4) pa_nil)) pe_int (nomark _)) (pw_or1 (PW.pt (pw_and (pt_cmpR op_lt (pv 2) (pe_callB call_len_str (by rfl) B.len PySem.boot_len (pa_cons (pv 0) pa_nil)) (nomark _)) (pw_and1 (pt_val (pe_cal G_in_name (hr.mono (by first | decide | omega)) tk (pa_cons (pe_item_str (pv 0) (pv 2) (fun _ _ => rfl)) pa_nil))))))))))
      (pss_one (ps_raiseX rfl tk (pmk_x1 XMalformed (hr.mono (by decide)) (pa_cons (pv 1) pa_nil))))
      pss_nil)
      (pss_cons (ps_set (i := 6) sc_read_number.nd rfl (Or.inl rfl) pe_int)
      (pss_cons (ps_for (passes_of rfl) rfl (pi_range1 (by rfl) B.range (pa_cons (pe_callB call_len_str (by rfl) B.len PySem.boot_len (pa_cons (pv 4) pa_nil)) pa_nil)) (pg_name (i := 7) sc_read_number.nd rfl (Or.inl rfl))
      (pss_one (ps_set (i := 6) sc_read_number.nd rfl (Or.inl rfl) (pe_op op_mulW (pv 6) pe_int))))
      (pss_one (ps_ret (pe_tup (pa_cons (pe_tup (pa_cons pe_str (pa_cons (pe_tup (pa_cons (pe_callTy call_int_str (by rfl) B.int (by decide +kernel) (pa_cons (pe_op op_add_str (pv 3) (pv 4)) pa_nil)) (pa_cons (pv 6) pa_nil))) (pa_cons (pv 1) pa_nil)))) (pa_cons (pv 2) pa_nil)))))))))))), ?_⟩
    have hl : (lS z).length = z.length := Array.length_toList
    walk_at "rd"
    refine ⟨z, n, rfl, hz, by omega, ?_⟩
    walk_at "rd"
    refine r_slS (by rw [sizeLine_eq]; omega) ?_
    rw [cut_span isDigit (by omega)]
    walk_at "rd"
    have hse : spanEnd isDigit (lS z) n = n + (((lS z).drop n).takeWhile isDigit).length := rfl
    rw [hse]
    unfold numTok numLen at k
    rw [List.drop_drop] at k
    generalize hd : ((lS z).drop n).takeWhile isDigit = ds at *
    have hdl : n + ds.length ≤ z.length := by
      have h1 := (List.takeWhile_sublist (l := (lS z).drop n) isDigit).length_le
      rw [List.length_drop, hd] at h1
      omega
    have hdd : ∀ c ∈ ds, isDigit c = true := by rw [← hd]; exact fun c hc => List.all_eq_true.mp List.all_takeWhile c hc
    generalize hp : partOf ((lS z).drop (n + ds.length)) = pt at *
    have hpd : ∀ c ∈ pt, isDigit c = true := by rw [← hp]; exact partOf_digits _
    generalize hk : (ds.length + if pt = [] then 0 else 1 + pt.length) = kk at *
    refine ⟨fun σ' H' => H = H' ∧ n + kk ≤ z.length ∧ pt.length ≤ 20000 ∧ ∃ v, σ' = [some (.str z), some (.int (n : Int)), some (.int ((n + kk : Nat) : Int)), some (.str (uS ds)), some (.str (uS pt)), v, none, none], ?_, ?_⟩
    · -- the digits behind a point
      have no : ¬ ((lS z)[n + ds.length]? = some 46 ∧ ∃ d, (lS z)[n + ds.length + 1]? = some d ∧ isDigit d = true) → pt = [] := fun h => by rw [← hp]; exact partOf_no h
      have nofin : pt = [] → H = H ∧ n + kk ≤ z.length ∧ pt.length ≤ 20000 ∧ ∃ v, [some (V.str z), some (V.int (n : Int)), some (V.int ((n + ds.length : Nat) : Int)), some (V.str (uS ds)), some (V.str ""), none, none, none] = [some (.str z), some (.int (n : Int)), some (.int ((n + kk : Nat) : Int)), some (.str (uS ds)), some (.str (uS pt)), v, none, none] := fun h => by
        subst h
        rw [if_pos rfl] at hk
        rw [← hk]
        exact ⟨rfl, by omega, by simp, _, rfl⟩
      walk_at "rd"
      refine r_ite (fun h1 => ?_) (fun h1 => ?_) <;> walk_at "rd"
      · have h1' : n + ds.length + 1 < z.length := by have := of_decide_eq_true h1; omega
        refine r_ch (List.getElem?_eq_getElem (by rw [show z.cps.toList = lS z from rfl]; omega)) (by omega) ?_
        walk_at "rd"
        rw [show decide ((⟨#[z.cps.toList[n + ds.length]'(by rw [show z.cps.toList = lS z from rfl]; omega)]⟩ : Str) = ".") = _ from eqA _ "." 46 (by decide +kernel)]
        refine r_ite (fun h2 => ?_) (fun h2 => ?_)
        · have h2' := of_decide_eq_true h2
          have g1 : (lS z)[n + ds.length]? = some 46 := by rw [List.getElem?_eq_getElem (by omega)]; exact congrArg some h2'
          walk_at "rd"
          have e1 : ((n + ds.length : Nat) : Int) + 1 = ((n + ds.length + 1 : Nat) : Int) := by omega
          rw [e1]
          refine r_ch (List.getElem?_eq_getElem (by rw [show z.cps.toList = lS z from rfl]; omega)) (by omega) ?_
          walk_at "rd"
          refine ⟨_, rfl, ?_⟩
          walk_at "rd"
          have g2 : (lS z)[n + ds.length + 1]? = some ((lS z)[n + ds.length + 1]'(by omega)) := List.getElem?_eq_getElem (by omega)
          refine r_ite (fun h3 => ?_) (fun h3 => ?_)
          · walk_at "rd"
            rw [e1]
            refine ⟨z, n + ds.length + 1, rfl, hz, by omega, ?_⟩
            walk_at "rd"
            rw [e1]
            refine r_slS (by rw [sizeLine_eq]; omega) ?_
            rw [cut_span isDigit (by omega)]
            have e2 : ((lS z).drop (n + ds.length + 1)).takeWhile isDigit = pt := by rw [← hp, partOf_yes g1 g2 h3]
            have e3 : pt ≠ [] := by rw [← hp]; exact partOf_ne g1 g2 h3
            rw [if_neg e3] at hk
            have e4 : spanEnd isDigit (lS z) (n + ds.length + 1) = n + kk := by unfold spanEnd; rw [e2]; omega
            have e5 := spanEnd_le (p := isDigit) (l := lS z) (n := n + ds.length + 1) (by omega)
            rw [e4, e2]
            walk_at "rd"
            exact ⟨rfl, by omega, by omega, _, rfl⟩
          · walk_at "rd"
            refine nofin (no ?_)
            rintro ⟨_, d, hd1, hd2⟩
            rw [g2] at hd1
            cases hd1
            have h3' : isDigit ((lS z)[n + ds.length + 1]'(by omega)) = false := h3
            rw [h3'] at hd2
            cases hd2
        · walk_at "rd"
          refine nofin (no ?_)
          rintro ⟨g1, _⟩
          rw [List.getElem?_eq_getElem (by omega)] at g1
          have := of_decide_eq_false h2
          exact this (Option.some.inj g1)
      · refine nofin (no ?_)
        rintro ⟨_, d, hd1, _⟩
        have := (List.getElem?_eq_some_iff.mp hd1).1
        have := of_decide_eq_false h1
        omega
    · -- the rest
      rintro σ' H' ⟨rfl, hkz, hpz, v, rfl⟩
      have hdz : ds.length ≤ 20000 := by omega
      have lu : ∀ l : List Nat, (uS l).length = l.length := fun _ => rfl
      have bad : (ds.length > 6 ∨ pt.length > 4 ∨ nextIn ((lS z).drop (n + kk)) = true) → tRaiseX (fun cls d _ H => E cls d H) (tMkO DM (spX1 DM "at" CMal) [] (tCons (tVar 1) tNil)) { nx := fun _ _ => True, rt := Q } [some (V.str z), some (V.int (n : Int)), some (V.int ((n + kk : Nat) : Int)), some (V.str (uS ds)), some (V.str (uS pt)), v, none, none] H := fun hb => by
        rw [List.drop_drop, if_pos hb] at k
        walk_at "rd"
        exact r_mkx ⟨_, rfl, log_ok (by omega)⟩ fun d H' hd hs he => k d H' hs he
      have good : ¬ (ds.length > 6 ∨ pt.length > 4 ∨ nextIn ((lS z).drop (n + kk)) = true) → ∀ p v H', Same H H' → H' p = some (.tup [v, .int ((n + kk : Nat) : Int)]) → Tp H' v (tokD (.num (digV (ds ++ pt)) (10 ^ pt.length), n)) → Q (.ref p) H' := fun hb => by
        rw [List.drop_drop, if_neg hb] at k
        exact k
      have l1 : (uS ds).length = ds.length := rfl
      have l2 : (uS pt).length = pt.length := rfl
      have l3 : (uS (ds ++ pt)).length = ds.length + pt.length := List.length_append
      have fin : ¬ (ds.length > 6 ∨ pt.length > 4 ∨ nextIn ((lS z).drop (n + kk)) = true) → ds.length ≤ 6 ∧ pt.length ≤ 4 := fun h => by
        constructor
        · exact Nat.le_of_not_lt fun z => h (.inl z)
        · exact Nat.le_of_not_lt fun z => h (.inr (.inl z))
      refine ⟨fun σ' H' => H = H' ∧ ¬ (ds.length > 6 ∨ pt.length > 4 ∨ nextIn ((lS z).drop (n + kk)) = true) ∧ σ' = [some (.str z), some (.int (n : Int)), some (.int ((n + kk : Nat) : Int)), some (.str (uS ds)), some (.str (uS pt)), v, none, none], ?_, ?_⟩
      · walk_at "rd"
        refine r_ite (fun h1 => ?_) (fun h1 => ?_) <;> walk_at "rd"
        · have h1' := of_decide_eq_true h1
          have hb : ds.length > 6 ∨ pt.length > 4 ∨ nextIn ((lS z).drop (n + kk)) = true := .inl (by omega)
          rw [List.drop_drop, if_pos hb] at k
          exact r_mkx ⟨_, rfl, log_ok (by omega)⟩ fun d H' hd hs he => k d H' hs he
        refine r_ite (fun h2 => ?_) (fun h2 => ?_) <;> walk_at "rd"
        · have h2' := of_decide_eq_true h2
          have hb : ds.length > 6 ∨ pt.length > 4 ∨ nextIn ((lS z).drop (n + kk)) = true := .inr (.inl (by omega))
          rw [List.drop_drop, if_pos hb] at k
          exact r_mkx ⟨_, rfl, log_ok (by omega)⟩ fun d H' hd hs he => k d H' hs he
        have h1' := of_decide_eq_false h1
        have h2' := of_decide_eq_false h2
        refine r_ite (fun h3 => ?_) (fun h3 => ?_) <;> walk_at "rd"
        · have h3' := of_decide_eq_true h3
          have g := List.getElem?_eq_getElem (l := z.cps.toList) (i := n + kk) (by rw [show z.cps.toList = lS z from rfl]; omega)
          refine r_ch g (by omega) ?_
          walk_at "rd"
          refine ⟨_, rfl, ?_⟩
          walk_at "rd"
          have gn := nextIn_drop g
          refine r_ite (fun h4 => ?_) (fun h4 => ?_) <;> walk_at "rd"
          · have hb : ds.length > 6 ∨ pt.length > 4 ∨ nextIn ((lS z).drop (n + kk)) = true := .inr (.inr (gn.trans h4))
            rw [List.drop_drop, if_pos hb] at k
            exact r_mkx ⟨_, rfl, log_ok (by omega)⟩ fun d H' hd hs he => k d H' hs he
          · refine ⟨rfl, ?_, rfl⟩
            rintro (hb | hb | hb)
            · omega
            · omega
            · rw [show (lS z).drop (n + kk) = z.cps.toList.drop (n + kk) from rfl, gn, h4] at hb
              cases hb
        · have h3' := of_decide_eq_false h3
          refine ⟨rfl, ?_, rfl⟩
          rintro (hb | hb | hb)
          · omega
          · omega
          · rw [nextIn_end (by omega)] at hb
            cases hb
      · rintro σ' H' ⟨rfl, hb, rfl⟩
        obtain ⟨f1, f2⟩ := fin hb
        have k2 := good hb
        walk_at "rd"
        refine ⟨_, rfl, _, rfl, (by show pt.length ≤ sizeLine; rw [sizeLine_eq]; omega), _, rfl, (by rw [l2]; omega), (by rw [l2]; omega), for_range (lo := 0) (n := pt.length) (fun i σ' H' => H = H' ∧ ∃ v7, σ' = [some (.str z), some (.int (n : Int)), some (.int ((n + kk : Nat) : Int)), some (.str (uS ds)), some (.str (uS pt)), v, some (.int ((10 ^ i : Nat) : Int)), v7]) ⟨rfl, none, rfl⟩ ?_ ?_⟩
        · rintro i σ' H' hi ⟨rfl, v7, rfl⟩
          walk_at "rd"
          have hi4 : i ≤ 4 := by omega
          refine r_I ?_ ?_
          · have : (10 ^ i : Nat) ≤ 10 ^ 4 := Nat.pow_le_pow_right (by decide) hi4
            exact wide_mul (a := 20) (b := 20) (by rw [Int.natAbs_natCast]; exact Nat.lt_of_le_of_lt this (by decide)) (by decide) (by decide) (by decide) (by decide)
          · walk_at "rd"
            refine ⟨rfl, some (.int (0 + (i : Int))), ?_⟩
            have e : ((10 ^ i : Nat) : Int) * 10 = ((10 ^ (i + 1) : Nat) : Int) := by
              rw [Nat.pow_succ]; omega
            rw [e]
            rfl
        · rintro σ' H' ⟨rfl, v7, rfl⟩
          walk_at "rd"
          rw [uS_app]
          walk_at "rd"
          have hne : ds ≠ [] := by
            obtain ⟨c, hc1, hc2⟩ := hc
            rw [← hd, drop_cons hc1, List.takeWhile_cons, if_pos hc2]
            exact List.cons_ne_nil _ _
          refine ⟨uS (ds ++ pt), (digV (ds ++ pt) : Nat), rfl, intText_digits (x := uS (ds ++ pt)) (fun c hcm => ?_) ?_ (by omega), by omega, ?_⟩
          · rcases List.mem_append.mp hcm with h | h
            · exact isDigit_ok (hdd c h)
            · exact isDigit_ok (hpd c h)
          · show ds ++ pt ≠ []
            simp [hne]
          walk_at "rd"
          intro p1 hp1
          walk_at "rd"
          intro p2 hp2
          walk_at "rd"
          intro p3 hp3
          have n12 : p1 ≠ p2 := fun e => by rw [e] at hp2; rw [upd_same] at hp2; cases hp2
          have n13 : p1 ≠ p3 := fun e => by rw [← e, upd_ne n12, upd_same] at hp3; cases hp3
          have n23 : p2 ≠ p3 := fun e => by rw [e] at hp3; rw [upd_same] at hp3; cases hp3
          refine k2 p3 (.ref p2) _ (fun b o hb => Same.new hp3 _ _ (Same.new hp2 _ _ (Same.new hp1 _ _ hb))) upd_same ?_
          refine .tup (a := p2) (xs := [V.str "number", V.ref p1, V.int n]) ?_ (.cons (.str _) (.cons (.tup (a := p1) (xs := [V.int (digV (ds ++ pt) : Nat), V.int ((10 ^ pt.length : Nat) : Int)]) ?_ (.cons (.int _) (.cons (.int _) .nil))) (.cons (.int _) .nil)))
          · rw [upd_ne n23, upd_same]
          · rw [upd_ne n13, upd_ne n12, upd_same]
abbrev s_tokens : Stmt := top 18
theorem sc_tokens : FnScope ["text", "result", "at", "token"] ["text"] (defScope s_tokens) := ⟨rfl, rfl, rfl, by decide +kernel, rfl, by decide +kernel, by decide +kernel⟩
theorem cal_tokens {DM DO : Addr} (dx : DefAt K mg "tokens" s_tokens) (B : Bl mg) (L : LexC K mg) (XMalformed : ExC1 P w K mg base "Malformed" DM "at" CMal) (XOversized : ExC1 P w K mg base "Oversized" DO "limit" COver)
    (G_comment_end : Cal P w K mg base 1 "comment_end" ["text", "at"] (spSpan notNl)) (G_is_letter : Cal P w K mg base 1 "is_letter" ["char"] (spCh isLetter)) (G_is_digit : Cal P w K mg base 1 "is_digit" ["char"] (spCh isDigit))
    (G_read_word : Cal P w K mg base 4 "read_word" ["text", "at"] (spTok DM (fun _ => true) wordTok)) (G_read_number : Cal P w K mg base 4 "read_number" ["text", "at"] (spTok DM isDigit numTok)) (G_read_sign : Cal P w K mg base 3 "read_sign" ["text", "at"] (spTok DM (fun _ => true) signTok)) :
    Cal P w K mg base 5 "tokens" ["text"] (spTokens DM DO) := by
  refine cal_mk dx sc_tokens (fun _ _ _ _ _ _ us hl => match us, hl with | [_], _ => rfl) (fun vs H Q E h => ?_) (fun f cdv A outer s H vs Q E hr h => ?_)
  · obtain ⟨z, rfl, _⟩ := h
    rfl
  · obtain ⟨z, rfl, hz, k⟩ := h
    have tk : L2N.Takes (cxOf (L2N.CX P w) P w K mg base ["text", "result", "at", "token"] "tokens" (defScope s_tokens) f cdv A outer s H E) (fun cls d _ H => E cls d H) := L2N.takes_of rfl rfl rfl rfl
    refine ⟨_, (pss_cons (ps_if (pt_cmpR op_gt (pe_callB call_len_str (by rfl) B.len PySem.boot_len (pa_cons (pv 0) pa_nil)) (pe_gint L.gMT) (nomark _))
      (pss_one (ps_raiseX rfl tk (pmk_x1 XOversized (hr.mono (by decide)) (pa_cons pe_str pa_nil))))
      pss_nil)
      (pss_cons (ps_set (i := 1) sc_tokens.nd rfl (Or.inl rfl) (pe_lst pa_nil))
      (pss_cons (ps_set (i := 2) sc_tokens.nd rfl (Or.inl rfl) pe_int)
      (pss_cons (ps_while (passes_of rfl) (pt_cmpR op_lt (pv 2) (pe_callB call_len_str (by rfl) B.len PySem.boot_len (pa_cons (pv 0) pa_nil)) (nomark _))
      (pss_one (ps_if (pt_cmpR op_in_seq (pe_item_str (pv 0) (pv 2) (fun _ _ => rfl)) (pe_tup (pa_cons pe_str (pa_cons pe_str (pa_cons pe_str pa_nil)))) (by rfl))
      (pss_one (ps_set (i := 2) sc_tokens.nd rfl (Or.inl rfl) (pe_op op_add (pv 2) pe_int)))
      (pss_one (ps_if (pt_cmpR op_eq (pe_item_str (pv 0) (pv 2) (fun _ _ => rfl)) pe_str (nomark _))
      (pss_one (ps_set (i := 2) sc_tokens.nd rfl (Or.inl rfl) (pe_cal G_comment_end (hr.mono (by first | decide | omega)) tk (pa_cons (pv 0) (pa_cons (pv 2) pa_nil)))))
      (C8.pss_cut (ps_if (pt_val (pe_cal G_is_letter (hr.mono (by first | decide | omega)) tk (pa_cons (pe_item_str (pv 0) (pv 2) (fun _ _ => rfl)) pa_nil)))
      (pss_one (ps_asg (pe_cal G_read_word (hr.mono (by first | decide | omega)) tk (pa_cons (pv 0) (pa_cons (pv 2) pa_nil))) (pg_tup rfl (pgs_cons (pg_name (i := 3) sc_tokens.nd rfl (Or.inl rfl)) (pgs_cons (pg_name (i := 2) sc_tokens.nd rfl (Or.inl rfl)) pgs_nil)))))
      (pss_one (ps_if (pt_val (pe_cal G_is_digit (hr.mono (by first | decide | omega)) tk (pa_cons (pe_item_str (pv 0) (pv 2) (fun _ _ => rfl)) pa_nil)))
      (pss_one (ps_asg (pe_cal G_read_number (hr.mono (by first | decide | omega)) tk (pa_cons (pv 0) (pa_cons (pv 2) pa_nil))) (pg_tup rfl (pgs_cons (pg_name (i := 3) sc_tokens.nd rfl (Or.inl rfl)) (pgs_cons (pg_name (i := 2) sc_tokens.nd rfl (Or.inl rfl)) pgs_nil)))))
      (pss_one (ps_asg (pe_cal G_read_sign (hr.mono (by first | decide | omega)) tk (pa_cons (pv 0) (pa_cons (pv 2) pa_nil))) (pg_tup rfl (pgs_cons (pg_name (i := 3) sc_tokens.nd rfl (Or.inl rfl)) (pgs_cons (pg_name (i := 2) sc_tokens.nd rfl (Or.inl rfl)) pgs_nil))))))))
      (pss_one (ps_expr (pe_bm PySem.F.plainAttrs_list PySem.F.slot_list_append PySem.F.type_list_append mt_append (pv 1) (pa_cons (pv 3) pa_nil))))))))))
      (pss_one (ps_ret (pv 1))))))), ?_⟩
    have hl : (lS z).length = z.length := Array.length_toList
    walk_at "rd"
    refine r_ite (fun h1 => ?_) (fun h1 => ?_) <;> walk_at "rd"
    · have h1' := of_decide_eq_true h1
      rcases k with ⟨_, k⟩ | ⟨_, _, hk, _⟩
      · exact r_mkx ⟨_, rfl⟩ fun d H' hd hs he => k d H' hs he
      · omega
    · have h1' := of_decide_eq_false h1
      rcases k with ⟨hk, _⟩ | ⟨ts, e, _, hlex, k⟩
      · omega
      intro p hp
      walk_at "rd"
      refine ⟨fun m σ' H' => ∃ (i : Nat) (ts1 ts2 : List (Tk × Nat)) (us : List V) (v3 : Option V), σ' = [some (.str z), some (.ref p), some (.int (i : Int)), v3] ∧ Same H H' ∧ H' p = some (.lst us) ∧ TpAll H' us (ts1.map tokD) ∧ Lex i ((lS z).drop i) ts2 e ∧ ts = ts1 ++ ts2 ∧ i ≤ z.length ∧ us.length ≤ i ∧ m = z.length - i,
        ⟨_, 0, [], ts, [], none, rfl, Same.new hp, upd_same, .nil, hlex, rfl, Nat.zero_le _, Nat.le_refl _, rfl⟩, ?_⟩
      rintro m σ' H' ⟨i, ts1, ts2, us, v3, rfl, hs, hpl, hus, hlex, hts, hi, hul, rfl⟩
      walk_at "rd"
      refine r_ite (fun h2 => ?_) (fun h2 => ?_) <;> walk_at "rd"
      · have h2' := of_decide_eq_true h2
        have hc := List.getElem?_eq_getElem (l := lS z) (i := i) (by omega)
        generalize (lS z)[i]'(by omega) = c at hc
        have hdc := drop_cons hc
        refine ⟨fun σ' H'' => ∃ m', m' < z.length - i ∧ ∃ (i : Nat) (ts1 ts2 : List (Tk × Nat)) (us : List V) (v3 : Option V), σ' = [some (.str z), some (.ref p), some (.int (i : Int)), v3] ∧ Same H H'' ∧ H'' p = some (.lst us) ∧ TpAll H'' us (ts1.map tokD) ∧ Lex i ((lS z).drop i) ts2 e ∧ ts = ts1 ++ ts2 ∧ i ≤ z.length ∧ us.length ≤ i ∧ m' = z.length - i, fun _ _ h => h, ?_⟩
        rw [hdc] at hlex
        walk_at "rd"
        refine r_ch hc (by omega) ?_
        walk_at "rd"
        intro q hq
        have pq : p ≠ q := fun e => by rw [e] at hpl; rw [hpl] at hq; cases hq
        have hs2 : Same H (upd H' q (.tup [V.str " ", V.str "\t", V.str "\n"])) := fun b o hb => Same.new hq _ _ (hs _ _ hb)
        have hpl2 : (upd H' q (.tup [V.str " ", V.str "\t", V.str "\n"])) p = some (.lst us) := by rw [upd_ne pq]; exact hpl
        have hus2 := hus.keep (Keep.new (o := .tup [V.str " ", V.str "\t", V.str "\n"]) hq)
        refine ⟨q, _, rfl, .inr (SqT.of upd_same), rfl, rfl, ?_⟩
        generalize upd H' q (.tup [V.str " ", V.str "\t", V.str "\n"]) = H2 at *
        walk_at "rd"
        show if (inV (.str ⟨#[c]⟩) [.str " ", .str "\t", .str "\n"]) = true then _ else _
        rw [isp_in]
        refine r_ite (fun h3 => ?_) (fun h3 => ?_) <;> walk_at "rd"
        · -- a blank
          cases hlex with
          | sp _ hl2 => exact ⟨z.length - (i + 1), by omega, i + 1, ts1, ts2, us, v3, rfl, hs2, hpl2, hus2, hl2, hts, by omega, by omega, rfl⟩
          | com _ => cases h3
          | tok h _ _ _ => rw [h] at h3; cases h3
          | bad h _ _ => rw [h] at h3; cases h3
        · refine r_ch hc (by omega) ?_
          walk_at "rd"
          rw [eqA c "#" 35 (by decide +kernel)]
          refine r_ite (fun h4 => ?_) (fun h4 => ?_) <;> walk_at "rd"
          · -- a comment
            have h4' := of_decide_eq_true h4
            subst h4'
            refine ⟨z, i, rfl, hz, hi, ?_⟩
            walk_at "rd"
            have hse : spanEnd notNl (lS z) i = i + (1 + (((lS z).drop (i + 1)).takeWhile notNl).length) := by
              unfold spanEnd
              rw [hdc, List.takeWhile_cons, if_pos (show notNl 35 = true from rfl), List.length_cons]
              omega
            have hle := spanEnd_le (p := notNl) (l := lS z) (n := i) (by omega)
            rw [hse] at hle ⊢
            cases hlex with
            | sp h _ => rw [h] at h3; cases h3
            | com hl2 =>
              rw [List.drop_drop] at hl2
              refine ⟨_, ?_, _, ts1, ts2, us, v3, rfl, hs2, hpl2, hus2, ?_, hts, by omega, by omega, rfl⟩
              · omega
              · rw [show i + (1 + (((lS z).drop (i + 1)).takeWhile notNl).length) = i + 1 + (((lS z).drop (i + 1)).takeWhile notNl).length by omega] at hl2 ⊢
                exact hl2
            | tok _ h _ _ => exact absurd rfl h
            | bad _ h _ => exact absurd rfl h
          · -- a token
            have h4' := of_decide_eq_false h4
            have htok : (∃ t k ts3, ts2 = (t, i) :: ts3 ∧ tok1 (c :: (lS z).drop (i + 1)) = some (t, k) ∧ Lex (i + k) ((lS z).drop (i + k)) ts3 e) ∨ (e = some i ∧ tok1 (c :: (lS z).drop (i + 1)) = none) := by
              cases hlex with
              | sp h _ => rw [h] at h3; cases h3
              | com _ => exact absurd rfl h4'
              | tok _ _ ht hl2 =>
                rw [← hdc, List.drop_drop] at hl2
                exact .inl ⟨_, _, _, rfl, ht, hl2⟩
              | bad _ _ ht => exact .inr ⟨rfl, ht⟩
            rw [← hdc] at htok
            have fail : tok1 ((lS z).drop i) = none → ∀ d H'', Same H2 H'' → H'' d = some (.xd [("at", .int (i : Int))]) → E (.ref DM) (some d) H'' := fun hn d H'' hs3 he => by
              rcases htok with ⟨t, k', ts3, _, ht, _⟩ | ⟨he2, _⟩
              · rw [hn] at ht; cases ht
              · subst he2
                exact k d H'' (hs2.trans hs3) he
            refine ⟨fun σ' H'' => ∃ t k' v, tok1 ((lS z).drop i) = some (t, k') ∧ σ' = [some (.str z), some (.ref p), some (.int ((i + k' : Nat) : Int)), some v] ∧ Same H2 H'' ∧ Tp H'' v (tokD (t, i)), ?_, ?_⟩
            · walk_at "rd"
              refine r_ch hc (by omega) ?_
              walk_at "rd"
              refine ⟨_, rfl, ?_⟩
              walk_at "rd"
              refine r_ite (fun h5 => ?_) (fun h5 => ?_) <;> walk_at "rd"
              · refine ⟨z, i, rfl, hz, by omega, ⟨c, hc, rfl⟩, ?_⟩
                have hg : wordTok ((lS z).drop i) = tok1 ((lS z).drop i) := by rw [hdc]; exact (if_pos h5).symm
                rw [hg]
                cases ho : tok1 ((lS z).drop i) with
                | none => exact fail ho
                | some tk' =>
                  obtain ⟨t, k'⟩ := tk'
                  intro q v H'' hs3 hq3 htp
                  exact ⟨q, _, rfl, SqT.of hq3, rfl, _, _, rfl, _, _, rfl, rfl, t, k', v, rfl, rfl, hs3, htp⟩
              · refine r_ch hc (by omega) ?_
                walk_at "rd"
                refine ⟨_, rfl, ?_⟩
                walk_at "rd"
                have h5' : ¬ isLetter c = true := by rw [h5]; decide
                refine r_ite (fun h6 => ?_) (fun h6 => ?_) <;> walk_at "rd"
                · refine ⟨z, i, rfl, hz, by omega, ⟨c, hc, h6⟩, ?_⟩
                  have hg : numTok ((lS z).drop i) = tok1 ((lS z).drop i) := by rw [hdc]; exact ((if_neg h5').trans (if_pos h6)).symm
                  rw [hg]
                  cases ho : tok1 ((lS z).drop i) with
                  | none => exact fail ho
                  | some tk' =>
                    obtain ⟨t, k'⟩ := tk'
                    intro q v H'' hs3 hq3 htp
                    exact ⟨q, _, rfl, SqT.of hq3, rfl, _, _, rfl, _, _, rfl, rfl, t, k', v, rfl, rfl, hs3, htp⟩
                · refine ⟨z, i, rfl, hz, by omega, ⟨c, hc, rfl⟩, ?_⟩
                  have h6' : ¬ isDigit c = true := by rw [h6]; decide
                  have hg : signTok ((lS z).drop i) = tok1 ((lS z).drop i) := by rw [hdc]; exact ((if_neg h5').trans (if_neg h6')).symm
                  rw [hg]
                  cases ho : tok1 ((lS z).drop i) with
                  | none => exact fail ho
                  | some tk' =>
                    obtain ⟨t, k'⟩ := tk'
                    intro q v H'' hs3 hq3 htp
                    exact ⟨q, _, rfl, SqT.of hq3, rfl, _, _, rfl, _, _, rfl, rfl, t, k', v, rfl, rfl, hs3, htp⟩
            · rintro σ' H'' ⟨t, k', v, ht, rfl, hs3, htp⟩
              have hlen := tok1_len (hdc ▸ ht)
              rw [← hdc, List.length_drop] at hlen
              have hpl3 := hs3 _ _ hpl2
              rcases htok with ⟨t2, k2, ts3, hts3, ht2, hl3⟩ | ⟨_, hn⟩
              · rw [ht] at ht2
                cases ht2
                walk_at "rd"
                refine ⟨.inl ⟨rfl, _, SqL.of hpl3⟩, ?_⟩
                walk_at "rd"
                refine ⟨p, us, v, rfl, rfl, hpl3, by rw [sizeLine_eq]; omega, ?_⟩
                have kp := Keep.mut (o := .lst (us ++ [v])) hpl3 (fun xs z => nomatch z)
                refine ⟨z.length - (i + k'), by omega, i + k', ts1 ++ [(t, i)], ts3, us ++ [v], some v, rfl, Same.mut (hs2.trans hs3) hp, upd_same, ?_, hl3, by rw [hts, hts3]; simp, by omega, ?_, rfl⟩
                · rw [List.map_append]
                  exact ((hus2.keep (Same.keep hs3)).keep kp).app (.cons (htp.keep kp) .nil)
                · rw [List.length_append]; simp; omega
              · rw [hn] at ht; cases ht
      · have h2' := of_decide_eq_false h2
        have hn : (lS z).drop i = [] := List.drop_eq_nil_of_le (by omega)
        rw [hn] at hlex
        cases hlex
        rw [hts, List.append_nil] at k
        exact k p us H' hs hp hpl hus
end
end Al
namespace Al
open PySem PySem.Spec PyProof.Rows L2 NdefX PySem.W
/-! ### own exceptions whose __init__ says super().__init__: facts read off the head -/
def oexB (K : Frag) (C : Addr) : Bool := (match K.lookup C with
  | some ⟨.type t, _, .cls cd, sl⟩ => decide (t = "type") && (match cd.mro, sl.toList with
    | .ref C' :: bm, [_, _, _, _, some (.builtin n), _] => decide (C' = C) && (decide (n = "ValueError.__new__") && (!cd.hasDel && (cd.hasDict && HandSPX.refsVE bm)))
    | _, _ => false)
  | _ => false) && (decide (findIn K (.ref C) "__setattr__" = some (some (.builtin "object.__setattr__"))) && (decide (subIn K (.ref C) (.type "BaseException") = some true) &&
    (decide (typeIn K (.ref C) = some (.type "type")) && keepIn K (.ref C))))
theorem oexB_ok {K : Frag} {C : Addr} (h : oexB K C = true) : OexC K C := by
  obtain ⟨h0, h⟩ := He.ba h
  obtain ⟨h1, h⟩ := He.ba h
  obtain ⟨h2, h⟩ := He.ba h
  obtain ⟨h3, h4⟩ := He.ba h
  refine ⟨?_, of_decide_eq_true h1, of_decide_eq_true h2, of_decide_eq_true h3, h4⟩
  split at h0
  · rename_i t dd cd sl ho
    obtain ⟨ht, h0⟩ := He.ba h0
    split at h0
    · rename_i C' bm k0 k1 k2 k3 n k5 hm hs
      obtain ⟨e1, h0⟩ := He.ba h0
      obtain ⟨e2, h0⟩ := He.ba h0
      obtain ⟨e3, h0⟩ := He.ba h0
      obtain ⟨e4, e5⟩ := He.ba h0
      have e1 := of_decide_eq_true e1
      have e2 := of_decide_eq_true e2
      have ht := of_decide_eq_true ht
      obtain ⟨nm, bs, mro, ns, qn, hd, sn, sub, ab, col, del⟩ := cd
      have e3' : del = false := by
        cases del with
        | false => rfl
        | true => cases e3
      dsimp only at hm e4
      subst hm e1 e2 ht e4 e3'
      have hsl : sl = #[k0, k1, k2, k3, some (.builtin "ValueError.__new__"), k5] := by
        obtain ⟨l⟩ := sl
        simp only at hs
        rw [hs]
      subst hsl
      exact ⟨nm, qn, ns, bs, bm, sn, sub, ab, col, dd, k0, k1, k2, k3, k5, ho, e5⟩
    · cases h0
  · cases h0
/-- one such class: its name, its __init__'s qualified name, its def -/
structure ExD where
  x : Str
  qual : Str
  st : Stmt
  fs : List Str
abbrev ExO : Type := Option (Str × Str × Arguments × FuncBody × Scope × Addr × Addr)
def ExD.val (d : ExD) : ExO := some ("__init__", d.qual, defArgs d.st, .stmts (defBody d.st), defScope d.st, mainGlobals, builtinsNs)
def exI (K : Frag) (d : ExD) : Addr := He.ma K (He.ga K d.x) "__init__"
def exObs (K : Frag) (d : ExD) : ExO := match K.lookup (exI K d) with
  | some ⟨_, _, .func fd, _⟩ => some (fd.name, fd.qualname, fd.params, fd.body, fd.scope, fd.globals, fd.builtins)
  | _ => none
def cellB (K : Frag) (cc D : Addr) : Bool := match K.lookup cc with
  | some ⟨_, _, .cell (some (.ref c)), _⟩ => decide (c = D)
  | _ => false
def codeB (K : Frag) (file : Str) (cda : Addr) : Bool := match K.lookup cda with
  | some ⟨_, _, .fields vs, _⟩ => (match (vs[2]? : Option Value) with
    | some (.str z _) => file == z
    | _ => false)
  | _ => false
def exFnB (K : Frag) (file : Str) (d : ExD) : Bool := match K.lookup (exI K d) with
  | some ⟨_, _, .func fd, _⟩ => (match fd.closure, fd.code, fd.defaults with
    | [(n, cc)], .ref cda, .none => decide (n = "__class__") && (cellB K cc (He.ga K d.x) && (codeB K file cda && codeIn K (.ref cda) d.qual))
    | _, _, _ => false)
  | _ => false
def exB (file : Str) (K : Frag) (d : ExD) : Bool := exFnB K file d && (oexB K (He.ga K d.x) && (xfB K (He.ga K d.x) && (He.eqO (nsIn K mainGlobals d.x) (some (some (.ref (He.ga K d.x)))) &&
  (He.eqO (findIn K (.ref (He.ga K d.x)) "__init__") (some (some (.ref (exI K d)))) && (decide (typeIn K (.ref (exI K d)) = some (.type "function")) &&
  (d.fs.all (fun f => He.eqO (findIn K (.ref (He.ga K d.x)) f) (some none)) && ((clsIn K (He.ga K d.x)).isSome && (decide (mroIn K (He.ga K d.x) (.ref (He.ga K d.x)) = some true) &&
  (He.eqO (ks_superIn K (He.ga K d.x) (He.ga K d.x) "__init__") (some (some (.builtin "ValueError.__init__"))) && (decide (subIn K (.ref (He.ga K d.x)) (.type "ValueError") = some true) && He.eqO (nsIn K cStatics "thirdparty.any") (some none)))))))))))
structure ExF (P : Program) (K : Frag) (mg : Str → Option Value) (d : ExD) : Prop where
  fn : ∃ oc od osl kV doc pm an cda ct cc, K.lookup (exI K d) = some ⟨oc, od, .func (ksFn "__init__" d.qual (defArgs d.st) (defBody d.st) (defScope d.st) .none kV doc pm an (.ref cda) ct cc), osl⟩ ∧ codeIn K (.ref cda) d.qual = true ∧ SupC K mg (He.ga K d.x) cda cc P
  gm : mg d.x = some (.ref (He.ga K d.x))
  fi : findIn K (.ref (He.ga K d.x)) "__init__" = some (some (.ref (exI K d)))
  ty : typeIn K (.ref (exI K d)) = some (.type "function")
  xf : XfC K (He.ga K d.x)
  nf : ∀ f ∈ d.fs, findIn K (.ref (He.ga K d.x)) f = some none
theorem exF_of {P : Program} {K : Frag} {h : Heap} {mg : Str → Option Value} {d : ExD} (X : K.In h) (G : h.Ns mainGlobals mg) (hs : mg "super" = none) (ht : (P.main.scope.names.lookup ("super" : Str)).isSome = false)
    (e : exObs K d = d.val) (c : exB P.main.file K d = true) : ExF P K mg d := by
  obtain ⟨c1, c⟩ := He.ba c
  obtain ⟨c2, c⟩ := He.ba c
  obtain ⟨c3, c⟩ := He.ba c
  obtain ⟨c4, c⟩ := He.ba c
  obtain ⟨c5, c⟩ := He.ba c
  obtain ⟨c6, c⟩ := He.ba c
  obtain ⟨c7, c⟩ := He.ba c
  obtain ⟨c8, c⟩ := He.ba c
  obtain ⟨c9, c⟩ := He.ba c
  obtain ⟨c10, c⟩ := He.ba c
  obtain ⟨c11, c12⟩ := He.ba c
  refine ⟨?_, mg_of X G (He.eqO_ok c4), He.eqO_ok c5, of_decide_eq_true c6, xfB_ok c3, fun f hf => He.eqO_ok (List.all_eq_true.mp c7 f hf)⟩
  unfold exFnB at c1
  unfold exObs at e
  cases q : K.lookup (exI K d) with
  | none =>
    rw [q] at e
    cases e
  | some o =>
    obtain ⟨oc, od, dt, osl⟩ := o
    rw [q] at e c1
    cases dt with
    | func fd =>
      obtain ⟨n1, n2, n3, n4, n5, n6, n7, n8, n9, n10, n11, n12, n13, n14, n15⟩ := fd
      have e2 : (some (n1, n2, n3, n4, n5, n6, n15) : ExO) = some (("__init__" : Str), d.qual, defArgs d.st, .stmts (defBody d.st), defScope d.st, mainGlobals, builtinsNs) := e
      simp only [Option.some.injEq, Prod.mk.injEq] at e2
      obtain ⟨h1, h2, h3, h4, h5, h6, h7⟩ := e2
      subst h1 h2 h3 h4 h5 h6 h7
      have c1' : (match (generalizing := false) n7, n13, n8 with
        | [(n, cc)], .ref cda, .none => decide (n = "__class__") && (cellB K cc (He.ga K d.x) && (codeB K P.main.file cda && codeIn K (.ref cda) d.qual))
        | _, _, _ => false) = true := c1
      split at c1'
      · rename_i n cc cda
        obtain ⟨u1, c1'⟩ := He.ba c1'
        obtain ⟨u2, c1'⟩ := He.ba c1'
        obtain ⟨u3, u4⟩ := He.ba c1'
        have u1 := of_decide_eq_true u1
        subst u1
        refine ⟨oc, od, osl, n9, n10, n11, n12, cda, n14, cc, rfl, u4, oexB_ok c2, ?_, of_decide_eq_true c9, He.eqO_ok c10, of_decide_eq_true c11, hs, He.eqO_ok c12, ?_, ?_, ht⟩
        · exact Option.isSome_iff_exists.mp c8
        · unfold cellB at u2
          split at u2
          · rename_i cl cld D' csl hq
            rw [← of_decide_eq_true u2]
            exact ⟨_, _, _, hq⟩
          · cases u2
        · unfold codeB at u3
          split at u3
          · rename_i ccl cdd vs ccs hq
            split at u3
            · rename_i z tf hz
              exact ⟨_, _, _, _, _, _, hq, hz, u3⟩
            · cases u3
          · cases u3
      · cases c1'
    | _ => cases c1
/-! ### the Hook -/
abbrev AlE : Type := He.AlD × List ExO × Bool
def obsK (fa : List He.Fa) (fn : List He.DefD) (exs : List ExD) (ex : Frag → Bool) (K : Frag) : AlE := (He.obsD fa fn K, exs.map (exObs K), ex K)
def valK (fn : List He.DefD) (exs : List ExD) : AlE := (He.valD fn, exs.map ExD.val, true)
def frE (g : Addr → Option Obj) (n : Nat) : Frag := He.frG g (cStatics :: He.asD g n)
structure SaysE (fa : List He.Fa) (fn : List He.DefD) (exs : List ExD) (ex : Frag → Bool) (K : Frag) : Prop where
  d : He.SaysD fa fn K
  o : exs.map (exObs K) = exs.map ExD.val
  b : ex K = true
def hookE (n : Nat) (fa : List He.Fa) (fn : List He.DefD) (exs : List ExD) (ex : Frag → Bool) : Hook where
  α := AlE
  obs := fun s => obsK fa fn exs ex (frE s.heap.get? n)
  val := fun _ => valK fn exs
  says := fun _ h => ∃ K : Frag, K.In h ∧ SaysE fa fn exs ex K
  of := fun _ _ e => ⟨_, He.frG_in, congrArg (fun z : AlE => z.1) e, congrArg (fun z : AlE => z.2.1) e, congrArg (fun z : AlE => z.2.2) e⟩
  keeps := fun _ _ _ ⟨K, hK, c⟩ k => ⟨K, Frag.In.keeps hK k, c⟩
theorem obsK_eq {n : Nat} {fa : List He.Fa} {fn : List He.DefD} {exs : List ExD} {ex : Frag → Bool} {g : Addr → Option Obj} {s : Shared} (h : ∀ a, g a = s.heap.get? a) : obsK fa fn exs ex (frE g n) = (hookE n fa fn exs ex).obs s := by
  have e : g = s.heap.get? := funext h
  rw [e] <;> rfl
theorem SaysE.exo {fa : List He.Fa} {fn : List He.DefD} {exs : List ExD} {ex : Frag → Bool} {K : Frag} (c : SaysE fa fn exs ex K) (i : Nat) {d : ExD} (h : exs[i]? = some d := by rfl) : exObs K d = d.val := by
  have e2 : (exs.map (exObs K))[i]? = (exs.map ExD.val)[i]? := by rw [c.o]
  rw [List.getElem?_map, List.getElem?_map, h] at e2
  exact Option.some.inj e2
/-- a def as the head tells it -/
def dfn (x : Str) (st : Stmt) : He.DefD := ⟨(x, none), x, x, defArgs st, defBody st, defScope st, [], []⟩
theorem defAt_of {fa : List He.Fa} {fn : List He.DefD} {K : Frag} {h : Heap} {mg : Str → Option Value} (X : K.In h) (G : h.Ns mainGlobals mg) (c : He.SaysD fa fn K) (i j : Nat) {x : Str} {st : Stmt} (hd : fn[i]? = some (dfn x st) := by rfl) (hf : fa[j]? = some (.glo x) := by rfl) :
    DefAt K mg x st := by
  obtain ⟨fd, F⟩ := c.def_ i hd
  exact ⟨_, fd, He.glo_ok X G (c.fact j hf), F⟩
/-- the end of a law over a head by facts -/
theorem walk_W {l : OpenLaw} {n : Nat} {q : Program} {loose : List Str} {XP : (Str → Option Value) → Heap → Prop} {YP : World → Heap → Prop} {d : DefRec} {CX : World → CXT} {x : Str}
    (hn : l.most = some n) (hn2 : n ≤ sizeLine) (hdf : d.params.defaults = [])
    (F : ∀ (w : World) (mg : Str → Option Value) (fa : Addr) (h : Heap), YP w h → h.Ns mainGlobals mg → mg d.name = some (.ref fa) →
      ∃ (K : Frag) (fd : FuncData) (sp : Sp), K.In h ∧ (∀ (s : Shared) (u : Value), BindsTo s fd ⟨[u], []⟩ [(x, u)]) ∧
        (∀ (H : Hp) (a : Addr) (ns : List Int), ns.length ≤ n → Only H → SqL K H a (ns.map V.int) → sp [.ref a] H (fun v _ => v = .bl true) fun _ _ _ => False) ∧
        ∀ base : Heap, K.In base → base.Ns mainGlobals mg → FnC l.prog w K mg base (CX w) fa fd [x] sp)
    (noexc : ∀ (w : World) (H : Hp) (s : Shared) (e : Value) (s' : Shared), CX w [] H s (fun _ _ _ => False) e s' → False) :
    WalkO q loose XP YP l.row.toRowW d [] (fun f vs => PySem.call f vs) := by
  refine Att.attach_call hn hdf ?_
  intro w s₀ s₁ mg mb fa o pm cd doc a vs ns G Y ho hd hcd hmg hobj hints hlen hg
  obtain ⟨K, fd, sp, KX, hb, hsp, hF⟩ := F w mg fa _ Y G.T.g hmg
  exact law_callC KX G.T.g G.T.b G.T.builtins G.T.nolimit hg hobj hints (Nat.le_trans hlen hn2) hF hb (fun H o s => hsp H a ns hlen o s) (fun H e s' => noexc w H s₁ e s')
end Al
namespace Al
open PySem PySem.Spec PyProof.Rows L2 NdefX PySem.W
/-! ### the Hook with tables of text keys; classes with methods -/
abbrev AlF : Type := AlE × List (Option (List (Option (Str × Int))))
def obsF (fa : List He.Fa) (fn : List He.DefD) (exs : List ExD) (ex : Frag → Bool) (ts : List He.Tab) (K : Frag) : AlF := (obsK fa fn exs ex K, ts.map fun t => He.dicW K (t.1 K))
def valF (fn : List He.DefD) (exs : List ExD) (ts : List He.Tab) (w : World) : AlF := (valK fn exs, ts.map fun t => some (He.keysIn w.params t.2))
structure SaysF (fa : List He.Fa) (fn : List He.DefD) (exs : List ExD) (ex : Frag → Bool) (ts : List He.Tab) (w : World) (K : Frag) : Prop where
  e : SaysE fa fn exs ex K
  t : ts.map (fun t => He.dicW K (t.1 K)) = ts.map fun t => some (He.keysIn w.params t.2)
def hookF (n : Nat) (fa : List He.Fa) (fn : List He.DefD) (exs : List ExD) (ex : Frag → Bool) (ts : List He.Tab) : Hook where
  α := AlF
  obs := fun s => obsF fa fn exs ex ts (frE s.heap.get? n)
  val := fun w => valF fn exs ts w
  says := fun w h => ∃ K : Frag, K.In h ∧ SaysF fa fn exs ex ts w K
  of := fun _ _ e => ⟨_, He.frG_in, ⟨congrArg (fun z : AlF => z.1.1) e, congrArg (fun z : AlF => z.1.2.1) e, congrArg (fun z : AlF => z.1.2.2) e⟩, congrArg (fun z : AlF => z.2) e⟩
  keeps := fun _ _ _ ⟨K, hK, c⟩ k => ⟨K, Frag.In.keeps hK k, c⟩
theorem obsF_eq {n : Nat} {fa : List He.Fa} {fn : List He.DefD} {exs : List ExD} {ex : Frag → Bool} {ts : List He.Tab} {g : Addr → Option Obj} {s : Shared} (h : ∀ a, g a = s.heap.get? a) : obsF fa fn exs ex ts (frE g n) = (hookF n fa fn exs ex ts).obs s := by
  have e : g = s.heap.get? := funext h
  rw [e] <;> rfl
section
variable {fa : List He.Fa} {fn : List He.DefD} {exs : List ExD} {ex : Frag → Bool} {ts : List He.Tab} {w : World} {K : Frag} {h : Heap} {mg : Str → Option Value}
theorem SaysF.tab (c : SaysF fa fn exs ex ts w K) (i : Nat) {t : He.Tab} (h : ts[i]? = some t := by rfl) : He.dicW K (t.1 K) = some (He.keysIn w.params t.2) := by
  have e2 : (ts.map fun t => He.dicW K (t.1 K))[i]? = (ts.map fun t => some (He.keysIn w.params t.2))[i]? := by rw [c.t]
  rw [List.getElem?_map, List.getElem?_map, h] at e2
  exact Option.some.inj e2
theorem kdct_of {a : Addr} {ks : List Str} {kvs : List (Str × He.Dv)} (h : He.dicW K a = some (He.keysIn w.params ks)) (hv : He.valsB K a kvs = true) {q : Str × He.Dv} (hq : q ∈ kvs) : KDct K w a q.1 (q.2.v K) := by
  obtain ⟨es, n, hk⟩ := He.dicW_ok h
  obtain ⟨u, h1, h2⟩ := He.valsB_ok hv hq
  exact ⟨es, n, u, hk.at_, hk.lit, h1, h2⟩
theorem kkeys_of {a : Addr} {P : Params} {ks : List Str} (h : He.dicW K a = some (He.keysIn P ks)) : KKeys K a ks := by
  unfold He.dicW at h
  split at h
  · rename_i c es n sl hl
    split at h
    · rename_i hb
      obtain ⟨b1, b2⟩ := He.ba hb
      obtain ⟨b3, b4⟩ := He.ba b2
      have b1 := of_decide_eq_true b1
      subst b1
      have b3 : sl = #[] := Array.isEmpty_iff.mp b3
      subst b3
      have h := Option.some.inj h
      have hlen : es.size = ks.length := by
        have := congrArg List.length h
        rw [List.length_map] at this
        unfold He.keysIn at this
        rw [List.length_map] at this
        exact this
      refine ⟨by simpa using b4, es, n, hl, hlen, fun i z hz => ?_⟩
      have hi : i < es.size := by rw [hlen]; exact (List.getElem?_eq_some_iff.mp hz).1
      have e1 : (es.toList.map He.keyOf)[i]? = (He.keysIn P ks)[i]? := by rw [h]
      unfold He.keysIn at e1
      rw [List.getElem?_map, List.getElem?_map, hz, Array.getElem?_toList, Array.getElem?_eq_getElem hi] at e1
      have e2 : He.keyOf es[i] = some (z, PyData.keyHash P z) := Option.some.inj e1
      unfold He.keyOf at e2
      split at e2
      · rename_i x t q
        have := Option.some.inj e2
        have e3 : x = z := congrArg Prod.fst this
        exact ⟨es[i], t, Array.getElem?_eq_getElem hi, by rw [q, e3]⟩
      · cases e2
    · cases h
  · cases h
/-- a method as the head tells it -/
def mfn (C m : Str) (st : Stmt) : He.DefD := ⟨(C, some m), m, C ++ ("." : Str) ++ m, defArgs st, defBody st, defScope st, [], []⟩
theorem metAt_of (c : He.SaysD fa fn K) (i j k : Nat) {x m q : Str} {st : Stmt} (hq : x ++ ("." : Str) ++ m = q) (hd : fn[i]? = some (mfn x m st) := by rfl) (hf : fa[j]? = some (.meth x m) := by rfl) (hc : fa[k]? = some (.cls x) := by rfl) : MetAt K (He.ga K x) m q st := by
  subst hq
  obtain ⟨fd, F⟩ := c.def_ i hd
  exact ⟨_, fd, He.cls_ok (c.fact k hc), He.meth_ok (c.fact j hf), F⟩
theorem makAt_of (X : K.In h) (G : h.Ns mainGlobals mg) (c : He.SaysD fa fn K) (i j k : Nat) {x q : Str} {st : Stmt} (hq : x ++ ("." : Str) ++ ("__init__" : Str) = q) (hd : fn[i]? = some (mfn x "__init__" st) := by rfl) (hf : fa[j]? = some (.mkr x) := by rfl) (hc : fa[k]? = some (.glo x) := by rfl) : MakAt K mg x q (He.ga K x) st := by
  subst hq
  obtain ⟨fd, F⟩ := c.def_ i hd
  exact ⟨_, fd, He.glo_ok X G (c.fact k hc), He.mkr_ok (c.fact j hf), F⟩
end
end Al
namespace Al
open PySem PySem.Spec PyProof.Rows L2 NdefX PySem.W
abbrev R : OpenRow := OpenLaw.row PySem.Challenge.rw_alnage_k01_programs_read_back
abbrev sIMalformed : Stmt := inClass (top 2) 0
def xdMalformed : ExD := ⟨"Malformed", "Malformed.__init__", sIMalformed, ["at"]⟩
abbrev sIOversized : Stmt := inClass (top 3) 0
def xdOversized : ExD := ⟨"Oversized", "Oversized.__init__", sIOversized, ["limit"]⟩
def exs : List ExD := [xdMalformed, xdOversized]
def fns : List He.DefD := [dfn "is_letter" (top 9), dfn "is_digit" (top 10), dfn "in_name" (top 11), dfn "run_end" (top 12), dfn "digits_end" (top 13), dfn "comment_end" (top 14), dfn "read_word" (top 15), dfn "read_number" (top 16), dfn "read_sign" (top 17), dfn "tokens" (top 18), dfn "read_power" (top 26), dfn "read_product" (top 27), dfn "read_call" (top 28), dfn "read_primary" (top 29), dfn "read_powers" (top 30), dfn "read_factors" (top 31), dfn "read_terms" (top 32), dfn "read_plain" (top 33), dfn "read_both" (top 34), dfn "read_expression" (top 35), dfn "read_parameters" (top 36), dfn "read_line" (top 37), dfn "parse" (top 38), dfn "_law_cell" (top 40), dfn "_law_numbers" (top 41), dfn "_law_feed" (top 42), dfn "_law_take" (top 43), dfn "_law_drawn" (top 44), dfn "_law_brackets" (top 45), dfn "_law_line" (top 46), dfn "_law_number" (top 47), dfn "_law_units" (top 48), dfn "_law_text" (top 49), dfn "_law_shown" (top 50), dfn "_law_bare" (top 51), dfn "_law_marks" (top 52), dfn "_law_read" (top 53), dfn "law" (top 54), mfn "Reader" "__init__" (inClass (top 25) 0), mfn "Reader" "at" (inClass (top 25) 1), mfn "Reader" "sees" (inClass (top 25) 2), mfn "Reader" "sees_kind" (inClass (top 25) 3), mfn "Reader" "accept" (inClass (top 25) 4), mfn "Reader" "expect" (inClass (top 25) 5), mfn "Reader" "read" (inClass (top 25) 6), mfn "Reader" "whole" (inClass (top 25) 7), mfn "Reader" "deeper" (inClass (top 25) 8)]
def fas : List He.Fa := ([.free "len", .free "str", .free "int", .free "abs", .free "min", .free "max", .free "range", .free "repr", .free "isinstance", .free "dict", .free "list", .free "tuple", .free "sorted", .free "any", .free "all", .free "sum", .free "reversed", .free "super", .free "bool", .glo "is_letter", .glo "is_digit", .glo "in_name", .glo "run_end", .glo "digits_end", .glo "comment_end", .glo "read_word", .glo "read_number", .glo "read_sign", .glo "tokens", .glo "read_power", .glo "read_product", .glo "read_call", .glo "read_primary", .glo "read_powers", .glo "read_factors", .glo "read_terms", .glo "read_plain", .glo "read_both", .glo "read_expression", .glo "read_parameters"] : List He.Fa) ++ ([.glo "read_line", .glo "parse", .glo "_law_cell", .glo "_law_numbers", .glo "_law_feed", .glo "_law_take", .glo "_law_drawn", .glo "_law_brackets", .glo "_law_line", .glo "_law_number", .glo "_law_units", .glo "_law_text", .glo "_law_shown", .glo "_law_bare", .glo "_law_marks", .glo "_law_read", .glo "law", .glo "RESERVED", .glo "SIGNS", .int "MAX_TEXT" 12000, .int "MAX_NAME" 16, .int "MAX_DEPTH" 24, .int "MAX_POWER" 9, .exm "Malformed" "Malformed" true, .exm "Oversized" "Oversized" true, .exm "Oversized" "Malformed" false, .glo "Reader", .cls "Reader", .mkr "Reader", .noat "Reader" "rest", .noat "Reader" "place", .noat "Reader" "limit", .meth "Reader" "at", .meth "Reader" "sees", .meth "Reader" "sees_kind", .meth "Reader" "accept", .meth "Reader" "expect", .meth "Reader" "read", .meth "Reader" "whole", .meth "Reader" "deeper"] : List He.Fa) ++ ([.glo "SUMS", .glo "PRODUCTS", .glo "COMPARISONS"] : List He.Fa)
def dSUMS : List (Str × He.Dv) := [("+", .str "add"), ("-", .str "sub")]
def dPRODUCTS : List (Str × He.Dv) := [("*", .str "mul"), ("/", .str "div")]
def dCOMPARISONS : List (Str × He.Dv) := [("<", .str "lt"), ("<=", .str "le"), ("==", .str "eq")]
def tabs : List He.Tab := [(fun K => He.ga K "SUMS", ["+", "-"]), (fun K => He.ga K "PRODUCTS", ["*", "/"]), (fun K => He.ga K "COMPARISONS", ["<", "<=", "=="])]
def exFacts (K : Frag) : Bool := exs.all (exB R.prog.main.file K) && He.tupB K "RESERVED" (RES.map He.Dv.str) && He.tupB K "SIGNS" (SIG.map He.Dv.str) && He.valsB K (He.ga K "SUMS") dSUMS && He.valsB K (He.ga K "PRODUCTS") dPRODUCTS && He.valsB K (He.ga K "COMPARISONS") dCOMPARISONS
abbrev hk : Hook := hookF 6 fas fns exs exFacts tabs
def ob (s : SharedT) : AlF := obsF fas fns exs exFacts tabs (frE (HandSHeadRun.getT s) 6)
theorem ob_eq (s : SharedT) : ob s = hk.obs s.abs := obsF_eq (HandSHeadRun.getT_eq s)
def loose : List Str := (["__name__", "Refused", "Malformed", "Oversized", "MAX_TEXT", "MAX_NAME", "RESERVED", "SIGNS", "is_letter", "is_digit", "in_name", "run_end", "digits_end", "comment_end", "read_word", "read_number", "read_sign", "tokens", "MAX_DEPTH", "MAX_POWER"] : List Str) ++ (["SUMS", "PRODUCTS", "COMPARISONS", "Reader", "read_power", "read_product", "read_call", "read_primary", "read_powers", "read_factors", "read_terms", "read_plain", "read_both", "read_expression", "read_parameters", "read_line", "parse", "_law_cell", "_law_numbers", "_law_feed"] : List Str) ++ (["_law_take", "_law_drawn", "_law_brackets", "_law_line", "_law_number", "_law_units", "_law_text", "_law_shown", "_law_bare", "_law_marks", "_law_read"] : List Str)
theorem top_run (w : World) : HandSHeadRun.RunEq R (view R.prog [54]) hk ob 8000 loose w :=
  byRow2 "special-get-raises" (P := fun w => HandSHeadRun.RunEq R (view R.prog [54]) hk ob 8000 loose w) (fun w => by intro os; kernel_rfl) (fun w => by intro os; kernel_rfl) w
section
variable {P : Program} {w : World} {K : Frag} {mg : Str → Option Value} {base h : Heap}
theorem bl_of (X : K.In h) (G : h.Ns mainGlobals mg) (c : He.SaysD fas fns K) : Bl mg :=
  ⟨He.free_ok X G (c.fact 0 (f := .free "len") rfl), He.free_ok X G (c.fact 1 (f := .free "str") rfl), He.free_ok X G (c.fact 2 (f := .free "int") rfl), He.free_ok X G (c.fact 3 (f := .free "abs") rfl), He.free_ok X G (c.fact 4 (f := .free "min") rfl), He.free_ok X G (c.fact 5 (f := .free "max") rfl), He.free_ok X G (c.fact 6 (f := .free "range") rfl), He.free_ok X G (c.fact 7 (f := .free "repr") rfl), He.free_ok X G (c.fact 8 (f := .free "isinstance") rfl), He.free_ok X G (c.fact 9 (f := .free "dict") rfl), He.free_ok X G (c.fact 10 (f := .free "list") rfl), He.free_ok X G (c.fact 11 (f := .free "tuple") rfl), He.free_ok X G (c.fact 12 (f := .free "sorted") rfl), He.free_ok X G (c.fact 13 (f := .free "any") rfl), He.free_ok X G (c.fact 14 (f := .free "all") rfl), He.free_ok X G (c.fact 15 (f := .free "sum") rfl), He.free_ok X G (c.fact 16 (f := .free "reversed") rfl), He.free_ok X G (c.fact 17 (f := .free "super") rfl), He.free_ok X G (c.fact 18 (f := .free "bool") rfl)⟩
theorem at_is_letter (X : K.In h) (G : h.Ns mainGlobals mg) (c : He.SaysD fas fns K) : DefAt K mg "is_letter" (top 9) := defAt_of X G c 0 19
theorem at_is_digit (X : K.In h) (G : h.Ns mainGlobals mg) (c : He.SaysD fas fns K) : DefAt K mg "is_digit" (top 10) := defAt_of X G c 1 20
theorem at_in_name (X : K.In h) (G : h.Ns mainGlobals mg) (c : He.SaysD fas fns K) : DefAt K mg "in_name" (top 11) := defAt_of X G c 2 21
theorem at_run_end (X : K.In h) (G : h.Ns mainGlobals mg) (c : He.SaysD fas fns K) : DefAt K mg "run_end" (top 12) := defAt_of X G c 3 22
theorem at_digits_end (X : K.In h) (G : h.Ns mainGlobals mg) (c : He.SaysD fas fns K) : DefAt K mg "digits_end" (top 13) := defAt_of X G c 4 23
theorem at_comment_end (X : K.In h) (G : h.Ns mainGlobals mg) (c : He.SaysD fas fns K) : DefAt K mg "comment_end" (top 14) := defAt_of X G c 5 24
theorem at_read_word (X : K.In h) (G : h.Ns mainGlobals mg) (c : He.SaysD fas fns K) : DefAt K mg "read_word" (top 15) := defAt_of X G c 6 25
theorem at_read_number (X : K.In h) (G : h.Ns mainGlobals mg) (c : He.SaysD fas fns K) : DefAt K mg "read_number" (top 16) := defAt_of X G c 7 26
theorem at_read_sign (X : K.In h) (G : h.Ns mainGlobals mg) (c : He.SaysD fas fns K) : DefAt K mg "read_sign" (top 17) := defAt_of X G c 8 27
theorem at_tokens (X : K.In h) (G : h.Ns mainGlobals mg) (c : He.SaysD fas fns K) : DefAt K mg "tokens" (top 18) := defAt_of X G c 9 28
theorem at_read_power (X : K.In h) (G : h.Ns mainGlobals mg) (c : He.SaysD fas fns K) : DefAt K mg "read_power" (top 26) := defAt_of X G c 10 29
theorem at_read_product (X : K.In h) (G : h.Ns mainGlobals mg) (c : He.SaysD fas fns K) : DefAt K mg "read_product" (top 27) := defAt_of X G c 11 30
theorem at_read_call (X : K.In h) (G : h.Ns mainGlobals mg) (c : He.SaysD fas fns K) : DefAt K mg "read_call" (top 28) := defAt_of X G c 12 31
theorem at_read_primary (X : K.In h) (G : h.Ns mainGlobals mg) (c : He.SaysD fas fns K) : DefAt K mg "read_primary" (top 29) := defAt_of X G c 13 32
theorem at_read_powers (X : K.In h) (G : h.Ns mainGlobals mg) (c : He.SaysD fas fns K) : DefAt K mg "read_powers" (top 30) := defAt_of X G c 14 33
theorem at_read_factors (X : K.In h) (G : h.Ns mainGlobals mg) (c : He.SaysD fas fns K) : DefAt K mg "read_factors" (top 31) := defAt_of X G c 15 34
theorem at_read_terms (X : K.In h) (G : h.Ns mainGlobals mg) (c : He.SaysD fas fns K) : DefAt K mg "read_terms" (top 32) := defAt_of X G c 16 35
theorem at_read_plain (X : K.In h) (G : h.Ns mainGlobals mg) (c : He.SaysD fas fns K) : DefAt K mg "read_plain" (top 33) := defAt_of X G c 17 36
theorem at_read_both (X : K.In h) (G : h.Ns mainGlobals mg) (c : He.SaysD fas fns K) : DefAt K mg "read_both" (top 34) := defAt_of X G c 18 37
theorem at_read_expression (X : K.In h) (G : h.Ns mainGlobals mg) (c : He.SaysD fas fns K) : DefAt K mg "read_expression" (top 35) := defAt_of X G c 19 38
theorem at_read_parameters (X : K.In h) (G : h.Ns mainGlobals mg) (c : He.SaysD fas fns K) : DefAt K mg "read_parameters" (top 36) := defAt_of X G c 20 39
theorem at_read_line (X : K.In h) (G : h.Ns mainGlobals mg) (c : He.SaysD fas fns K) : DefAt K mg "read_line" (top 37) := defAt_of X G c 21 40
theorem at_parse (X : K.In h) (G : h.Ns mainGlobals mg) (c : He.SaysD fas fns K) : DefAt K mg "parse" (top 38) := defAt_of X G c 22 41
theorem at_law_cell (X : K.In h) (G : h.Ns mainGlobals mg) (c : He.SaysD fas fns K) : DefAt K mg "_law_cell" (top 40) := defAt_of X G c 23 42
theorem at_law_numbers (X : K.In h) (G : h.Ns mainGlobals mg) (c : He.SaysD fas fns K) : DefAt K mg "_law_numbers" (top 41) := defAt_of X G c 24 43
theorem at_law_feed (X : K.In h) (G : h.Ns mainGlobals mg) (c : He.SaysD fas fns K) : DefAt K mg "_law_feed" (top 42) := defAt_of X G c 25 44
theorem at_law_take (X : K.In h) (G : h.Ns mainGlobals mg) (c : He.SaysD fas fns K) : DefAt K mg "_law_take" (top 43) := defAt_of X G c 26 45
theorem at_law_drawn (X : K.In h) (G : h.Ns mainGlobals mg) (c : He.SaysD fas fns K) : DefAt K mg "_law_drawn" (top 44) := defAt_of X G c 27 46
theorem at_law_brackets (X : K.In h) (G : h.Ns mainGlobals mg) (c : He.SaysD fas fns K) : DefAt K mg "_law_brackets" (top 45) := defAt_of X G c 28 47
theorem at_law_line (X : K.In h) (G : h.Ns mainGlobals mg) (c : He.SaysD fas fns K) : DefAt K mg "_law_line" (top 46) := defAt_of X G c 29 48
theorem at_law_number (X : K.In h) (G : h.Ns mainGlobals mg) (c : He.SaysD fas fns K) : DefAt K mg "_law_number" (top 47) := defAt_of X G c 30 49
theorem at_law_units (X : K.In h) (G : h.Ns mainGlobals mg) (c : He.SaysD fas fns K) : DefAt K mg "_law_units" (top 48) := defAt_of X G c 31 50
theorem at_law_text (X : K.In h) (G : h.Ns mainGlobals mg) (c : He.SaysD fas fns K) : DefAt K mg "_law_text" (top 49) := defAt_of X G c 32 51
theorem at_law_shown (X : K.In h) (G : h.Ns mainGlobals mg) (c : He.SaysD fas fns K) : DefAt K mg "_law_shown" (top 50) := defAt_of X G c 33 52
theorem at_law_bare (X : K.In h) (G : h.Ns mainGlobals mg) (c : He.SaysD fas fns K) : DefAt K mg "_law_bare" (top 51) := defAt_of X G c 34 53
theorem at_law_marks (X : K.In h) (G : h.Ns mainGlobals mg) (c : He.SaysD fas fns K) : DefAt K mg "_law_marks" (top 52) := defAt_of X G c 35 54
theorem at_law_read (X : K.In h) (G : h.Ns mainGlobals mg) (c : He.SaysD fas fns K) : DefAt K mg "_law_read" (top 53) := defAt_of X G c 36 55
theorem at_law (X : K.In h) (G : h.Ns mainGlobals mg) (c : He.SaysD fas fns K) : DefAt K mg "law" (top 54) := defAt_of X G c 37 56
theorem int_MAX_TEXT (X : K.In h) (G : h.Ns mainGlobals mg) (c : He.SaysD fas fns K) : ∃ t, mg "MAX_TEXT" = some (.int 12000 t) := He.int_ok X G (c.fact 59 (f := .int "MAX_TEXT" 12000) rfl)
theorem int_MAX_NAME (X : K.In h) (G : h.Ns mainGlobals mg) (c : He.SaysD fas fns K) : ∃ t, mg "MAX_NAME" = some (.int 16 t) := He.int_ok X G (c.fact 60 (f := .int "MAX_NAME" 16) rfl)
theorem int_MAX_DEPTH (X : K.In h) (G : h.Ns mainGlobals mg) (c : He.SaysD fas fns K) : ∃ t, mg "MAX_DEPTH" = some (.int 24 t) := He.int_ok X G (c.fact 61 (f := .int "MAX_DEPTH" 24) rfl)
theorem int_MAX_POWER (X : K.In h) (G : h.Ns mainGlobals mg) (c : He.SaysD fas fns K) : ∃ t, mg "MAX_POWER" = some (.int 9 t) := He.int_ok X G (c.fact 62 (f := .int "MAX_POWER" 9) rfl)
theorem glo_RESERVED (X : K.In h) (G : h.Ns mainGlobals mg) (c : He.SaysD fas fns K) : mg "RESERVED" = some (.ref (He.ga K "RESERVED")) := He.glo_ok X G (c.fact 57 (f := .glo "RESERVED") rfl)
theorem glo_SIGNS (X : K.In h) (G : h.Ns mainGlobals mg) (c : He.SaysD fas fns K) : mg "SIGNS" = some (.ref (He.ga K "SIGNS")) := He.glo_ok X G (c.fact 58 (f := .glo "SIGNS") rfl)
theorem exm_Malformed (c : He.SaysD fas fns K) : exmOne K (.ref (He.ga K "Malformed")) (.ref (He.ga K "Malformed")) = some true := He.exm_ok (c.fact 63 (f := .exm "Malformed" "Malformed" true) rfl)
theorem exm_Oversized (c : He.SaysD fas fns K) : exmOne K (.ref (He.ga K "Oversized")) (.ref (He.ga K "Oversized")) = some true := He.exm_ok (c.fact 64 (f := .exm "Oversized" "Oversized" true) rfl)
theorem exm2_Oversized_Malformed (c : He.SaysD fas fns K) : exmOne K (.ref (He.ga K "Oversized")) (.ref (He.ga K "Malformed")) = some false := He.exm_ok (c.fact 65 (f := .exm "Oversized" "Malformed" false) rfl)
theorem glo_law (X : K.In h) (G : h.Ns mainGlobals mg) (c : He.SaysD fas fns K) : mg "law" = some (.ref (He.ga K "law")) := He.glo_ok X G (c.fact 56 (f := .glo "law") rfl)
theorem fn_law (c : He.SaysD fas fns K) : ∃ fd, FnP K "law" (top 54) (He.ga K "law") fd := c.def_ 37 (d := dfn "law" (top 54)) rfl
theorem cls_Reader (c : He.SaysD fas fns K) : Cls K (He.ga K "Reader") := He.cls_ok (c.fact 67 (f := .cls "Reader") rfl)
theorem noat_Reader_rest (c : He.SaysD fas fns K) : NoAttr K (He.ga K "Reader") "rest" := He.noat_ok (c.fact 69 (f := .noat "Reader" "rest") rfl)
theorem noat_Reader_place (c : He.SaysD fas fns K) : NoAttr K (He.ga K "Reader") "place" := He.noat_ok (c.fact 70 (f := .noat "Reader" "place") rfl)
theorem noat_Reader_limit (c : He.SaysD fas fns K) : NoAttr K (He.ga K "Reader") "limit" := He.noat_ok (c.fact 71 (f := .noat "Reader" "limit") rfl)
theorem mak_at_Reader (X : K.In h) (G : h.Ns mainGlobals mg) (c : He.SaysD fas fns K) : MakAt K mg "Reader" "Reader.__init__" (He.ga K "Reader") (inClass (top 25) 0) := makAt_of X G c 38 68 66 (by decide +kernel)
theorem met_at_Reader_at (c : He.SaysD fas fns K) : MetAt K (He.ga K "Reader") "at" "Reader.at" (inClass (top 25) 1) := metAt_of c 39 72 67 (by decide +kernel)
theorem met_at_Reader_sees (c : He.SaysD fas fns K) : MetAt K (He.ga K "Reader") "sees" "Reader.sees" (inClass (top 25) 2) := metAt_of c 40 73 67 (by decide +kernel)
theorem met_at_Reader_sees_kind (c : He.SaysD fas fns K) : MetAt K (He.ga K "Reader") "sees_kind" "Reader.sees_kind" (inClass (top 25) 3) := metAt_of c 41 74 67 (by decide +kernel)
theorem met_at_Reader_accept (c : He.SaysD fas fns K) : MetAt K (He.ga K "Reader") "accept" "Reader.accept" (inClass (top 25) 4) := metAt_of c 42 75 67 (by decide +kernel)
theorem met_at_Reader_expect (c : He.SaysD fas fns K) : MetAt K (He.ga K "Reader") "expect" "Reader.expect" (inClass (top 25) 5) := metAt_of c 43 76 67 (by decide +kernel)
theorem met_at_Reader_read (c : He.SaysD fas fns K) : MetAt K (He.ga K "Reader") "read" "Reader.read" (inClass (top 25) 6) := metAt_of c 44 77 67 (by decide +kernel)
theorem met_at_Reader_whole (c : He.SaysD fas fns K) : MetAt K (He.ga K "Reader") "whole" "Reader.whole" (inClass (top 25) 7) := metAt_of c 45 78 67 (by decide +kernel)
theorem met_at_Reader_deeper (c : He.SaysD fas fns K) : MetAt K (He.ga K "Reader") "deeper" "Reader.deeper" (inClass (top 25) 8) := metAt_of c 46 79 67 (by decide +kernel)
theorem glo_SUMS (X : K.In h) (G : h.Ns mainGlobals mg) (c : He.SaysD fas fns K) : mg "SUMS" = some (.ref (He.ga K "SUMS")) := He.glo_ok X G (c.fact 80 (f := .glo "SUMS") rfl)
theorem glo_PRODUCTS (X : K.In h) (G : h.Ns mainGlobals mg) (c : He.SaysD fas fns K) : mg "PRODUCTS" = some (.ref (He.ga K "PRODUCTS")) := He.glo_ok X G (c.fact 81 (f := .glo "PRODUCTS") rfl)
theorem glo_COMPARISONS (X : K.In h) (G : h.Ns mainGlobals mg) (c : He.SaysD fas fns K) : mg "COMPARISONS" = some (.ref (He.ga K "COMPARISONS")) := He.glo_ok X G (c.fact 82 (f := .glo "COMPARISONS") rfl)
end
end Al
namespace Al
open PySem PySem.Spec PyProof.Rows L2 NdefX PySem.W
/-! ### the reader in the heap -/
def restS : Str := "rest"
structure RSame (r : Addr) (H H' : Hp) : Prop where
  get : ∀ b o, b ≠ r → H b = some o → H' b = some o
  ins : ∀ C dx fs, H r = some (.ins C dx fs) → ∃ fs', H' r = some (.ins C dx fs') ∧ fs'.lookup restS = fs.lookup restS
theorem RSame.refl {r : Addr} {H : Hp} : RSame r H H := ⟨fun _ _ _ h => h, fun _ _ fs h => ⟨fs, h, rfl⟩⟩
theorem RSame.trans {r : Addr} {H H' H'' : Hp} (a : RSame r H H') (b : RSame r H' H'') : RSame r H H'' := ⟨fun c o hc h => b.get c o hc (a.get c o hc h), fun C dx fs h => by
  obtain ⟨fs', h1, h2⟩ := a.ins C dx fs h
  obtain ⟨fs'', h3, h4⟩ := b.ins C dx fs' h1
  exact ⟨fs'', h3, h4.trans h2⟩⟩
theorem RSame.same {r : Addr} {H H' : Hp} (s : Same H H') : RSame r H H' := ⟨fun b o _ h => s b o h, fun C dx fs h => ⟨fs, s _ _ h, rfl⟩⟩
theorem RSame.upd {r C dx : Addr} {H H' : Hp} {fs fs' : List (Str × V)} (s : RSame r H H') (h : H' r = some (.ins C dx fs)) (hl : fs'.lookup restS = fs.lookup restS) : RSame r H (L2.upd H' r (.ins C dx fs')) :=
  s.trans ⟨fun b u hb h => (upd_ne hb).trans h, fun C1 dx1 fs1 h1 => by
    rw [h] at h1
    cases h1
    exact ⟨fs', upd_same, hl⟩⟩
theorem RSame.new {r p : Addr} {H H' : Hp} {o : HO} (s : RSame r H H') (hp : H' p = none) : RSame r H (L2.upd H' p o) := s.trans (.same (Same.new hp))
theorem RSame.fresh {C r dx q : Addr} {fs : List (Str × V)} {H H' : Hp} (s : RSame r H H') (hi : H' r = some (.ins C dx fs)) (h : H' q = none) : H q = none ∧ q ≠ r := by
  have h1 : q ≠ r := fun e => by rw [e, hi] at h; cases h
  refine ⟨?_, h1⟩
  cases e : H q with
  | none => rfl
  | some o => rw [s.get q o h1 e] at h; cases h
/-- an object that was not there at the beginning is changed -/
theorem RSame.mut {r q : Addr} {H H' : Hp} {o : HO} (s : RSame r H H') (h : H q = none) (hq : q ≠ r) : RSame r H (L2.upd H' q o) := ⟨fun b u hb h1 => (upd_ne (ne_of_none h1 h)).trans (s.get b u hb h1), fun C dx fs h1 => by
  obtain ⟨fs', h2, h3⟩ := s.ins C dx fs h1
  exact ⟨fs', (upd_ne (Ne.symm hq)).trans h2, h3⟩⟩
abbrev rfs (l : Addr) (p L : Nat) : List (Str × V) := [("rest", .ref l), ("place", .int (p : Int)), ("limit", .int (L : Int))]
theorem putF_place (l : Addr) (p L : Nat) : putF "place" (V.int ((p : Int) + 1)) (rfs l p L) = rfs l (p + 1) L := rfl
structure Rdr (C : Addr) (H : Hp) (r : Addr) (L : Nat) (ts : TS1) : Prop where
  ex : ∃ (T : TS1) (dx l : Addr) (p : Nat) (vs : List V), ts = T.drop p ∧ p ≤ T.length ∧ H r = some (.ins C dx [("rest", .ref l), ("place", .int (p : Int)), ("limit", .int (L : Int))]) ∧ H l = some (.lst vs) ∧ TpAll H vs (T.map tokD) ∧
    T.length ≤ 20000 ∧ (∀ t ∈ T, t.2 ≤ 20000) ∧ L ≤ 20000
theorem RSame.keep {C r dx : Addr} {fs : List (Str × V)} {H H' : Hp} (s : RSame r H H') (h : H r = some (.ins C dx fs)) : Keep H H' := fun a xs ha => s.get a _ (fun e => by rw [e, h] at ha; cases ha) ha
theorem Rdr.keep {C r : Addr} {L : Nat} {ts : TS1} {H H' : Hp} (R : Rdr C H r L ts) (s : RSame r H H') : Keep H H' := by
  obtain ⟨T, dx, l, p, vs, _, _, h, _⟩ := R.ex
  exact s.keep h
theorem Rdr.same {C r : Addr} {L : Nat} {ts : TS1} {H H' : Hp} (R : Rdr C H r L ts) (s : Same H H') : Rdr C H' r L ts := by
  obtain ⟨T, dx, l, p, vs, h1, h2, h3, h4, h5, h6⟩ := R.ex
  exact ⟨T, dx, l, p, vs, h1, h2, s _ _ h3, s _ _ h4, h5.keep (RSame.keep (RSame.same s) h3), h6⟩
theorem Rdr.ins {C r : Addr} {L : Nat} {ts : TS1} {H : Hp} (R : Rdr C H r L ts) : ∃ dx fs, H r = some (.ins C dx fs) := by
  obtain ⟨T, dx, l, p, vs, _, _, h, _⟩ := R.ex
  exact ⟨_, _, h⟩
theorem Rdr.len {C r : Addr} {L : Nat} {ts : TS1} {H : Hp} (R : Rdr C H r L ts) : ts.length ≤ 20000 := by
  obtain ⟨T, dx, l, p, vs, rfl, h2, h3, h4, h5, h6, _⟩ := R.ex
  rw [List.length_drop]; omega
theorem Rdr.atb {C r : Addr} {L : Nat} {ts : TS1} {H : Hp} (R : Rdr C H r L ts) : atP L ts ≤ 20000 := by
  obtain ⟨T, dx, l, p, vs, rfl, h2, h3, h4, h5, h6, h7, h8⟩ := R.ex
  unfold atP
  cases h : T.drop p with
  | nil => exact h8
  | cons t r => exact h7 t (List.mem_of_mem_drop (by rw [h]; exact List.mem_cons_self))
/-- a list that came later is changed -/
theorem Rdr.mut {C r q : Addr} {L L1 : Nat} {ts ts1 : TS1} {H1 H : Hp} {us us' : List V} (R1 : Rdr C H1 r L1 ts1) (h1 : H1 q = none) (s : RSame r H1 H) (R : Rdr C H r L ts) (hq : H q = some (.lst us)) : Rdr C (L2.upd H q (.lst us')) r L ts := by
  obtain ⟨T1, dx1, l1, p1, vs1, _, _, a3, a4, _⟩ := R1.ex
  obtain ⟨T, dx, l, p, vs, b1, b2, b3, b4, b5, b6⟩ := R.ex
  have hqr : r ≠ q := fun e => by rw [← e, b3] at hq; cases hq
  have hl : l ≠ q := by
    obtain ⟨fs', c1, c2⟩ := s.ins _ _ _ a3
    rw [b3] at c1
    cases c1
    have e : some (V.ref l) = some (V.ref l1) := c2
    cases e
    exact ne_of_none a4 h1
  exact ⟨T, dx, l, p, vs, b1, b2, (upd_ne hqr).trans b3, (upd_ne hl).trans b4, b5.keep (Keep.mut hq fun xs z => nomatch z), b6⟩
/-- the place one further -/
theorem Rdr.next {C r dx l : Addr} {L p : Nat} {T : TS1} {vs : List V} {H : Hp} (h1 : p < T.length) (h3 : H r = some (.ins C dx [("rest", .ref l), ("place", .int (p : Int)), ("limit", .int (L : Int))])) (h4 : H l = some (.lst vs)) (h5 : TpAll H vs (T.map tokD))
    (h6 : T.length ≤ 20000 ∧ (∀ t ∈ T, t.2 ≤ 20000) ∧ L ≤ 20000) : Rdr C (L2.upd H r (.ins C dx [("rest", .ref l), ("place", .int ((p + 1 : Nat) : Int)), ("limit", .int (L : Int))])) r L (T.drop p).tail := by
  refine ⟨T, dx, l, p + 1, vs, by rw [List.tail_drop], h1, upd_same, ?_, h5.keep (RSame.keep (RSame.upd RSame.refl h3 (fs' := rfs l (p + 1) L) rfl) h3), h6⟩
  rw [upd_ne (fun e => by rw [e, h3] at h4; cases h4)]
  exact h4
/-! ### promises -/
structure RC (K : Frag) (C : Addr) : Prop where
  cls : Cls K C
  na : ∀ f ∈ (["rest", "place", "limit"] : List Str), NoAttr K C f
structure ParC (K : Frag) (w : World) (mg : Str → Option Value) : Prop where
  gMD : ∃ t, mg "MAX_DEPTH" = some (.int 24 t)
  gMP : ∃ t, mg "MAX_POWER" = some (.int 9 t)
  sums : ∃ a, mg "SUMS" = some (.ref a) ∧ KDct K w a "+" (.str "add") ∧ KDct K w a "-" (.str "sub")
  pro : ∃ a, mg "PRODUCTS" = some (.ref a) ∧ KDct K w a "*" (.str "mul") ∧ KDct K w a "/" (.str "div")
  cmp : ∃ a, mg "COMPARISONS" = some (.ref a) ∧ KKeys K a (cmps.map (·.1)) ∧ ∀ q ∈ cmps, KDct K w a q.1 (.str q.2)
section
variable (C DM DO : Addr)
def Fin (r : Addr) (H0 : Hp) (E : XK) (e : PErr) : Prop := match e with
  | .mal i => ∀ d H', RSame r H0 H' → H' d = some (.xd [("at", .int (i : Int))]) → E (.ref DM) (some d) H'
  | .over => ∀ d H', RSame r H0 H' → H' d = some (.xd [("limit", .str "depth")]) → E (.ref DO) (some d) H'
structure Res {α : Type} (r : Addr) (L : Nat) (H0 : Hp) (ts : TS1) (E : XK) (o : Except PErr (α × TS1)) (G : α → V → Hp → Prop) (Q : VK) : Prop where
  err : ∀ e, o = .error e → Fin DM DO r H0 E e
  ok : ∀ a ts', o = .ok (a, ts') → ∀ v H', RSame r H0 H' → Rdr C H' r L ts' → ts'.length ≤ ts.length → G a v H' → Q v H'
def spAt : Sp := fun vs H Q _ => ∃ r L ts, vs = [.ref r] ∧ Rdr C H r L ts ∧ Q (.int (atP L ts : Int)) H
def spSees : Sp := fun vs H Q _ => ∃ r L ts k v, vs = [.ref r, .str k, .str v] ∧ k ≠ "number" ∧ Rdr C H r L ts ∧ Q (.bl (seesB ts k v)) H
def spKind : Sp := fun vs H Q _ => ∃ r L ts k, vs = [.ref r, .str k] ∧ Rdr C H r L ts ∧ Q (.bl (kindB ts k)) H
def spAcc : Sp := fun vs H Q _ => ∃ r L ts k v, vs = [.ref r, .str k, .str v] ∧ k ≠ "number" ∧ Rdr C H r L ts ∧
  (seesB ts k v = true → ∀ H', RSame r H H' → Rdr C H' r L ts.tail → Q (.bl true) H') ∧ (seesB ts k v = false → Q (.bl false) H)
def spExp : Sp := fun vs H Q E => ∃ r L ts k v, vs = [.ref r, .str k, .str v] ∧ k ≠ "number" ∧ Rdr C H r L ts ∧
  (seesB ts k v = true → ∀ H', RSame r H H' → Rdr C H' r L ts.tail → Q .non H') ∧ (seesB ts k v = false → Fin DM DO r H E (.mal (atP L ts)))
def spRead : Sp := fun vs H Q E => ∃ r L ts k, vs = [.ref r, .str k] ∧ Rdr C H r L ts ∧
  (kindB ts k = true → ∀ v H', RSame r H H' → Rdr C H' r L ts.tail → Tp H' v (headV ts) → Q v H') ∧ (kindB ts k = false → Fin DM DO r H E (.mal (atP L ts)))
def spWhole : Sp := fun vs H Q E => ∃ r L ts lim, vs = [.ref r, .int (lim : Nat)] ∧ Rdr C H r L ts ∧ ∃ o, pWhole L lim ts = some o ∧ Res C DM DO r L H ts E o (fun a v _ => v = .int a) Q
def spDeep : Sp := fun vs H Q E => ∃ (r : Addr) (n : Nat), vs = [.ref r, .int (24 - (n : Int))] ∧ (∃ dx fs, H r = some (.ins C dx fs)) ∧ n ≤ 24 ∧ (n = 0 → Fin DM DO r H E .over) ∧ ∀ m, n = m + 1 → Q (.int (24 - (m : Int))) H
/-- a reading def without a level, with one (N levels at most are left) -/
def spG0 {α : Type} (g : Nat → Pr α) (G : α → V → Hp → Prop) : Sp := fun vs H Q E => ∃ (r : Addr) (L : Nat) (ts : TS1), vs = [.ref r] ∧ Rdr C H r L ts ∧ ∃ o, g L ts = some o ∧ Res C DM DO r L H ts E o G Q
def gT : PyData → V → Hp → Prop := fun d v H' => Tp H' v d
abbrev spR0 (g : Nat → Pr PyData) : Sp := spG0 C DM DO g gT
def spRN (g : Nat → Nat → Pr PyData) (N : Nat) : Sp := fun vs H Q E => ∃ (r : Addr) (L n : Nat) (ts : TS1), vs = [.ref r, .int (24 - (n : Int))] ∧ n < N ∧ N ≤ 25 ∧ Rdr C H r L ts ∧ ∃ o, g L n ts = some o ∧ Res C DM DO r L H ts E o gT Q
end
section
variable {C DM DO r : Addr} {H H0 H' : Hp} {E : XK} {L : Nat} {ts : TS1}
theorem Fin.mono {e : PErr} (h : Fin DM DO r H0 E e) (s : RSame r H0 H) : Fin DM DO r H E e := by
  cases e with
  | mal i => exact fun d H' s' => h d H' (s.trans s')
  | over => exact fun d H' s' => h d H' (s.trans s')
/-- what is left to do behind a part of it -/
theorem r_sub {α β : Type} {g : Pr α} {f : α → Pr β} {out : Except PErr (β × TS1)} {G : α → V → Hp → Prop} {Q : VK} (h : (g >>= f) ts = some out) (hF : ∀ e, out = .error e → Fin DM DO r H0 E e) (s : RSame r H0 H)
    (k : ∀ a ts' v H', f a ts' = some out → RSame r H H' → Rdr C H' r L ts' → ts'.length ≤ ts.length → G a v H' → Q v H') : ∃ o, g ts = some o ∧ Res C DM DO r L H ts E o G Q := by
  obtain ⟨o, h1, h2, h3⟩ := b_bind h
  exact ⟨o, h1, fun e z => (hF e (h2 e z)).mono s, fun a ts' z v H' s' R' hl hG => k a ts' v H' (h3 a ts' z) s' R' hl hG⟩
/-- a part at the end -/
theorem r_tail {α : Type} {g : Pr α} {out : Except PErr (α × TS1)} {G : α → V → Hp → Prop} {Q : VK} (h : g ts = some out) (hF : ∀ e, out = .error e → Fin DM DO r H0 E e) (s : RSame r H0 H)
    (k : ∀ a ts' v H', out = .ok (a, ts') → RSame r H H' → Rdr C H' r L ts' → ts'.length ≤ ts.length → G a v H' → Q v H') : ∃ o, g ts = some o ∧ Res C DM DO r L H ts E o G Q :=
  ⟨out, h, fun e z => (hF e z).mono s, fun a ts' z v H' s' R' hl hG => k a ts' v H' z s' R' hl hG⟩
end
/-! ### readings of calls of the reader's methods -/
section
variable {C r : Addr} {L : Nat} {ts : TS1} {σ : L2.St} {H : Hp} {Q : VK} {i : Nat} {m : Str} {sp : Sp} {E : L2.St → XK} {t : TA} {K : Frag} {v : V} {f : Str}
theorem r_rm (R : Rdr C H r L ts) (h : σ[i]? = some (some (.ref r))) (hm : m ∉ (["rest", "place", "limit"] : List Str)) (q : t σ H fun vs H2 => sp (.ref r :: vs) H2 Q (E σ)) : tMetS C m sp E (tVar i) t σ H Q := by
  obtain ⟨T, dx, l, p, vs, _, _, hi, _⟩ := R.ex
  refine ⟨_, h, r, dx, _, rfl, hi, ?_, q⟩
  have h1 : m ≠ "rest" := fun e => hm (by rw [e]; simp)
  have h2 : m ≠ "place" := fun e => hm (by rw [e]; simp)
  have h3 : m ≠ "limit" := fun e => hm (by rw [e]; simp)
  rw [List.lookup_cons, beq_false_of_ne h1, List.lookup_cons, beq_false_of_ne h2, List.lookup_cons, beq_false_of_ne h3]
  rfl
theorem r_fldI {a D dx : Addr} {fs : List (Str × V)} (h : σ[i]? = some (some (.ref a))) (hi : H a = some (.ins D dx fs)) (c : Cls K D) (na : NoAttr K D f) (l : fs.lookup f = some v) (q : Q v H) : tFld K (tVar i) f σ H Q := ⟨_, h, a, D, dx, fs, v, rfl, hi, c, na, l, q⟩
end
theorem r_sfl {σ : L2.St} {H : Hp} {K : Frag} {f : Str} {ta tv : TE} {D : Ends} (h : tv σ H fun y H1 => ta σ H1 fun x H2 => ∃ a C dx fs, x = .ref a ∧ H2 a = some (.ins C dx fs) ∧ Cls K C ∧ NoAttr K C f ∧ fs.length < 1000 ∧ D.nx σ (L2.upd H2 a (.ins C dx (putF f y fs)))) : sFld K ta tv f D σ H := h
theorem sees_lt {T : TS1} {p : Nat} {k v : Str} (h : seesB (T.drop p) k v = true) : p < T.length := by
  by_cases q : p < T.length
  · exact q
  · rw [List.drop_eq_nil_of_le (by omega)] at h; cases h
theorem kind_lt {T : TS1} {p : Nat} {k : Str} (h : kindB (T.drop p) k = true) : p < T.length := by
  by_cases q : p < T.length
  · exact q
  · rw [List.drop_eq_nil_of_le (by omega)] at h; cases h
theorem iteNF {p q : Prop} (h : p) : if (!false) = true then p else q := h
theorem iteNT {p q : Prop} (h : q) : if (!true) = true then p else q := h
theorem cMal_at {C r : Addr} {L : Nat} {ts : TS1} {H : Hp} (R : Rdr C H r L ts) : CMal (.int (atP L ts : Int)) := ⟨_, rfl, log_ok (Nat.le_trans R.atb (by decide))⟩
theorem kind_num {ts : TS1} (h : kindB ts "number" = true) : ∃ a b i r, ts = (.num a b, i) :: r := by
  match ts, h with
  | (.num a b, i) :: r, _ => exact ⟨a, b, i, r, rfl⟩
  | (.word s, i) :: r, h => exact absurd (show decide (("word" : Str) = "number") = true from h) (by decide)
  | (.name s, i) :: r, h => exact absurd (show decide (("name" : Str) = "number") = true from h) (by decide)
  | (.sign s, i) :: r, h => exact absurd (show decide (("sign" : Str) = "number") = true from h) (by decide)
theorem whole_no {L lim : Nat} {ts : TS1} (h : kindB ts "number" = false) : pWhole L lim ts = some (.error (.mal (atP L ts))) := by
  match ts, h with
  | (.num a b, i) :: r, h => exact absurd (show decide (("number" : Str) = "number") = false from h) (by decide)
  | (.word s, i) :: r, _ => rfl
  | (.name s, i) :: r, _ => rfl
  | (.sign s, i) :: r, _ => rfl
  | [], _ => rfl
theorem iteNT' {p q : Prop} {b : Bool} (hb : b = true) (h : q) : if (!b) = true then p else q := by subst hb; exact h
theorem tok_at {H : Hp} {vs : List V} {T : TS1} {p : Nat} (hT : TpAll H vs (T.map tokD)) (h : p < T.length) :
    ∃ a v1, vs[p]? = some (.ref a) ∧ H a = some (.tup [.str T[p].1.kind, v1, .int (T[p].2 : Int)]) ∧ Tp H v1 T[p].1.val ∧ T.drop p = T[p] :: T.drop (p + 1) := by
  obtain ⟨v, h1, h2⟩ := hT.get (i := p) (d := tokD T[p]) (by rw [List.getElem?_map, List.getElem?_eq_getElem h]; rfl)
  cases h2 with
  | @tup a xs ds h3 h4 =>
    cases h4 with
    | cons h5 h6 =>
      cases h6 with
      | cons h7 h8 =>
        cases h8 with
        | cons h9 h10 =>
          cases h10 with
          | nil =>
            cases h5 with
            | str x =>
              cases h9 with
              | int i => exact ⟨a, _, h1, h3, h7, List.drop_eq_getElem_cons h⟩
theorem val_txt {H : Hp} {t : Tk} {v : V} (h : Tp H v t.val) (k : t.kind ≠ "number") : v = .str t.txt := by
  cases t with
  | num a b => exact absurd rfl k
  | word s => cases h with | str _ => rfl
  | name s => cases h with | str _ => rfl
  | sign s => cases h with | str _ => rfl
theorem drop_all {T : TS1} {p : Nat} (h : ¬ p < T.length) : T.drop p = [] := List.drop_eq_nil_of_le (by omega)
theorem b_deep0 {β : Type} {ts : TS1} {out : Except PErr (β × TS1)} {f : Nat → Pr β} {n : Nat} (e : n = 0) (h : (pDeep n >>= f) ts = some out) : out = .error .over := by
  rcases b_deep h with ⟨_, h⟩ | ⟨m, h, _⟩
  · exact h
  · omega
theorem b_deepS {β : Type} {ts : TS1} {out : Except PErr (β × TS1)} {f : Nat → Pr β} {n m : Nat} (e : n = m + 1) (h : (pDeep n >>= f) ts = some out) : f m ts = some out := by
  subst e
  rcases b_deep h with ⟨h, _⟩ | ⟨m', h1, h⟩
  · omega
  · cases h1
    exact h
/-- a tuple is the answer -/
theorem r_ret_tup {C DM DO r : Addr} {L : Nat} {H H1 : Hp} {ts ts' : TS1} {E : XK} {o : Except PErr (PyData × TS1)} {Q : VK} {vs : List V} {ds : List PyData} (k : Res C DM DO r L H ts E o gT Q) (h : (pure (.tuple ds) : Pr PyData) ts' = some o) (s : RSame r H H1) (R : Rdr C H1 r L ts')
    (hl : ts'.length ≤ ts.length) (hv : TpAll H1 vs ds) : ∀ p, H1 p = none → Q (.ref p) (L2.upd H1 p (.tup vs)) := fun p hp =>
  k.ok _ _ (b_ret h) _ _ (s.new hp) (R.same (Same.new hp)) hl (.tup upd_same (hv.keep (Keep.new hp)))
theorem tl_le {ts : TS1} : ts.tail.length ≤ ts.length := by rw [List.length_tail]; omega
theorem tl_lt {ts : TS1} {k v : Str} (h : seesB ts k v = true) : ts.tail.length + 1 = ts.length := by
  cases ts with
  | nil => cases h
  | cons t r => rfl
theorem sees_kind {ts : TS1} {k v : Str} (h : seesB ts k v = true) : kindB ts k = true := by
  cases ts with
  | nil => cases h
  | cons t r => exact (Bool.and_eq_true_iff.mp h).1
theorem sees_head {ts : TS1} {k v : Str} (hk : k ≠ "number") (h : seesB ts k v = true) : headV ts = .str v := by
  cases ts with
  | nil => cases h
  | cons t r =>
    obtain ⟨h1, h2⟩ := Bool.and_eq_true_iff.mp h
    have h1 := of_decide_eq_true h1
    have h2 := of_decide_eq_true h2
    obtain ⟨t, i⟩ := t
    show t.val = _
    cases t with
    | num a b => exact absurd h1.symm hk
    | word s => exact congrArg PyData.str h2
    | name s => exact congrArg PyData.str h2
    | sign s => exact congrArg PyData.str h2
theorem b_accT2 {α β : Type} {ts : TS1} {k v : Str} {out : Except PErr (β × TS1)} {A B : Pr α} {g : α → Pr β} (e : seesB ts k v = true) (h : ((pAcc k v >>= fun b => if b = true then A else B) >>= g) ts = some out) : (A >>= g) ts.tail = some out := by
  rw [bind_run, bind_run] at h
  unfold pAcc at h
  rw [if_pos e] at h
  rw [bind_run]
  exact h
theorem b_accF2 {α β : Type} {ts : TS1} {k v : Str} {out : Except PErr (β × TS1)} {A B : Pr α} {g : α → Pr β} (e : seesB ts k v = false) (h : ((pAcc k v >>= fun b => if b = true then A else B) >>= g) ts = some out) : (B >>= g) ts = some out := by
  rw [bind_run, bind_run] at h
  unfold pAcc at h
  rw [if_neg (by rw [e]; decide)] at h
  rw [bind_run]
  exact h
theorem b_pure {α β : Type} {ts : TS1} {out : Except PErr (β × TS1)} {a : α} {g : α → Pr β} (h : ((pure a : Pr α) >>= g) ts = some out) : g a ts = some out := h
/-- what is left of the parameters: more, or the end -/
def parK (L : Nat) (b : Bool) (acc : List PyData) : Pr PyData := if b = true then pParL L acc else (do
  pExp L "sign" ")"
  return .tuple acc)
/-- a line: at least one token is taken -/
structure ResL (C DM DO : Addr) {α : Type} (r : Addr) (L : Nat) (H0 : Hp) (ts : TS1) (E : XK) (o : Except PErr (α × TS1)) (G : α → V → Hp → Prop) (Q : VK) : Prop where
  err : ∀ e, o = .error e → Fin DM DO r H0 E e
  ok : ∀ a ts', o = .ok (a, ts') → ∀ v H', RSame r H0 H' → Rdr C H' r L ts' → ts'.length < ts.length → G a v H' → Q v H'
def spLine (C DM DO : Addr) (g : Nat → Pr PyData) : Sp := fun vs H Q E => ∃ (r : Addr) (L : Nat) (ts : TS1), vs = [.ref r] ∧ Rdr C H r L ts ∧ ∃ o, g L ts = some o ∧ ResL C DM DO r L H ts E o gT Q
theorem r_makS {C : Addr} {sp : Sp} {E : L2.St → XK} {t : TA} {σ : L2.St} {H : Hp} {Q : VK} (h : t σ H fun vs H1 => ∀ x dx, H1 x = none → H1 dx = none → dx ≠ x → sp (.ref x :: vs) (L2.upd (L2.upd H1 dx (.own x)) x (.ins C dx [])) (fun v H2 => v = .non ∧ Q (.ref x) H2) (E σ)) : tMakS C sp E t σ H Q := h
theorem tl_lt_le {ts ts' : TS1} {k v : Str} (h : seesB ts k v = true) (hl : ts.length ≤ ts'.length) : ts.tail.length < ts'.length := by
  have := tl_lt h
  omega
/-- the methods' promises together -/
structure RdM (P : Program) (w : World) (K : Frag) (mg : Str → Option Value) (base : Heap) (C DM DO : Addr) : Prop where
  rc : RC K C
  m1 : MetX P w K mg base 1 C "at" ["self"] (spAt C)
  m2 : MetX P w K mg base 1 C "sees" ["self", "kind", "value"] (spSees C)
  m3 : MetX P w K mg base 1 C "sees_kind" ["self", "kind"] (spKind C)
  m4 : MetX P w K mg base 2 C "accept" ["self", "kind", "value"] (spAcc C)
  m5 : MetX P w K mg base 3 C "expect" ["self", "kind", "value"] (spExp C DM DO)
  m6 : MetX P w K mg base 3 C "read" ["self", "kind"] (spRead C DM DO)
  m7 : MetX P w K mg base 4 C "whole" ["self", "limit"] (spWhole C DM DO)
  m8 : MetX P w K mg base 3 C "deeper" ["self", "level"] (spDeep C DM DO)
end Al
namespace Al
open PySem PySem.Spec PyProof.Rows L2 NdefX PySem.W
local macro_rules | `(tactic| walk_at "rd1") => `(tactic| with_reducible first
  | (show tVar _ _ _ _; refine r_var (by with_unfolding_all rfl) ?_) | refine r_c ?_ | refine r_op ?_ | refine r_I0 ?_ | refine r_un ?_ | refine r_U ?_
  | (show rI _ _ _ _ _ _; refine r_I (by with_unfolding_all first | exact ⟨by decide, by decide⟩ | (show (0 : Int) < _; decide)) ?_)
  | refine r_eqI ?_ | refine r_neI ?_ | refine r_eqS ?_ | refine r_neS ?_ | refine r_eqB ?_ | refine r_neB ?_ | refine r_chain ?_
  | refine r_test ?_ | refine r_B ?_ | refine r_bl ?_ | refine r_int ?_ | refine r_and ?_ | refine r_or ?_ | refine r_not ?_ | refine r_andV ?_ | refine r_orV ?_ | refine r_notV ?_
  | refine r_if ?_ | refine r_nil ?_ | refine r_cons ?_ | refine r_cb ?_ | refine r_call ?_ | refine r_callS ?_ | refine r_tup ?_ | refine r_lst ?_ | refine r_seq ?_ | refine r_next ?_ | refine r_asg ?_
  | refine r_name ?_ | refine r_ifS ?_ | refine r_ret ?_ | refine r_retN ?_ | refine r_drop ?_ | refine r_brk ?_ | refine r_ct ?_ | refine r_sl ?_ | refine r_part ?_ | refine r_nopart ?_
  | refine r_bm ?_ | refine r_bm0 ?_ | refine r_raiseX ?_ | refine r_mkO ?_ | refine iteF ?_ | refine iteT ?_ | refine r_int1 ?_ | refine r_int1b ?_ | (show _ ≤ sizeLine ∧ _; refine r_sz (by with_unfolding_all first | omega | (simp only [List.length_cons, List.length_nil]; omega)) ?_)
  | (show ∃ _, _; refine ⟨_, rfl, ?_⟩) | (show ∃ _, _; refine ⟨_, _, rfl, rfl, ?_⟩) | (show ∃ _, _; refine ⟨_, _, rfl, ?_⟩))
local macro_rules | `(tactic| walk_at "rd") => `(tactic| repeat (walk_at "rd1"))
local macro_rules | `(tactic| walk_at "rd2") => `(tactic| with_reducible first
  | (show tFld _ _ _ _ _ _; refine r_fldI (by with_unfolding_all rfl) (by with_unfolding_all assumption) (by with_unfolding_all assumption) (by with_unfolding_all assumption) (by with_unfolding_all rfl) ?_)
  | (show tMetS _ _ _ _ _ _ _ _ _; refine r_rm (by with_unfolding_all assumption) (by with_unfolding_all rfl) (by decide) ?_)
  | refine r_sfl ?_ | refine iteNF ?_ | refine iteNT ?_ | refine r_makS ?_)
local macro_rules | `(tactic| walk_at "rp") => `(tactic| repeat first | walk_at "rd1" | walk_at "rd2")

section
variable {P : Program} {w : World} {K : Frag} {mg : Str → Option Value} {base : Heap}
abbrev s_Reader_at : Stmt := inClass (top 25) 1
theorem sc_Reader_at : FnScope ["self"] ["self"] (defScope s_Reader_at) := ⟨rfl, rfl, rfl, by decide +kernel, rfl, by decide +kernel, by decide +kernel⟩
theorem met_at {C : Addr} (dx : MetAt K C "at" "Reader.at" s_Reader_at) (B : Bl mg) (RK : RC K C) : MetX P w K mg base 1 C "at" ["self"] (spAt C) := by
  refine met_mk dx sc_Reader_at (fun _ _ _ _ _ _ us hl => match us, hl with | [_], _ => rfl) (fun vs H Q E h => ?_) (fun f cdv A outer s H vs Q E hr h => ?_)
  · obtain ⟨r, L, ts, rfl, _⟩ := h
    rfl
  · obtain ⟨r, L, ts, rfl, R, k⟩ := h
    refine ⟨_, (pss_cons (ps_if (pt_cmpR op_lt (pe_fld (pv 0) rfl) (pe_callB call_len_seq (by rfl) B.len PySem.boot_len (pa_cons (pe_fld (pv 0) rfl) pa_nil)) (nomark _))
      (pss_one (ps_ret (pe_ix ix_tup (pe_ix ix_list (pe_fld (pv 0) rfl) (pe_fld (pv 0) rfl) (fun _ _ => rfl)) pe_int (fun _ _ => rfl))))
      pss_nil)
      (pss_one (ps_ret (pe_fld (pv 0) rfl)))), ?_⟩
    obtain ⟨T, dx, l, p, vs, rfl, hp, hr1, hl1, hT, hb1, hb2, hb3⟩ := R.ex
    have hcl := RK.cls
    have hn1 := RK.na "rest" (by decide)
    have hn2 := RK.na "place" (by decide)
    have hn3 := RK.na "limit" (by decide)
    walk_at "rp"
    refine ⟨l, vs, rfl, .inl (SqL.of hl1), ?_⟩
    walk_at "rp"
    have hlv : vs.length = T.length := by rw [hT.len, List.length_map]
    rw [hlv]
    refine r_ite (fun h1 => ?_) (fun h1 => ?_)
    · have h1 : p < T.length := by have := of_decide_eq_true h1; omega
      obtain ⟨a, v1, e1, e2, e3, e4⟩ := tok_at hT h1
      walk_at "rp"
      refine r_ixL (SqL.of hl1) e1 ?_
      walk_at "rp"
      refine r_ixT (n := 2) (SqT.of e2) rfl ?_
      rw [e4] at k
      exact k
    · have h1 : ¬ p < T.length := by have := of_decide_eq_false h1; omega
      walk_at "rp"
      rw [drop_all h1] at k
      exact k
abbrev s_Reader_sees : Stmt := inClass (top 25) 2
theorem sc_Reader_sees : FnScope ["self", "kind", "value"] ["self", "kind", "value"] (defScope s_Reader_sees) := ⟨rfl, rfl, rfl, by decide +kernel, rfl, by decide +kernel, by decide +kernel⟩
theorem met_sees {C : Addr} (dx : MetAt K C "sees" "Reader.sees" s_Reader_sees) (B : Bl mg) (RK : RC K C) : MetX P w K mg base 1 C "sees" ["self", "kind", "value"] (spSees C) := by
  refine met_mk dx sc_Reader_sees (fun _ _ _ _ _ _ us hl => match us, hl with | [_, _, _], _ => rfl) (fun vs H Q E h => ?_) (fun f cdv A outer s H vs Q E hr h => ?_)
  · obtain ⟨r, L, ts, k, v, rfl, _⟩ := h
    rfl
  · obtain ⟨r, L, ts, kd, v, rfl, hk, R, k⟩ := h
    refine ⟨_, (pss_cons (ps_if (pt_cmpR op_ge (pe_fld (pv 0) rfl) (pe_callB call_len_seq (by rfl) B.len PySem.boot_len (pa_cons (pe_fld (pv 0) rfl) pa_nil)) (nomark _))
      (pss_one (ps_ret pe_bl))
      pss_nil)
      (pss_one (ps_ret (pe_and (pe_cmpR op_eq (pe_ix ix_tup (pe_ix ix_list (pe_fld (pv 0) rfl) (pe_fld (pv 0) rfl) (fun _ _ => rfl)) pe_int (fun _ _ => rfl)) (pv 1) (nomark _)) (pe_one (pe_cmpR op_eq (pe_ix ix_tup (pe_ix ix_list (pe_fld (pv 0) rfl) (pe_fld (pv 0) rfl) (fun _ _ => rfl)) pe_int (fun _ _ => rfl)) (pv 2) (nomark _))))))), ?_⟩
    obtain ⟨T, dx, l, p, vs, rfl, hp, hr1, hl1, hT, hb1, hb2, hb3⟩ := R.ex
    have hcl := RK.cls
    have hn1 := RK.na "rest" (by decide)
    have hn2 := RK.na "place" (by decide)
    have hn3 := RK.na "limit" (by decide)
    walk_at "rp"
    refine ⟨l, vs, rfl, .inl (SqL.of hl1), ?_⟩
    walk_at "rp"
    have hlv : vs.length = T.length := by rw [hT.len, List.length_map]
    rw [hlv]
    refine r_ite (fun h1 => ?_) (fun h1 => ?_)
    · have h1 : ¬ p < T.length := by have := of_decide_eq_true h1; omega
      walk_at "rp"
      rw [drop_all h1] at k
      exact k
    · have h1 : p < T.length := by have := of_decide_eq_false h1; omega
      obtain ⟨a, v1, e1, e2, e3, e4⟩ := tok_at hT h1
      walk_at "rp"
      refine r_ixL (SqL.of hl1) e1 ?_
      walk_at "rp"
      refine r_ixT (n := 0) (SqT.of e2) rfl ?_
      walk_at "rp"
      rw [e4] at k
      have k : Q (.bl (decide (T[p].1.kind = kd) && decide (T[p].1.txt = v))) H := k
      refine r_ite (fun h2 => ?_) (fun h2 => ?_)
      · have e5 := of_decide_eq_true h2
        obtain rfl := val_txt e3 (by rw [e5]; exact hk)
        rw [h2] at k
        walk_at "rp"
        refine r_ixL (SqL.of hl1) e1 ?_
        walk_at "rp"
        refine r_ixT (n := 1) (SqT.of e2) rfl ?_
        walk_at "rp"
        exact k
      · rw [h2] at k
        walk_at "rp"
        exact k
abbrev s_Reader_sees_kind : Stmt := inClass (top 25) 3
theorem sc_Reader_sees_kind : FnScope ["self", "kind"] ["self", "kind"] (defScope s_Reader_sees_kind) := ⟨rfl, rfl, rfl, by decide +kernel, rfl, by decide +kernel, by decide +kernel⟩
theorem met_sees_kind {C : Addr} (dx : MetAt K C "sees_kind" "Reader.sees_kind" s_Reader_sees_kind) (B : Bl mg) (RK : RC K C) : MetX P w K mg base 1 C "sees_kind" ["self", "kind"] (spKind C) := by
  refine met_mk dx sc_Reader_sees_kind (fun _ _ _ _ _ _ us hl => match us, hl with | [_, _], _ => rfl) (fun vs H Q E h => ?_) (fun f cdv A outer s H vs Q E hr h => ?_)
  · obtain ⟨r, L, ts, k, rfl, _⟩ := h
    rfl
  · obtain ⟨r, L, ts, kd, rfl, R, k⟩ := h
    refine ⟨_, (pss_one (ps_ret (pe_and (pe_cmpR op_lt (pe_fld (pv 0) rfl) (pe_callB call_len_seq (by rfl) B.len PySem.boot_len (pa_cons (pe_fld (pv 0) rfl) pa_nil)) (nomark _)) (pe_one (pe_cmpR op_eq (pe_ix ix_tup (pe_ix ix_list (pe_fld (pv 0) rfl) (pe_fld (pv 0) rfl) (fun _ _ => rfl)) pe_int (fun _ _ => rfl)) (pv 1) (nomark _)))))), ?_⟩
    obtain ⟨T, dx, l, p, vs, rfl, hp, hr1, hl1, hT, hb1, hb2, hb3⟩ := R.ex
    have hcl := RK.cls
    have hn1 := RK.na "rest" (by decide)
    have hn2 := RK.na "place" (by decide)
    have hn3 := RK.na "limit" (by decide)
    walk_at "rp"
    refine ⟨l, vs, rfl, .inl (SqL.of hl1), ?_⟩
    walk_at "rp"
    have hlv : vs.length = T.length := by rw [hT.len, List.length_map]
    rw [hlv]
    refine r_ite (fun h1 => ?_) (fun h1 => ?_)
    · have h1 : p < T.length := by have := of_decide_eq_true h1; omega
      obtain ⟨a, v1, e1, e2, e3, e4⟩ := tok_at hT h1
      walk_at "rp"
      refine r_ixL (SqL.of hl1) e1 ?_
      walk_at "rp"
      refine r_ixT (n := 0) (SqT.of e2) rfl ?_
      walk_at "rp"
      rw [e4] at k
      exact k
    · have h1 : ¬ p < T.length := by have := of_decide_eq_false h1; omega
      walk_at "rp"
      rw [drop_all h1] at k
      exact k
abbrev s_Reader_accept : Stmt := inClass (top 25) 4
theorem sc_Reader_accept : FnScope ["self", "kind", "value"] ["self", "kind", "value"] (defScope s_Reader_accept) := ⟨rfl, rfl, rfl, by decide +kernel, rfl, by decide +kernel, by decide +kernel⟩
theorem met_accept {C : Addr} (dx : MetAt K C "accept" "Reader.accept" s_Reader_accept) (B : Bl mg) (RK : RC K C) (M_sees : MetX P w K mg base 1 C "sees" ["self", "kind", "value"] (spSees C)) : MetX P w K mg base 2 C "accept" ["self", "kind", "value"] (spAcc C) := by
  refine met_mk dx sc_Reader_accept (fun _ _ _ _ _ _ us hl => match us, hl with | [_, _, _], _ => rfl) (fun vs H Q E h => ?_) (fun f cdv A outer s H vs Q E hr h => ?_)
  · obtain ⟨r, L, ts, k, v, rfl, _⟩ := h
    rfl
  · obtain ⟨r, L, ts, kd, v, rfl, hk, R, k1, k2⟩ := h
    have tk : L2N.Takes (cxOf (L2N.CX P w) P w K mg base ["self", "kind", "value"] "Reader.accept" (defScope s_Reader_accept) f cdv A outer s H E) (fun cls d _ H => E cls d H) := L2N.takes_of rfl rfl rfl rfl
    refine ⟨_, (pss_cons (ps_if (pt_val (pe_metX M_sees (hr.mono (by first | decide | omega)) tk (pv 0) (pa_cons (pv 1) (pa_cons (pv 2) pa_nil))))
      (pss_cons (ps_fld (pv 0) (pe_op op_add (pe_fld (pv 0) rfl) pe_int) rfl)
      (pss_one (ps_ret pe_bl)))
      pss_nil)
      (pss_one (ps_ret pe_bl))), ?_⟩
    have hcl := RK.cls
    have hn1 := RK.na "rest" (by decide)
    have hn2 := RK.na "place" (by decide)
    have hn3 := RK.na "limit" (by decide)
    walk_at "rp"
    refine ⟨r, L, ts, kd, v, rfl, hk, R, ?_⟩
    walk_at "rp"
    refine r_ite (fun h1 => ?_) (fun h1 => ?_)
    · obtain ⟨T, dx, l, p, vs, rfl, hp, hr1, hl1, hT, hb⟩ := R.ex
      walk_at "rp"
      refine ⟨r, C, dx, _, rfl, hr1, hcl, hn2, by simp, ?_⟩
      walk_at "rp"
      exact k1 h1 _ (RSame.upd RSame.refl hr1 rfl) (Rdr.next (sees_lt h1) hr1 hl1 hT hb)
    · walk_at "rp"
      exact k2 h1
abbrev s_Reader_expect : Stmt := inClass (top 25) 5
theorem sc_Reader_expect : FnScope ["self", "kind", "value"] ["self", "kind", "value"] (defScope s_Reader_expect) := ⟨rfl, rfl, rfl, by decide +kernel, rfl, by decide +kernel, by decide +kernel⟩
theorem met_expect {C DM DO : Addr} (dx : MetAt K C "expect" "Reader.expect" s_Reader_expect) (B : Bl mg) (RK : RC K C) (M_at : MetX P w K mg base 1 C "at" ["self"] (spAt C)) (M_accept : MetX P w K mg base 2 C "accept" ["self", "kind", "value"] (spAcc C)) (XMalformed : ExC1 P w K mg base "Malformed" DM "at" CMal) : MetX P w K mg base 3 C "expect" ["self", "kind", "value"] (spExp C DM DO) := by
  refine met_mk dx sc_Reader_expect (fun _ _ _ _ _ _ us hl => match us, hl with | [_, _, _], _ => rfl) (fun vs H Q E h => ?_) (fun f cdv A outer s H vs Q E hr h => ?_)
  · obtain ⟨r, L, ts, k, v, rfl, _⟩ := h
    rfl
  · obtain ⟨r, L, ts, kd, v, rfl, hk, R, k1, k2⟩ := h
    have tk : L2N.Takes (cxOf (L2N.CX P w) P w K mg base ["self", "kind", "value"] "Reader.expect" (defScope s_Reader_expect) f cdv A outer s H E) (fun cls d _ H => E cls d H) := L2N.takes_of rfl rfl rfl rfl
    have hcl := RK.cls
    have hn1 := RK.na "rest" (by decide)
    have hn2 := RK.na "place" (by decide)
    have hn3 := RK.na "limit" (by decide)
    refine ⟨_, (pss_one (ps_if (pt_not (pt_val (pe_metX M_accept (hr.mono (by first | decide | omega)) tk (pv 0) (pa_cons (pv 1) (pa_cons (pv 2) pa_nil)))))
      (pss_one (ps_raiseX rfl tk (pmk_x1 XMalformed (hr.mono (by decide)) (pa_cons (pe_metX0 M_at (hr.mono (by first | decide | omega)) tk (pv 0)) pa_nil))))
      pss_nil)), ?_⟩
    walk_at "rp"
    refine ⟨r, L, ts, kd, v, rfl, hk, R, fun h1 H1 hs1 R1 => ?_, fun h1 => ?_⟩
    · walk_at "rp"
      exact k1 h1 _ hs1 R1
    · walk_at "rp"
      refine ⟨r, L, ts, rfl, R, ?_⟩
      walk_at "rp"
      exact r_mkx (cMal_at R) fun d H' hd hs hx => k2 h1 d H' (RSame.same hs) hx
abbrev s_Reader_read : Stmt := inClass (top 25) 6
theorem sc_Reader_read : FnScope ["self", "kind"] ["self", "kind"] (defScope s_Reader_read) := ⟨rfl, rfl, rfl, by decide +kernel, rfl, by decide +kernel, by decide +kernel⟩
theorem met_read {C DM DO : Addr} (dx : MetAt K C "read" "Reader.read" s_Reader_read) (B : Bl mg) (RK : RC K C) (M_at : MetX P w K mg base 1 C "at" ["self"] (spAt C)) (M_sees_kind : MetX P w K mg base 1 C "sees_kind" ["self", "kind"] (spKind C)) (XMalformed : ExC1 P w K mg base "Malformed" DM "at" CMal) : MetX P w K mg base 3 C "read" ["self", "kind"] (spRead C DM DO) := by
  refine met_mk dx sc_Reader_read (fun _ _ _ _ _ _ us hl => match us, hl with | [_, _], _ => rfl) (fun vs H Q E h => ?_) (fun f cdv A outer s H vs Q E hr h => ?_)
  · obtain ⟨r, L, ts, k, rfl, _⟩ := h
    rfl
  · obtain ⟨r, L, ts, kd, rfl, R, k1, k2⟩ := h
    have tk : L2N.Takes (cxOf (L2N.CX P w) P w K mg base ["self", "kind"] "Reader.read" (defScope s_Reader_read) f cdv A outer s H E) (fun cls d _ H => E cls d H) := L2N.takes_of rfl rfl rfl rfl
    have hcl := RK.cls
    have hn1 := RK.na "rest" (by decide)
    have hn2 := RK.na "place" (by decide)
    have hn3 := RK.na "limit" (by decide)
    refine ⟨_, (pss_cons (ps_if (pt_not (pt_val (pe_metX M_sees_kind (hr.mono (by first | decide | omega)) tk (pv 0) (pa_cons (pv 1) pa_nil))))
      (pss_one (ps_raiseX rfl tk (pmk_x1 XMalformed (hr.mono (by decide)) (pa_cons (pe_metX0 M_at (hr.mono (by first | decide | omega)) tk (pv 0)) pa_nil))))
      pss_nil)
      (pss_cons (ps_fld (pv 0) (pe_op op_add (pe_fld (pv 0) rfl) pe_int) rfl)
      (pss_one (ps_ret (pe_ix ix_tup (pe_ix ix_list (pe_fld (pv 0) rfl) (pe_op op_sub (pe_fld (pv 0) rfl) pe_int) (fun _ _ => rfl)) pe_int (fun _ _ => rfl)))))), ?_⟩
    walk_at "rp"
    refine ⟨r, L, ts, kd, rfl, R, ?_⟩
    walk_at "rp"
    refine r_ite (fun h1 => ?_) (fun h1 => ?_)
    · walk_at "rp"
      refine ⟨r, L, ts, rfl, R, ?_⟩
      walk_at "rp"
      exact r_mkx (cMal_at R) fun d H' hd hs hx => k2 (by simpa using h1) d H' (RSame.same hs) hx
    · have h1 : kindB ts kd = true := by simpa using h1
      obtain ⟨T, dx, l, p, vs, rfl, hp, hr1, hl1, hT, hb⟩ := R.ex
      obtain ⟨a, v1, e1, e2, e3, e4⟩ := tok_at hT (kind_lt h1)
      walk_at "rp"
      refine ⟨r, C, dx, _, rfl, hr1, hcl, hn2, by simp, ?_⟩
      have R' := Rdr.next (kind_lt h1) hr1 hl1 hT hb
      have hH2 : L2.upd H r (.ins C dx (rfs l (p + 1) L)) r = some (.ins C dx (rfs l (p + 1) L)) := upd_same
      have hs2 : RSame r H (L2.upd H r (.ins C dx (rfs l (p + 1) L))) := RSame.upd RSame.refl hr1 rfl
      have hl2 := hs2.get l _ (fun e => by rw [e, hr1] at hl1; cases hl1) hl1
      have ha2 := hs2.get a _ (fun e => by rw [e, hr1] at e2; cases e2) e2
      have e3' := e3.keep (RSame.keep hs2 hr1)
      have k1 := k1 h1
      rw [show putF "place" (V.int ((p : Int) + 1)) _ = rfs l (p + 1) L from putF_place l p L]
      generalize L2.upd H r (.ins C dx (rfs l (p + 1) L)) = H1 at *
      walk_at "rp"
      rw [show (((p + 1 : Nat) : Int) - 1) = ((p : Nat) : Int) by omega]
      refine r_ixL (SqL.of hl2) e1 ?_
      walk_at "rp"
      refine r_ixT (n := 1) (SqT.of ha2) rfl ?_
      refine k1 v1 H1 hs2 R' ?_
      rw [e4]; exact e3'
abbrev s_Reader_whole : Stmt := inClass (top 25) 7
theorem sc_Reader_whole : FnScope ["self", "limit", "at", "top", "bottom"] ["self", "limit"] (defScope s_Reader_whole) := ⟨rfl, rfl, rfl, by decide +kernel, rfl, by decide +kernel, by decide +kernel⟩
theorem met_whole {C DM DO : Addr} (dx : MetAt K C "whole" "Reader.whole" s_Reader_whole) (B : Bl mg) (RK : RC K C) (M_at : MetX P w K mg base 1 C "at" ["self"] (spAt C)) (M_read : MetX P w K mg base 3 C "read" ["self", "kind"] (spRead C DM DO)) (XMalformed : ExC1 P w K mg base "Malformed" DM "at" CMal) : MetX P w K mg base 4 C "whole" ["self", "limit"] (spWhole C DM DO) := by
  refine met_mk dx sc_Reader_whole (fun _ _ _ _ _ _ us hl => match us, hl with | [_, _], _ => rfl) (fun vs H Q E h => ?_) (fun f cdv A outer s H vs Q E hr h => ?_)
  · obtain ⟨r, L, ts, lim, rfl, _⟩ := h
    rfl
  · obtain ⟨r, L, ts, lim, rfl, R, o, ho, k⟩ := h
    have tk : L2N.Takes (cxOf (L2N.CX P w) P w K mg base ["self", "limit", "at", "top", "bottom"] "Reader.whole" (defScope s_Reader_whole) f cdv A outer s H E) (fun cls d _ H => E cls d H) := L2N.takes_of rfl rfl rfl rfl
    have hcl := RK.cls
    have hn1 := RK.na "rest" (by decide)
    have hn2 := RK.na "place" (by decide)
    have hn3 := RK.na "limit" (by decide)
    refine ⟨_, (pss_cons (ps_set (i := 2) sc_Reader_whole.nd rfl (Or.inl rfl) (pe_metX0 M_at (hr.mono (by first | decide | omega)) tk (pv 0)))
      (pss_cons (ps_asg (pe_metX M_read (hr.mono (by first | decide | omega)) tk (pv 0) (pa_cons pe_str pa_nil)) (pg_tup rfl (pgs_cons (pg_name (i := 3) sc_Reader_whole.nd rfl (Or.inl rfl)) (pgs_cons (pg_name (i := 4) sc_Reader_whole.nd rfl (Or.inl rfl)) pgs_nil))))
      (pss_cons (ps_if (PW.pt (pw_or (pt_cmpR op_ne (pv 4) pe_int (nomark _)) (pw_or1 (pt_cmpR op_gt (pv 3) (pv 1) (nomark _)))))
      (pss_one (ps_raiseX rfl tk (pmk_x1 XMalformed (hr.mono (by decide)) (pa_cons (pv 2) pa_nil))))
      pss_nil)
      (pss_one (ps_ret (pv 3)))))), ?_⟩
    walk_at "rp"
    refine ⟨r, L, ts, rfl, R, ?_⟩
    walk_at "rp"
    refine ⟨r, L, ts, _, rfl, R, fun h1 v H1 hs1 R1 tv => ?_, fun h1 => k.err _ (by rw [whole_no h1] at ho; exact (Option.some.inj ho).symm)⟩
    obtain ⟨a, b, i, rest, rfl⟩ := kind_num h1
    have ho2 : (if b ≠ 1 ∨ lim < a then some (.error (.mal i)) else some (.ok ((a : Int), rest))) = some o := ho
    cases tv with
    | @tup p xs ds hp hxs =>
      cases hxs with
      | cons t1 hxs =>
        cases hxs with
        | cons t2 hxs =>
          cases hxs with
          | nil =>
            cases t1 with
            | int i1 =>
              cases t2 with
              | int i2 =>
                walk_at "rp"
                refine ⟨p, _, rfl, SqT.of hp, rfl, _, _, rfl, _, _, rfl, rfl, ?_⟩
                walk_at "rp"
                by_cases hc : b ≠ 1 ∨ lim < a
                · rw [if_pos hc] at ho2
                  have kk := (k.err _ (Option.some.inj ho2).symm).mono hs1
                  refine r_ite (fun h2 => ?_) (fun h2 => ?_)
                  · walk_at "rp"
                    exact r_mkx (cMal_at R) fun d H' hd hs hx => kk d H' (RSame.same hs) hx
                  · walk_at "rp"
                    refine r_ite (fun h3 => ?_) (fun h3 => ?_)
                    · walk_at "rp"
                      exact r_mkx (cMal_at R) fun d H' hd hs hx => kk d H' (RSame.same hs) hx
                    · exfalso
                      have h2 : b = 1 := by
                        have := of_decide_eq_true (show decide ((b : Int) = 1) = true by simpa using h2)
                        omega
                      have h3 := of_decide_eq_false h3
                      rcases hc with hc | hc <;> omega
                · rw [if_neg hc] at ho2
                  have h2 : b = 1 := by omega
                  subst h2
                  refine iteNT' (by decide) ?_
                  walk_at "rp"
                  refine r_ite (fun h3 => ?_) (fun h3 => ?_)
                  · exfalso
                    have h3 := of_decide_eq_true h3
                    omega
                  · walk_at "rp"
                    exact k.ok _ _ (Option.some.inj ho2).symm _ _ hs1 R1 (Nat.le_succ _) rfl
abbrev s_Reader_deeper : Stmt := inClass (top 25) 8
theorem sc_Reader_deeper : FnScope ["self", "level"] ["self", "level"] (defScope s_Reader_deeper) := ⟨rfl, rfl, rfl, by decide +kernel, rfl, by decide +kernel, by decide +kernel⟩
theorem met_deeper {C DM DO : Addr} (dx : MetAt K C "deeper" "Reader.deeper" s_Reader_deeper) (B : Bl mg) (RK : RC K C) (PL : ParC K w mg) (XOversized : ExC1 P w K mg base "Oversized" DO "limit" COver) : MetX P w K mg base 3 C "deeper" ["self", "level"] (spDeep C DM DO) := by
  refine met_mk dx sc_Reader_deeper (fun _ _ _ _ _ _ us hl => match us, hl with | [_, _], _ => rfl) (fun vs H Q E h => ?_) (fun f cdv A outer s H vs Q E hr h => ?_)
  · obtain ⟨r, n, rfl, _⟩ := h
    rfl
  · obtain ⟨r, n, rfl, hi, hn, k1, k2⟩ := h
    have tk : L2N.Takes (cxOf (L2N.CX P w) P w K mg base ["self", "level"] "Reader.deeper" (defScope s_Reader_deeper) f cdv A outer s H E) (fun cls d _ H => E cls d H) := L2N.takes_of rfl rfl rfl rfl
    have hcl := RK.cls
    have hn1 := RK.na "rest" (by decide)
    have hn2 := RK.na "place" (by decide)
    have hn3 := RK.na "limit" (by decide)
    refine ⟨_, (pss_cons (ps_if (pt_cmpR op_ge (pv 1) (pe_gint PL.gMD) (nomark _))
      (pss_one (ps_raiseX rfl tk (pmk_x1 XOversized (hr.mono (by decide)) (pa_cons pe_str pa_nil))))
      pss_nil)
      (pss_one (ps_ret (pe_op op_add (pv 1) pe_int)))), ?_⟩
    walk_at "rp"
    refine r_ite (fun h1 => ?_) (fun h1 => ?_)
    · have h1 := of_decide_eq_true h1
      walk_at "rp"
      exact r_mkx ⟨_, rfl⟩ fun d H' hd hs hx => k1 (by omega) d H' (RSame.same hs) hx
    · have h1 := of_decide_eq_false h1
      walk_at "rp"
      obtain ⟨m, rfl⟩ : ∃ m, n = m + 1 := ⟨n - 1, by omega⟩
      rw [show (24 - ((m + 1 : Nat) : Int)) + 1 = 24 - (m : Int) by omega]
      exact k2 m rfl
end
end Al
namespace Al
open PySem PySem.Spec PyProof.Rows L2 NdefX PySem.W
local macro_rules | `(tactic| walk_at "rd1") => `(tactic| with_reducible first
  | (show tVar _ _ _ _; refine r_var (by with_unfolding_all rfl) ?_) | refine r_c ?_ | refine r_op ?_ | refine r_I0 ?_ | refine r_un ?_ | refine r_U ?_
  | (show rI _ _ _ _ _ _; refine r_I (by with_unfolding_all first | exact ⟨by decide, by decide⟩ | (show (0 : Int) < _; decide)) ?_)
  | refine r_eqI ?_ | refine r_neI ?_ | refine r_eqS ?_ | refine r_neS ?_ | refine r_eqB ?_ | refine r_neB ?_ | refine r_chain ?_
  | refine r_test ?_ | refine r_B ?_ | refine r_bl ?_ | refine r_int ?_ | refine r_and ?_ | refine r_or ?_ | refine r_not ?_ | refine r_andV ?_ | refine r_orV ?_ | refine r_notV ?_
  | refine r_if ?_ | refine r_nil ?_ | refine r_cons ?_ | refine r_cb ?_ | refine r_call ?_ | refine r_callS ?_ | refine r_tup ?_ | refine r_lst ?_ | refine r_seq ?_ | refine r_next ?_ | refine r_asg ?_
  | refine r_name ?_ | refine r_ifS ?_ | refine r_ret ?_ | refine r_retN ?_ | refine r_drop ?_ | refine r_brk ?_ | refine r_ct ?_ | refine r_sl ?_ | refine r_part ?_ | refine r_nopart ?_
  | refine r_bm ?_ | refine r_bm0 ?_ | refine r_raiseX ?_ | refine r_mkO ?_ | refine iteF ?_ | refine iteT ?_ | refine r_int1 ?_ | refine r_int1b ?_ | (show _ ≤ sizeLine ∧ _; refine r_sz (by with_unfolding_all first | omega | (simp only [List.length_cons, List.length_nil]; omega)) ?_)
  | (show ∃ _, _; refine ⟨_, rfl, ?_⟩) | (show ∃ _, _; refine ⟨_, _, rfl, rfl, ?_⟩) | (show ∃ _, _; refine ⟨_, _, rfl, ?_⟩))
local macro_rules | `(tactic| walk_at "rd") => `(tactic| repeat (walk_at "rd1"))
local macro_rules | `(tactic| walk_at "rd2") => `(tactic| with_reducible first
  | (show tFld _ _ _ _ _ _; refine r_fldI (by with_unfolding_all rfl) (by with_unfolding_all assumption) (by with_unfolding_all assumption) (by with_unfolding_all assumption) (by with_unfolding_all rfl) ?_)
  | (show tMetS _ _ _ _ _ _ _ _ _; refine r_rm (by with_unfolding_all assumption) (by with_unfolding_all rfl) (by decide) ?_)
  | refine r_sfl ?_ | refine iteNF ?_ | refine iteNT ?_ | refine r_makS ?_)
local macro_rules | `(tactic| walk_at "rp") => `(tactic| repeat first | walk_at "rd1" | walk_at "rd2")

section
variable {P : Program} {w : World} {K : Frag} {mg : Str → Option Value} {base : Heap} {C DM DO : Addr}
abbrev s_read_power : Stmt := top 26
theorem sc_read_power : FnScope ["reader"] ["reader"] (defScope s_read_power) := ⟨rfl, rfl, rfl, by decide +kernel, rfl, by decide +kernel, by decide +kernel⟩
theorem cal_read_power (dx : DefAt K mg "read_power" s_read_power) (B : Bl mg) (PL : ParC K w mg) (M : RdM P w K mg base C DM DO)  : Cal P w K mg base (5) "read_power" ["reader"] (spG0 C DM DO pPower (fun a v _ => v = .int a)) := by
  obtain ⟨RK, M_at, M_sees, M_sees_kind, M_accept, M_expect, M_read, M_whole, M_deeper⟩ := M
  refine cal_mk dx sc_read_power (fun _ _ _ _ _ _ us hl => match us, hl with | [_], _ => rfl) (fun vs H Q E h => ?_) (fun f cdv A outer s H vs Q E hr h => ?_)
  · obtain ⟨r, L, ts, rfl, _⟩ := h
    rfl
  · obtain ⟨r, L, ts, rfl, R, o, ho, k⟩ := h
    have tk : L2N.Takes (cxOf (L2N.CX P w) P w K mg base ["reader"] "read_power" (defScope s_read_power) f cdv A outer s H E) (fun cls d _ H => E cls d H) := L2N.takes_of rfl rfl rfl rfl
    refine ⟨_, (pss_cons (ps_if (pt_val (pe_metX M_accept (hr.mono (by first | decide | omega)) tk (pv 0) (pa_cons pe_str (pa_cons pe_str pa_nil))))
      (pss_one (ps_ret (pe_un un_neg (pe_metX M_whole (hr.mono (by first | decide | omega)) tk (pv 0) (pa_cons (pe_gint PL.gMP) pa_nil)))))
      pss_nil)
      (pss_one (ps_ret (pe_metX M_whole (hr.mono (by first | decide | omega)) tk (pv 0) (pa_cons (pe_gint PL.gMP) pa_nil))))), ?_⟩
    unfold pPower at ho
    walk_at "rp"
    refine ⟨r, L, ts, _, _, rfl, by decide, R, fun h1 H1 hs1 R1 => ?_, fun h1 => ?_⟩
    · have ho := b_accT h1 ho
      walk_at "rp"
      refine ⟨r, L, _, 9, rfl, R1, r_sub ho k.err hs1 fun a ts' v H' h' s' R' hl hv => ?_⟩
      subst hv
      walk_at "rp"
      exact k.ok _ _ (b_ret h') _ _ (hs1.trans s') R' (by rw [List.length_tail] at hl; omega) rfl
    · have ho := b_accF h1 ho
      walk_at "rp"
      exact ⟨r, L, _, 9, rfl, R, r_tail ho k.err RSame.refl fun a ts' v H' h' s' R' hl hv => k.ok _ _ h' _ _ s' R' hl hv⟩
abbrev s_read_product : Stmt := top 27
theorem sc_read_product : FnScope ["reader", "result", "at", "name", "power"] ["reader"] (defScope s_read_product) := ⟨rfl, rfl, rfl, by decide +kernel, rfl, by decide +kernel, by decide +kernel⟩
theorem cal_read_product (dx : DefAt K mg "read_product" s_read_product) (B : Bl mg) (PL : ParC K w mg) (M : RdM P w K mg base C DM DO) (G_read_power : Cal P w K mg base 5 "read_power" ["reader"] (spG0 C DM DO pPower (fun a v _ => v = .int a))) : Cal P w K mg base (6) "read_product" ["reader"] (spR0 C DM DO pProd) := by
  obtain ⟨RK, M_at, M_sees, M_sees_kind, M_accept, M_expect, M_read, M_whole, M_deeper⟩ := M
  refine cal_mk dx sc_read_product (fun _ _ _ _ _ _ us hl => match us, hl with | [_], _ => rfl) (fun vs H Q E h => ?_) (fun f cdv A outer s H vs Q E hr h => ?_)
  · obtain ⟨r, L, ts, rfl, _⟩ := h
    rfl
  · obtain ⟨r, L, ts, rfl, R, o, ho, k⟩ := h
    have tk : L2N.Takes (cxOf (L2N.CX P w) P w K mg base ["reader", "result", "at", "name", "power"] "read_product" (defScope s_read_product) f cdv A outer s H E) (fun cls d _ H => E cls d H) := L2N.takes_of rfl rfl rfl rfl
    refine ⟨_, (pss_cons (ps_expr (pe_metX M_expect (hr.mono (by first | decide | omega)) tk (pv 0) (pa_cons pe_str (pa_cons pe_str pa_nil))))
      (pss_cons (ps_set (i := 1) sc_read_product.nd rfl (Or.inl rfl) (pe_lst pa_nil))
      (pss_cons (ps_while (passes_of rfl) (pt_not (pt_val (pe_metX M_accept (hr.mono (by first | decide | omega)) tk (pv 0) (pa_cons pe_str (pa_cons pe_str pa_nil)))))
      (pss_cons (ps_set (i := 2) sc_read_product.nd rfl (Or.inl rfl) (pe_metX0 M_at (hr.mono (by first | decide | omega)) tk (pv 0)))
      (pss_cons (ps_set (i := 3) sc_read_product.nd rfl (Or.inl rfl) (pe_metX M_read (hr.mono (by first | decide | omega)) tk (pv 0) (pa_cons pe_str pa_nil)))
      (pss_cons (ps_set (i := 4) sc_read_product.nd rfl (Or.inl rfl) pe_int)
      (pss_cons (ps_if (pt_val (pe_metX M_accept (hr.mono (by first | decide | omega)) tk (pv 0) (pa_cons pe_str (pa_cons pe_str pa_nil))))
      (pss_one (ps_set (i := 4) sc_read_product.nd rfl (Or.inl rfl) (pe_cal G_read_power (hr.mono (by first | decide | omega)) tk (pa_cons (pv 0) pa_nil))))
      pss_nil)
      (pss_one (ps_expr (pe_bm PySem.F.plainAttrs_list PySem.F.slot_list_append PySem.F.type_list_append mt_append (pv 1) (pa_cons (pe_tup (pa_cons (pv 3) (pa_cons (pv 4) (pa_cons (pv 2) pa_nil)))) pa_nil)))))))))
      (pss_one (ps_ret (pe_callTy call_tuple_of (by rfl) B.tuple (by decide +kernel) (pa_cons (pv 1) pa_nil))))))), ?_⟩
    unfold pProd at ho
    walk_at "rp"
    refine ⟨r, L, ts, _, _, rfl, by decide, R, fun h1 H1 hs1 R1 => ?_, fun h1 => k.err _ (b_expF h1 ho)⟩
    have ho := b_expT h1 ho
    walk_at "rp"
    intro q hq
    walk_at "rp"
    have hHq : q ≠ r := by
      obtain ⟨dx, fs, hi⟩ := R1.ins
      exact (RSame.fresh RSame.refl hi hq).2
    have R1q : Rdr C (upd H1 q (.lst [])) r L ts.tail := R1.same (Same.new hq)
    have htl : ts.tail.length ≤ ts.length := by rw [List.length_tail]; omega
    refine ⟨fun m σ' H' => ∃ v2 v3 v4 us acc ts', σ' = [some (.ref r), some (.ref q), v2, v3, v4] ∧ RSame r H1 H' ∧ Rdr C H' r L ts' ∧ H' q = some (.lst us) ∧ TpAll H' us acc ∧ pProdL L acc ts' = some o ∧ ts'.length ≤ ts.length ∧ us.length + ts'.length ≤ 20000 ∧ m = ts'.length,
      ⟨_, none, none, none, [], [], ts.tail, rfl, RSame.refl.new hq, R1q, upd_same, .nil, ho, htl, by have := R.len; simp only [List.length_nil]; omega, rfl⟩, ?_⟩
    rintro m σ' H' ⟨v2, v3, v4, us, acc, ts', rfl, hs, R', hql, hus, hp, htl', hlen, rfl⟩
    have hqr := hHq
    rw [pProdL.eq_def] at hp
    walk_at "rp"
    refine ⟨r, L, ts', _, _, rfl, by decide, R', fun h1 H2 hs2 R2 => ?_, fun h1 => ?_⟩
    · have hp := b_accT h1 hp
      have hql2 := hs2.get _ _ hqr hql
      walk_at "rp"
      refine ⟨q, us, rfl, .inl ⟨SqL.of hql2, fun l hl => ?_⟩⟩
      walk_at "rp"
      refine k.ok _ _ (b_ret hp) _ _ ((hs1.trans (hs.trans hs2)).new hl) (R2.same (Same.new hl)) (by rw [List.length_tail]; omega) ?_
      exact .tup upd_same ((hus.keep (R'.keep hs2)).keep (Keep.new hl))
    · have hp := b_accF h1 hp
      have hp := b_at hp
      walk_at "rp"
      refine ⟨fun σ' H' => ∃ m', m' < ts'.length ∧ ∃ v2 v3 v4 us acc ts', σ' = [some (.ref r), some (.ref q), v2, v3, v4] ∧ RSame r H1 H' ∧ Rdr C H' r L ts' ∧ H' q = some (.lst us) ∧ TpAll H' us acc ∧ pProdL L acc ts' = some o ∧ ts'.length ≤ ts.length ∧ us.length + ts'.length ≤ 20000 ∧ m' = ts'.length, fun _ _ h => h, ?_⟩
      walk_at "rp"
      refine ⟨r, L, ts', rfl, R', ?_⟩
      walk_at "rp"
      refine ⟨r, L, ts', _, rfl, R', fun h2 v H2 hs2 R2 tv => ?_, fun h2 => (k.err _ (b_readF h2 hp)).mono (hs1.trans hs)⟩
      have hp := b_readT h2 hp
      have hql2 := hs2.get _ _ hqr hql
      have hus2 := hus.keep (R'.keep hs2)
      have hlt : ts'.tail.length + 1 = ts'.length := by
        cases ts' with
        | nil => cases h2
        | cons t rr => rfl
      walk_at "rp"
      refine ⟨r, L, ts'.tail, _, _, rfl, by decide, R2, fun h3 H3 hs3 R3 => ?_, fun h3 => ?_⟩
      · have hp := b_accT h3 hp
        have hql3 := hs3.get _ _ hqr hql2
        have hus3 := hus2.keep (R2.keep hs3)
        walk_at "rp"
        refine ⟨r, L, _, rfl, R3, r_sub hp k.err (hs1.trans ((hs.trans hs2).trans hs3)) fun a ts4 v4 H4 h4 s4 R4 hl4 hv => ?_⟩
        subst hv
        have hql4 := s4.get _ _ hqr hql3
        have hus4 := hus3.keep (R3.keep s4)
        walk_at "rp"
        refine ⟨.inl ⟨rfl, _, SqL.of hql4⟩, ?_⟩
        walk_at "rp"
        intro p1 hp1
        have hqp : q ≠ p1 := ne_of_none hql4 hp1
        refine ⟨q, us, .ref p1, rfl, rfl, by rw [upd_ne hqp]; exact hql4, by rw [sizeLine_eq]; omega, ?_⟩
        have kp1 := Keep.new (o := .tup [v, .int a, .int (atP L ts' : Int)]) hp1
        have kq1 := Keep.mut (p := q) (o := .lst (us ++ [.ref p1])) (show (upd H4 p1 (.tup [v, .int a, .int (atP L ts' : Int)])) q = some (.lst us) by rw [upd_ne hqp]; exact hql4) (fun xs z => nomatch z)
        have kk := kp1.trans kq1
        have hl3 : ts'.tail.tail.length ≤ ts'.tail.length := by rw [List.length_tail]; omega
        have tv4 := (tv.keep (R2.keep hs3)).keep (R3.keep s4)
        walk_at "rp"
        refine ⟨_, ?_, _, _, _, _, _, ts4, rfl, ((((hs.trans hs2).trans hs3).trans s4).new hp1).mut hq hqr, Rdr.mut R1 hq ((((hs.trans hs2).trans hs3).trans s4).new hp1) (R4.same (Same.new hp1)) (by rw [upd_ne hqp]; exact hql4), upd_same,
          TpAll.app (hus4.keep kk) (.cons (.tup (a := p1) (kq1 _ _ upd_same) (.cons (tv4.keep kk) (.cons (.int _) (.cons (.int _) .nil)))) .nil), h4, ?_, ?_, rfl⟩
        · omega
        · omega
        · rw [List.length_append]; simp only [List.length_cons, List.length_nil]; omega
      · have hp := b_accF h3 hp
        walk_at "rp"
        refine ⟨.inl ⟨rfl, _, SqL.of hql2⟩, ?_⟩
        walk_at "rp"
        intro p1 hp1
        have hqp : q ≠ p1 := ne_of_none hql2 hp1
        refine ⟨q, us, .ref p1, rfl, rfl, by rw [upd_ne hqp]; exact hql2, by rw [sizeLine_eq]; omega, ?_⟩
        have kp1 := Keep.new (o := .tup [v, .int 1, .int (atP L ts' : Int)]) hp1
        have kq1 := Keep.mut (p := q) (o := .lst (us ++ [.ref p1])) (show (upd H2 p1 (.tup [v, .int 1, .int (atP L ts' : Int)])) q = some (.lst us) by rw [upd_ne hqp]; exact hql2) (fun xs z => nomatch z)
        have kk := kp1.trans kq1
        have tv2 := tv
        walk_at "rp"
        refine ⟨_, ?_, _, _, _, _, _, ts'.tail, rfl, ((hs.trans hs2).new hp1).mut hq hqr, Rdr.mut R1 hq ((hs.trans hs2).new hp1) (R2.same (Same.new hp1)) (by rw [upd_ne hqp]; exact hql2), upd_same,
          TpAll.app (hus2.keep kk) (.cons (.tup (a := p1) (kq1 _ _ upd_same) (.cons (tv2.keep kk) (.cons (.int _) (.cons (.int _) .nil)))) .nil), hp, ?_, ?_, rfl⟩
        · omega
        · omega
        · rw [List.length_append]; simp only [List.length_cons, List.length_nil]; omega
abbrev s_read_call : Stmt := top 28
theorem sc_read_call : FnScope ["reader", "level", "result"] ["reader", "level"] (defScope s_read_call) := ⟨rfl, rfl, rfl, by decide +kernel, rfl, by decide +kernel, by decide +kernel⟩
theorem cal_read_call (dx : DefAt K mg "read_call" s_read_call) (B : Bl mg) (PL : ParC K w mg) (M : RdM P w K mg base C DM DO) {k N : Nat} (hk : 10 ≤ k) (hN1 : N + 1 ≤ 25) (G_read_expression : Cal P w K mg base (k) "read_expression" ["reader", "level"] (spRN C DM DO pExpr (N)))  : Cal P w K mg base (k + 1) "read_call" ["reader", "level"] (spRN C DM DO pCall (N + 1)) := by
  obtain ⟨RK, M_at, M_sees, M_sees_kind, M_accept, M_expect, M_read, M_whole, M_deeper⟩ := M
  refine cal_mk dx sc_read_call (fun _ _ _ _ _ _ us hl => match us, hl with | [_, _], _ => rfl) (fun vs H Q E h => ?_) (fun f cdv A outer s H vs Q E hr h => ?_)
  · obtain ⟨r, L, n, ts, rfl, _⟩ := h
    rfl
  · obtain ⟨r, L, n, ts, rfl, hn, hN, R, o, ho, k⟩ := h
    have tk : L2N.Takes (cxOf (L2N.CX P w) P w K mg base ["reader", "level", "result"] "read_call" (defScope s_read_call) f cdv A outer s H E) (fun cls d _ H => E cls d H) := L2N.takes_of rfl rfl rfl rfl
    refine ⟨_, (pss_cons (ps_set (i := 2) sc_read_call.nd rfl (Or.inl rfl) (pe_lst pa_nil))
      (pss_cons (ps_expr (pe_metX M_expect (hr.mono (by first | decide | omega)) tk (pv 0) (pa_cons pe_str (pa_cons pe_str pa_nil))))
      (pss_cons (ps_if (pt_not (pt_val (pe_metX M_accept (hr.mono (by first | decide | omega)) tk (pv 0) (pa_cons pe_str (pa_cons pe_str pa_nil)))))
      (pss_cons (ps_expr (pe_bm PySem.F.plainAttrs_list PySem.F.slot_list_append PySem.F.type_list_append mt_append (pv 2) (pa_cons (pe_cal G_read_expression (hr.mono (by first | decide | omega)) tk (pa_cons (pv 0) (pa_cons (pe_metX M_deeper (hr.mono (by first | decide | omega)) tk (pv 0) (pa_cons (pv 1) pa_nil)) pa_nil))) pa_nil)))
      (pss_cons (ps_while (passes_of rfl) (pt_val (pe_metX M_accept (hr.mono (by first | decide | omega)) tk (pv 0) (pa_cons pe_str (pa_cons pe_str pa_nil))))
      (pss_one (ps_expr (pe_bm PySem.F.plainAttrs_list PySem.F.slot_list_append PySem.F.type_list_append mt_append (pv 2) (pa_cons (pe_cal G_read_expression (hr.mono (by first | decide | omega)) tk (pa_cons (pv 0) (pa_cons (pe_metX M_deeper (hr.mono (by first | decide | omega)) tk (pv 0) (pa_cons (pv 1) pa_nil)) pa_nil))) pa_nil)))))
      (pss_one (ps_expr (pe_metX M_expect (hr.mono (by first | decide | omega)) tk (pv 0) (pa_cons pe_str (pa_cons pe_str pa_nil)))))))
      pss_nil)
      (pss_one (ps_ret (pe_callTy call_tuple_of (by rfl) B.tuple (by decide +kernel) (pa_cons (pv 2) pa_nil))))))), ?_⟩
    rw [pCall.eq_def] at ho
    walk_at "rp"
    intro q hq
    have R0 : Rdr C (upd H q (.lst [])) r L ts := R.same (Same.new hq)
    walk_at "rp"
    have hqr : q ≠ r := by
      obtain ⟨dx, fs, hi⟩ := R.ins
      exact (RSame.fresh RSame.refl hi hq).2
    refine ⟨r, L, ts, _, _, rfl, by decide, R0, fun h1 H1 hs1 R1 => ?_, fun h1 => (k.err _ (b_expF h1 ho)).mono (RSame.refl.new hq)⟩
    have ho := b_expT h1 ho
    have s1 := (RSame.refl.new hq).trans hs1
    have hq1 := hs1.get _ _ hqr upd_same
    have hl1 := tl_lt h1
    walk_at "rp"
    refine ⟨r, L, ts.tail, _, _, rfl, by decide, R1, fun h2 H2 hs2 R2 => ?_, fun h2 => ?_⟩
    · have ho := b_accT h2 ho
      have hq2 := hs2.get _ _ hqr hq1
      walk_at "rp"
      refine ⟨q, [], rfl, .inl ⟨SqL.of hq2, ?_⟩⟩
      exact r_ret_tup k ho (s1.trans hs2) R2 (Nat.le_trans tl_le (by omega)) .nil
    · have ho := b_accF h2 ho
      walk_at "rp"
      refine ⟨.inl ⟨rfl, _, SqL.of hq1⟩, ?_⟩
      walk_at "rp"
      refine ⟨r, n, rfl, R1.ins, by omega, fun h0 => (k.err _ (b_deep0 h0 ho)).mono s1, fun m hm => ?_⟩
      have ho := b_deepS hm ho
      walk_at "rp"
      refine ⟨r, L, m, _, rfl, by omega, by omega, R1, r_sub ho k.err s1 fun a ts2 v H2 ho s2 R2 hl2 tv => ?_⟩
      have hq2 := s2.get _ _ hqr hq1
      walk_at "rp"
      have hlen := R.len
      refine ⟨q, [], v, rfl, rfl, hq2, by decide, ?_⟩
      have s2' : RSame r H (upd H2 q (.lst ([] ++ [v]))) := (s1.trans s2).mut hq hqr
      have R2' : Rdr C (upd H2 q (.lst ([] ++ [v]))) r L ts2 := Rdr.mut R hq (s1.trans s2) R2 hq2
      have tv' : TpAll (upd H2 q (.lst ([] ++ [v]))) ([] ++ [v]) [a] := .cons (tv.keep (Keep.mut hq2 fun xs z => nomatch z)) .nil
      walk_at "rp"
      refine ⟨fun m σ' H' => ∃ us acc ts', σ' = [some (.ref r), some (.int (24 - (n : Int))), some (.ref q)] ∧ RSame r H H' ∧ Rdr C H' r L ts' ∧ H' q = some (.lst us) ∧ TpAll H' us acc ∧ pArgs L n acc ts' = some o ∧ ts'.length ≤ ts.length ∧ us.length + ts'.length ≤ 20000 ∧ m = ts'.length, ⟨_, _, _, ts2, rfl, s2', R2', upd_same, tv', ho, by omega, by simp only [List.length_append, List.length_cons, List.length_nil]; omega, rfl⟩, ?_⟩
      rintro m3 σ' H3 ⟨us, acc, ts3, rfl, hs, R3, hq3, hus, hp, htl3, hlen3, rfl⟩
      rw [pArgs.eq_def] at hp
      walk_at "rp"
      refine ⟨r, L, ts3, _, _, rfl, by decide, R3, fun h4 H4 hs4 R4 => ?_, fun h4 => ?_⟩
      · have hp := b_accT h4 hp
        have hq4 := hs4.get _ _ hqr hq3
        have hus4 := hus.keep (R3.keep hs4)
        have hl4 := tl_lt h4
        walk_at "rp"
        refine ⟨fun σ' H' => ∃ m', m' < ts3.length ∧ ∃ us acc ts', σ' = [some (.ref r), some (.int (24 - (n : Int))), some (.ref q)] ∧ RSame r H H' ∧ Rdr C H' r L ts' ∧ H' q = some (.lst us) ∧ TpAll H' us acc ∧ pArgs L n acc ts' = some o ∧ ts'.length ≤ ts.length ∧ us.length + ts'.length ≤ 20000 ∧ m' = ts'.length, fun _ _ h => h, ?_⟩
        walk_at "rp"
        refine ⟨.inl ⟨rfl, _, SqL.of hq4⟩, ?_⟩
        walk_at "rp"
        refine ⟨r, n, rfl, R4.ins, by omega, fun h0 => (k.err _ (b_deep0 h0 hp)).mono (hs.trans hs4), fun m hm => ?_⟩
        have hp := b_deepS hm hp
        walk_at "rp"
        refine ⟨r, L, m, _, rfl, by omega, by omega, R4, r_sub hp k.err (hs.trans hs4) fun a5 ts5 v5 H5 hp5 s5 R5 hl5 tv5 => ?_⟩
        have hq5 := s5.get _ _ hqr hq4
        walk_at "rp"
        refine ⟨q, us, v5, rfl, rfl, hq5, by rw [sizeLine_eq]; omega, ?_⟩
        have kq := Keep.mut (o := .lst (us ++ [v5])) hq5 fun xs z => nomatch z
        walk_at "rp"
        refine ⟨_, ?_, us ++ [v5], acc ++ [a5], ts5, rfl, ((hs.trans hs4).trans s5).mut hq hqr, Rdr.mut R hq ((hs.trans hs4).trans s5) R5 hq5, upd_same, ((hus4.keep (R4.keep s5)).keep kq).app (.cons (tv5.keep kq) .nil), hp5, ?_, ?_, rfl⟩
        · omega
        · omega
        · rw [List.length_append]; simp only [List.length_cons, List.length_nil]; omega
      · have hp := b_accF h4 hp
        walk_at "rp"
        refine ⟨r, L, ts3, _, _, rfl, by decide, R3, fun h5 H5 hs5 R5 => ?_, fun h5 => (k.err _ (b_expF h5 hp)).mono hs⟩
        have hp := b_expT h5 hp
        have hq5 := hs5.get _ _ hqr hq3
        walk_at "rp"
        refine ⟨q, us, rfl, .inl ⟨SqL.of hq5, ?_⟩⟩
        exact r_ret_tup k hp (hs.trans hs5) R5 (Nat.le_trans tl_le htl3) (hus.keep (R3.keep hs5))
end
end Al
namespace Al
open PySem PySem.Spec PyProof.Rows L2 NdefX PySem.W
local macro_rules | `(tactic| walk_at "rd1") => `(tactic| with_reducible first
  | (show tVar _ _ _ _; refine r_var (by with_unfolding_all rfl) ?_) | refine r_c ?_ | refine r_op ?_ | refine r_I0 ?_ | refine r_un ?_ | refine r_U ?_
  | (show rI _ _ _ _ _ _; refine r_I (by with_unfolding_all first | exact ⟨by decide, by decide⟩ | (show (0 : Int) < _; decide)) ?_)
  | refine r_eqI ?_ | refine r_neI ?_ | refine r_eqS ?_ | refine r_neS ?_ | refine r_eqB ?_ | refine r_neB ?_ | refine r_chain ?_
  | refine r_test ?_ | refine r_B ?_ | refine r_bl ?_ | refine r_int ?_ | refine r_and ?_ | refine r_or ?_ | refine r_not ?_ | refine r_andV ?_ | refine r_orV ?_ | refine r_notV ?_
  | refine r_if ?_ | refine r_nil ?_ | refine r_cons ?_ | refine r_cb ?_ | refine r_call ?_ | refine r_callS ?_ | refine r_tup ?_ | refine r_lst ?_ | refine r_seq ?_ | refine r_next ?_ | refine r_asg ?_
  | refine r_name ?_ | refine r_ifS ?_ | refine r_ret ?_ | refine r_retN ?_ | refine r_drop ?_ | refine r_brk ?_ | refine r_ct ?_ | refine r_sl ?_ | refine r_part ?_ | refine r_nopart ?_
  | refine r_bm ?_ | refine r_bm0 ?_ | refine r_raiseX ?_ | refine r_mkO ?_ | refine iteF ?_ | refine iteT ?_ | refine r_int1 ?_ | refine r_int1b ?_ | (show _ ≤ sizeLine ∧ _; refine r_sz (by with_unfolding_all first | omega | (simp only [List.length_cons, List.length_nil]; omega)) ?_)
  | (show ∃ _, _; refine ⟨_, rfl, ?_⟩) | (show ∃ _, _; refine ⟨_, _, rfl, rfl, ?_⟩) | (show ∃ _, _; refine ⟨_, _, rfl, ?_⟩))
local macro_rules | `(tactic| walk_at "rd") => `(tactic| repeat (walk_at "rd1"))
local macro_rules | `(tactic| walk_at "rd2") => `(tactic| with_reducible first
  | (show tFld _ _ _ _ _ _; refine r_fldI (by with_unfolding_all rfl) (by with_unfolding_all assumption) (by with_unfolding_all assumption) (by with_unfolding_all assumption) (by with_unfolding_all rfl) ?_)
  | (show tMetS _ _ _ _ _ _ _ _ _; refine r_rm (by with_unfolding_all assumption) (by with_unfolding_all rfl) (by decide) ?_)
  | refine r_sfl ?_ | refine iteNF ?_ | refine iteNT ?_ | refine r_makS ?_)
local macro_rules | `(tactic| walk_at "rp") => `(tactic| repeat first | walk_at "rd1" | walk_at "rd2")

section
variable {P : Program} {w : World} {K : Frag} {mg : Str → Option Value} {base : Heap} {C DM DO : Addr}
abbrev s_read_primary : Stmt := top 29
theorem sc_read_primary : FnScope ["reader", "level", "at", "inner", "name", "count", "number", "units"] ["reader", "level"] (defScope s_read_primary) := ⟨rfl, rfl, rfl, by decide +kernel, rfl, by decide +kernel, by decide +kernel⟩
theorem cal_read_primary (dx : DefAt K mg "read_primary" s_read_primary) (B : Bl mg) (PL : ParC K w mg) (M : RdM P w K mg base C DM DO) {k N : Nat} (hk : 10 ≤ k) (hN1 : N + 1 ≤ 25) (G_read_expression : Cal P w K mg base (k) "read_expression" ["reader", "level"] (spRN C DM DO pExpr (N))) (G_read_primary : Cal P w K mg base (k) "read_primary" ["reader", "level"] (spRN C DM DO pPrim (N))) (G_read_call : Cal P w K mg base (k) "read_call" ["reader", "level"] (spRN C DM DO pCall (N + 1))) (G_read_product : Cal P w K mg base 6 "read_product" ["reader"] (spR0 C DM DO pProd))  : Cal P w K mg base (k + 1) "read_primary" ["reader", "level"] (spRN C DM DO pPrim (N + 1)) := by
  obtain ⟨RK, M_at, M_sees, M_sees_kind, M_accept, M_expect, M_read, M_whole, M_deeper⟩ := M
  refine cal_mk dx sc_read_primary (fun _ _ _ _ _ _ us hl => match us, hl with | [_, _], _ => rfl) (fun vs H Q E h => ?_) (fun f cdv A outer s H vs Q E hr h => ?_)
  · obtain ⟨r, L, n, ts, rfl, _⟩ := h
    rfl
  · obtain ⟨r, L, n, ts, rfl, hn, hN, R, o, ho, k⟩ := h
    have tk : L2N.Takes (cxOf (L2N.CX P w) P w K mg base ["reader", "level", "at", "inner", "name", "count", "number", "units"] "read_primary" (defScope s_read_primary) f cdv A outer s H E) (fun cls d _ H => E cls d H) := L2N.takes_of rfl rfl rfl rfl
    refine ⟨_, (pss_cons (ps_set (i := 2) sc_read_primary.nd rfl (Or.inl rfl) (pe_metX0 M_at (hr.mono (by first | decide | omega)) tk (pv 0)))
      (pss_cons (ps_if (pt_val (pe_metX M_accept (hr.mono (by first | decide | omega)) tk (pv 0) (pa_cons pe_str (pa_cons pe_str pa_nil))))
      (pss_one (ps_ret (pe_tup (pa_cons pe_str (pa_cons pe_bl pa_nil)))))
      pss_nil)
      (pss_cons (ps_if (pt_val (pe_metX M_accept (hr.mono (by first | decide | omega)) tk (pv 0) (pa_cons pe_str (pa_cons pe_str pa_nil))))
      (pss_one (ps_ret (pe_tup (pa_cons pe_str (pa_cons pe_bl pa_nil)))))
      pss_nil)
      (pss_cons (ps_if (pt_val (pe_metX M_accept (hr.mono (by first | decide | omega)) tk (pv 0) (pa_cons pe_str (pa_cons pe_str pa_nil))))
      (pss_cons (ps_set (i := 3) sc_read_primary.nd rfl (Or.inl rfl) (pe_cal G_read_expression (hr.mono (by first | decide | omega)) tk (pa_cons (pv 0) (pa_cons (pe_metX M_deeper (hr.mono (by first | decide | omega)) tk (pv 0) (pa_cons (pv 1) pa_nil)) pa_nil))))
      (pss_cons (ps_expr (pe_metX M_expect (hr.mono (by first | decide | omega)) tk (pv 0) (pa_cons pe_str (pa_cons pe_str pa_nil))))
      (pss_one (ps_ret (pv 3)))))
      pss_nil)
      (pss_cons (ps_if (pt_val (pe_metX M_accept (hr.mono (by first | decide | omega)) tk (pv 0) (pa_cons pe_str (pa_cons pe_str pa_nil))))
      (pss_cons (ps_set (i := 4) sc_read_primary.nd rfl (Or.inl rfl) (pe_metX M_read (hr.mono (by first | decide | omega)) tk (pv 0) (pa_cons pe_str pa_nil)))
      (pss_cons (ps_set (i := 5) sc_read_primary.nd rfl (Or.inl rfl) (pe_metX M_whole (hr.mono (by first | decide | omega)) tk (pv 0) (pa_cons pe_int pa_nil)))
      (pss_cons (ps_expr (pe_metX M_expect (hr.mono (by first | decide | omega)) tk (pv 0) (pa_cons pe_str (pa_cons pe_str pa_nil))))
      (pss_one (ps_ret (pe_tup (pa_cons pe_str (pa_cons (pv 4) (pa_cons (pv 5) (pa_cons (pe_cal G_read_primary (hr.mono (by first | decide | omega)) tk (pa_cons (pv 0) (pa_cons (pe_metX M_deeper (hr.mono (by first | decide | omega)) tk (pv 0) (pa_cons (pv 1) pa_nil)) pa_nil))) (pa_cons (pv 2) pa_nil)))))))))))
      pss_nil)
      (pss_cons (ps_if (pt_val (pe_metX M_sees_kind (hr.mono (by first | decide | omega)) tk (pv 0) (pa_cons pe_str pa_nil)))
      (pss_cons (ps_set (i := 6) sc_read_primary.nd rfl (Or.inl rfl) (pe_metX M_read (hr.mono (by first | decide | omega)) tk (pv 0) (pa_cons pe_str pa_nil)))
      (pss_cons (ps_set (i := 7) sc_read_primary.nd rfl (Or.inl rfl) (pe_tup pa_nil))
      (pss_cons (ps_if (pt_val (pe_metX M_sees (hr.mono (by first | decide | omega)) tk (pv 0) (pa_cons pe_str (pa_cons pe_str pa_nil))))
      (pss_one (ps_set (i := 7) sc_read_primary.nd rfl (Or.inl rfl) (pe_cal G_read_product (hr.mono (by first | decide | omega)) tk (pa_cons (pv 0) pa_nil))))
      pss_nil)
      (pss_one (ps_ret (pe_tup (pa_cons pe_str (pa_cons (pv 6) (pa_cons (pv 7) (pa_cons (pv 2) pa_nil))))))))))
      pss_nil)
      (pss_cons (ps_set (i := 4) sc_read_primary.nd rfl (Or.inl rfl) (pe_metX M_read (hr.mono (by first | decide | omega)) tk (pv 0) (pa_cons pe_str pa_nil)))
      (pss_cons (ps_if (pt_val (pe_metX M_sees (hr.mono (by first | decide | omega)) tk (pv 0) (pa_cons pe_str (pa_cons pe_str pa_nil))))
      (pss_one (ps_ret (pe_tup (pa_cons pe_str (pa_cons (pv 4) (pa_cons (pe_cal G_read_call (hr.mono (by first | decide | omega)) tk (pa_cons (pv 0) (pa_cons (pv 1) pa_nil))) (pa_cons (pv 2) pa_nil)))))))
      pss_nil)
      (pss_one (ps_ret (pe_tup (pa_cons pe_str (pa_cons (pv 4) (pa_cons (pv 2) pa_nil)))))))))))))), ?_⟩
    rw [pPrim.eq_def] at ho
    have ho := b_at ho
    walk_at "rp"
    refine ⟨r, L, ts, rfl, R, ?_⟩
    walk_at "rp"
    refine ⟨r, L, ts, _, _, rfl, by decide, R, fun h1 H1 hs1 R1 => ?_, fun h1 => ?_⟩
    · have ho := b_accT h1 ho
      walk_at "rp"
      exact r_ret_tup k ho hs1 R1 tl_le (.cons (.str _) (.cons (.bl _) .nil))
    have ho := b_accF h1 ho
    walk_at "rp"
    refine ⟨r, L, ts, _, _, rfl, by decide, R, fun h1 H1 hs1 R1 => ?_, fun h1 => ?_⟩
    · have ho := b_accT h1 ho
      walk_at "rp"
      exact r_ret_tup k ho hs1 R1 tl_le (.cons (.str _) (.cons (.bl _) .nil))
    have ho := b_accF h1 ho
    walk_at "rp"
    refine ⟨r, L, ts, _, _, rfl, by decide, R, fun h1 H1 hs1 R1 => ?_, fun h1 => ?_⟩
    · have ho := b_accT h1 ho
      walk_at "rp"
      refine ⟨r, n, rfl, R1.ins, by omega, fun h0 => (k.err _ (b_deep0 h0 ho)).mono hs1, fun m hm => ?_⟩
      have ho := b_deepS hm ho
      walk_at "rp"
      refine ⟨r, L, m, _, rfl, by omega, by omega, R1, r_sub ho k.err hs1 fun a ts2 v H2 ho s2 R2 hl2 tv => ?_⟩
      walk_at "rp"
      refine ⟨r, L, ts2, _, _, rfl, by decide, R2, fun h2 H3 hs3 R3 => ?_, fun h2 => (k.err _ (b_expF h2 ho)).mono (hs1.trans s2)⟩
      have ho := b_expT h2 ho
      walk_at "rp"
      exact k.ok _ _ (b_ret ho) _ _ ((hs1.trans s2).trans hs3) R3 (Nat.le_trans tl_le (Nat.le_trans hl2 tl_le)) (tv.keep (R2.keep hs3))
    have ho := b_accF h1 ho
    walk_at "rp"
    refine ⟨r, L, ts, _, _, rfl, by decide, R, fun h1 H1 hs1 R1 => ?_, fun h1 => ?_⟩
    · have ho := b_accT h1 ho
      walk_at "rp"
      refine ⟨r, L, ts.tail, _, rfl, R1, fun h2 v2 H2 hs2 R2 tv2 => ?_, fun h2 => (k.err _ (b_readF h2 ho)).mono hs1⟩
      have ho := b_readT h2 ho
      walk_at "rp"
      refine ⟨r, L, _, 20, rfl, R2, r_sub ho k.err (hs1.trans hs2) fun a3 ts3 v3 H3 ho s3 R3 hl3 hv3 => ?_⟩
      subst hv3
      walk_at "rp"
      refine ⟨r, L, ts3, _, _, rfl, by decide, R3, fun h4 H4 hs4 R4 => ?_, fun h4 => (k.err _ (b_expF h4 ho)).mono ((hs1.trans hs2).trans s3)⟩
      have ho := b_expT h4 ho
      have s4 := (((hs1.trans hs2).trans s3).trans hs4)
      have tv4 := (tv2.keep (R2.keep s3)).keep (R3.keep hs4)
      walk_at "rp"
      refine ⟨r, n, rfl, R4.ins, by omega, fun h0 => (k.err _ (b_deep0 h0 ho)).mono s4, fun m hm => ?_⟩
      have ho := b_deepS hm ho
      walk_at "rp"
      refine ⟨r, L, m, _, rfl, by omega, by omega, R4, r_sub ho k.err s4 fun a5 ts5 v5 H5 ho s5 R5 hl5 tv5 => ?_⟩
      walk_at "rp"
      refine r_ret_tup k ho (s4.trans s5) R5 (Nat.le_trans hl5 (Nat.le_trans tl_le (Nat.le_trans hl3 (Nat.le_trans tl_le tl_le)))) (.cons (.str _) (.cons (tv4.keep (R4.keep s5)) (.cons (.int _) (.cons tv5 (.cons (.int _) .nil)))))
    have ho := b_accF h1 ho
    walk_at "rp"
    refine ⟨r, L, ts, _, rfl, R, ?_⟩
    walk_at "rp"
    refine r_ite (fun h1 => ?_) (fun h1 => ?_)
    · have ho := b_kindT h1 ho
      walk_at "rp"
      refine ⟨r, L, ts, _, rfl, R, fun h2 v2 H2 hs2 R2 tv2 => ?_, fun h2 => k.err _ (b_readF h2 ho)⟩
      have ho := b_readT h2 ho
      walk_at "rp"
      intro p2 hp2
      have R2' : Rdr C (upd H2 p2 (.tup [])) r L ts.tail := R2.same (Same.new hp2)
      have hs2' := hs2.new (o := .tup []) hp2
      have tv2' := tv2.keep (Keep.new (o := .tup []) hp2)
      have tup2 : Tp (upd H2 p2 (.tup [])) (.ref p2) (.tuple []) := .tup upd_same .nil
      walk_at "rp"
      refine ⟨r, L, ts.tail, _, _, rfl, by decide, R2', ?_⟩
      walk_at "rp"
      refine r_ite (fun h3 => ?_) (fun h3 => ?_)
      · have ho := b_seesT h3 ho
        walk_at "rp"
        refine ⟨r, L, _, rfl, R2', r_sub ho k.err hs2' fun a4 ts4 v4 H4 ho s4 R4 hl4 tv4 => ?_⟩
        walk_at "rp"
        exact r_ret_tup k ho (hs2'.trans s4) R4 (Nat.le_trans hl4 tl_le) (.cons (.str _) (.cons (tv2'.keep (R2'.keep s4)) (.cons tv4 (.cons (.int _) .nil))))
      · have ho := b_seesF h3 ho
        walk_at "rp"
        exact r_ret_tup k ho hs2' R2' tl_le (.cons (.str _) (.cons tv2' (.cons tup2 (.cons (.int _) .nil))))
    have ho := b_kindF h1 ho
    walk_at "rp"
    refine ⟨r, L, ts, _, rfl, R, fun h2 v2 H2 hs2 R2 tv2 => ?_, fun h2 => k.err _ (b_readF h2 ho)⟩
    have ho := b_readT h2 ho
    walk_at "rp"
    refine ⟨r, L, ts.tail, _, _, rfl, by decide, R2, ?_⟩
    walk_at "rp"
    refine r_ite (fun h3 => ?_) (fun h3 => ?_)
    · have ho := b_seesT h3 ho
      walk_at "rp"
      refine ⟨r, L, n, _, rfl, by omega, by omega, R2, r_sub ho k.err hs2 fun a4 ts4 v4 H4 ho s4 R4 hl4 tv4 => ?_⟩
      walk_at "rp"
      exact r_ret_tup k ho (hs2.trans s4) R4 (Nat.le_trans hl4 tl_le) (.cons (.str _) (.cons (tv2.keep (R2.keep s4)) (.cons tv4 (.cons (.int _) .nil))))
    · have ho := b_seesF h3 ho
      walk_at "rp"
      exact r_ret_tup k ho hs2 R2 tl_le (.cons (.str _) (.cons tv2 (.cons (.int _) .nil)))
abbrev s_read_powers : Stmt := top 30
theorem sc_read_powers : FnScope ["reader", "level", "result", "at"] ["reader", "level"] (defScope s_read_powers) := ⟨rfl, rfl, rfl, by decide +kernel, rfl, by decide +kernel, by decide +kernel⟩
theorem cal_read_powers (dx : DefAt K mg "read_powers" s_read_powers) (B : Bl mg) (PL : ParC K w mg) (M : RdM P w K mg base C DM DO) {k N : Nat} (hk : 10 ≤ k) (hN1 : N + 1 ≤ 25) (G_read_primary : Cal P w K mg base (k + 1) "read_primary" ["reader", "level"] (spRN C DM DO pPrim (N + 1))) (G_read_power : Cal P w K mg base 5 "read_power" ["reader"] (spG0 C DM DO pPower (fun a v _ => v = .int a)))  : Cal P w K mg base (k + 2) "read_powers" ["reader", "level"] (spRN C DM DO pPowers (N + 1)) := by
  obtain ⟨RK, M_at, M_sees, M_sees_kind, M_accept, M_expect, M_read, M_whole, M_deeper⟩ := M
  refine cal_mk dx sc_read_powers (fun _ _ _ _ _ _ us hl => match us, hl with | [_, _], _ => rfl) (fun vs H Q E h => ?_) (fun f cdv A outer s H vs Q E hr h => ?_)
  · obtain ⟨r, L, n, ts, rfl, _⟩ := h
    rfl
  · obtain ⟨r, L, n, ts, rfl, hn, hN, R, o, ho, k⟩ := h
    have tk : L2N.Takes (cxOf (L2N.CX P w) P w K mg base ["reader", "level", "result", "at"] "read_powers" (defScope s_read_powers) f cdv A outer s H E) (fun cls d _ H => E cls d H) := L2N.takes_of rfl rfl rfl rfl
    refine ⟨_, (pss_cons (ps_set (i := 2) sc_read_powers.nd rfl (Or.inl rfl) (pe_cal G_read_primary (hr.mono (by first | decide | omega)) tk (pa_cons (pv 0) (pa_cons (pv 1) pa_nil))))
      (pss_cons (ps_while (passes_of rfl) (pt_val (pe_metX M_sees (hr.mono (by first | decide | omega)) tk (pv 0) (pa_cons pe_str (pa_cons pe_str pa_nil))))
      (pss_cons (ps_set (i := 3) sc_read_powers.nd rfl (Or.inl rfl) (pe_metX0 M_at (hr.mono (by first | decide | omega)) tk (pv 0)))
      (pss_cons (ps_expr (pe_metX M_expect (hr.mono (by first | decide | omega)) tk (pv 0) (pa_cons pe_str (pa_cons pe_str pa_nil))))
      (pss_cons (ps_set (i := 1) sc_read_powers.nd rfl (Or.inl rfl) (pe_metX M_deeper (hr.mono (by first | decide | omega)) tk (pv 0) (pa_cons (pv 1) pa_nil)))
      (pss_one (ps_set (i := 2) sc_read_powers.nd rfl (Or.inl rfl) (pe_tup (pa_cons pe_str (pa_cons (pv 2) (pa_cons (pe_cal G_read_power (hr.mono (by first | decide | omega)) tk (pa_cons (pv 0) pa_nil)) (pa_cons (pv 3) pa_nil)))))))))))
      (pss_one (ps_ret (pv 2))))), ?_⟩
    unfold pPowers at ho
    walk_at "rp"
    refine ⟨r, L, n, _, rfl, by omega, by omega, R, r_sub ho k.err RSame.refl fun a ts2 v H2 ho s2 R2 hl2 tv => ?_⟩
    walk_at "rp"
    refine ⟨fun m σ' H' => ∃ (n' : Nat) (a : PyData) (v : V) (v3 : Option V) (ts' : TS1), σ' = [some (.ref r), some (.int (24 - (n' : Int))), some v, v3] ∧ n' ≤ n ∧ RSame r H H' ∧ Rdr C H' r L ts' ∧ Tp H' v a ∧ pPowL L n' a ts' = some o ∧ ts'.length ≤ ts.length ∧ m = n', ⟨_, n, a, v, none, ts2, rfl, Nat.le_refl _, s2, R2, tv, ho, hl2, rfl⟩, ?_⟩
    rintro m3 σ' H3 ⟨n3, a3, v3, w3, ts3, rfl, hn3, hs, R3, tv3, hp, hl3, rfl⟩
    rw [pPowL.eq_def] at hp
    walk_at "rp"
    refine ⟨r, L, ts3, _, _, rfl, by decide, R3, ?_⟩
    walk_at "rp"
    refine r_ite (fun h4 => ?_) (fun h4 => ?_)
    · have hp := b_at (b_seesT h4 hp)
      walk_at "rp"
      refine ⟨fun σ' H' => ∃ m', m' < m3 ∧ ∃ (n' : Nat) (a : PyData) (v : V) (v3 : Option V) (ts' : TS1), σ' = [some (.ref r), some (.int (24 - (n' : Int))), some v, v3] ∧ n' ≤ n ∧ RSame r H H' ∧ Rdr C H' r L ts' ∧ Tp H' v a ∧ pPowL L n' a ts' = some o ∧ ts'.length ≤ ts.length ∧ m' = n', fun _ _ h => h, ?_⟩
      walk_at "rp"
      refine ⟨r, L, ts3, rfl, R3, ?_⟩
      walk_at "rp"
      refine ⟨r, L, ts3, _, _, rfl, by decide, R3, fun h5 H5 hs5 R5 => ?_, fun h5 => by rw [h4] at h5; cases h5⟩
      have hp := b_expT h5 hp
      walk_at "rp"
      refine ⟨r, m3, rfl, R5.ins, by omega, fun h0 => (k.err _ (b_deep0 h0 hp)).mono (hs.trans hs5), fun m hm => ?_⟩
      have hp := b_deepS hm hp
      walk_at "rp"
      refine ⟨r, L, _, rfl, R5, r_sub hp k.err (hs.trans hs5) fun a6 ts6 v6 H6 hp s6 R6 hl6 hv6 => ?_⟩
      subst hv6
      walk_at "rp"
      intro p7 hp7
      walk_at "rp"
      have s7 := ((hs.trans hs5).trans s6).new (o := .tup [.str "power", v3, .int a6, .int (atP L ts3 : Int)]) hp7
      have kp := Keep.new (o := .tup [.str "power", v3, .int a6, .int (atP L ts3 : Int)]) hp7
      refine ⟨m, by omega, m, _, _, _, ts6, rfl, by omega, s7, R6.same (Same.new hp7), .tup upd_same (.cons (.str _) (.cons (((tv3.keep (R3.keep hs5)).keep (R5.keep s6)).keep kp) (.cons (.int _) (.cons (.int _) .nil)))), hp, Nat.le_trans hl6 (Nat.le_trans tl_le hl3), rfl⟩
    · have hp := b_seesF h4 hp
      walk_at "rp"
      exact k.ok _ _ (b_ret hp) _ _ hs R3 hl3 tv3
abbrev s_read_factors : Stmt := top 31
theorem sc_read_factors : FnScope ["reader", "level", "result", "at", "sign"] ["reader", "level"] (defScope s_read_factors) := ⟨rfl, rfl, rfl, by decide +kernel, rfl, by decide +kernel, by decide +kernel⟩
theorem cal_read_factors (dx : DefAt K mg "read_factors" s_read_factors) (B : Bl mg) (PL : ParC K w mg) (M : RdM P w K mg base C DM DO) {k N : Nat} (hk : 10 ≤ k) (hN1 : N + 1 ≤ 25) (G_read_powers : Cal P w K mg base (k + 2) "read_powers" ["reader", "level"] (spRN C DM DO pPowers (N + 1)))  : Cal P w K mg base (k + 3) "read_factors" ["reader", "level"] (spRN C DM DO pFactors (N + 1)) := by
  obtain ⟨RK, M_at, M_sees, M_sees_kind, M_accept, M_expect, M_read, M_whole, M_deeper⟩ := M
  obtain ⟨aPRO, gPRO, f1, f2⟩ := PL.pro
  refine cal_mk dx sc_read_factors (fun _ _ _ _ _ _ us hl => match us, hl with | [_, _], _ => rfl) (fun vs H Q E h => ?_) (fun f cdv A outer s H vs Q E hr h => ?_)
  · obtain ⟨r, L, n, ts, rfl, _⟩ := h
    rfl
  · obtain ⟨r, L, n, ts, rfl, hn, hN, R, o, ho, k⟩ := h
    have tk : L2N.Takes (cxOf (L2N.CX P w) P w K mg base ["reader", "level", "result", "at", "sign"] "read_factors" (defScope s_read_factors) f cdv A outer s H E) (fun cls d _ H => E cls d H) := L2N.takes_of rfl rfl rfl rfl
    refine ⟨_, (pss_cons (ps_set (i := 2) sc_read_factors.nd rfl (Or.inl rfl) (pe_cal G_read_powers (hr.mono (by first | decide | omega)) tk (pa_cons (pv 0) (pa_cons (pv 1) pa_nil))))
      (pss_cons (ps_while (passes_of rfl) (PW.pt (pw_or (pt_val (pe_metX M_sees (hr.mono (by first | decide | omega)) tk (pv 0) (pa_cons pe_str (pa_cons pe_str pa_nil)))) (pw_or1 (pt_val (pe_metX M_sees (hr.mono (by first | decide | omega)) tk (pv 0) (pa_cons pe_str (pa_cons pe_str pa_nil)))))))
      (pss_cons (ps_set (i := 3) sc_read_factors.nd rfl (Or.inl rfl) (pe_metX0 M_at (hr.mono (by first | decide | omega)) tk (pv 0)))
      (pss_cons (ps_set (i := 4) sc_read_factors.nd rfl (Or.inl rfl) (pe_metX M_read (hr.mono (by first | decide | omega)) tk (pv 0) (pa_cons pe_str pa_nil)))
      (pss_cons (ps_set (i := 1) sc_read_factors.nd rfl (Or.inl rfl) (pe_metX M_deeper (hr.mono (by first | decide | omega)) tk (pv 0) (pa_cons (pv 1) pa_nil)))
      (pss_one (ps_set (i := 2) sc_read_factors.nd rfl (Or.inl rfl) (pe_tup (pa_cons (pe_ix ix_kdict (pe_gref gPRO) (pv 4) (fun _ _ => rfl)) (pa_cons (pv 2) (pa_cons (pe_cal G_read_powers (hr.mono (by first | decide | omega)) tk (pa_cons (pv 0) (pa_cons (pv 1) pa_nil))) (pa_cons (pv 3) pa_nil)))))))))))
      (pss_one (ps_ret (pv 2))))), ?_⟩
    unfold pFactors at ho
    walk_at "rp"
    refine ⟨r, L, n, _, rfl, by omega, by omega, R, r_sub ho k.err RSame.refl fun a ts2 v H2 ho s2 R2 hl2 tv => ?_⟩
    walk_at "rp"
    refine ⟨fun m σ' H' => ∃ (n' : Nat) (a : PyData) (v : V) (v3 v4 : Option V) (ts' : TS1), σ' = [some (.ref r), some (.int (24 - (n' : Int))), some v, v3, v4] ∧ n' ≤ n ∧ RSame r H H' ∧ Rdr C H' r L ts' ∧ Tp H' v a ∧ pFacL L n' a ts' = some o ∧ ts'.length ≤ ts.length ∧ m = n', ⟨_, n, a, v, none, none, ts2, rfl, Nat.le_refl _, s2, R2, tv, ho, hl2, rfl⟩, ?_⟩
    rintro m3 σ' H3 ⟨n3, a3, v3, w3, w4, ts3, rfl, hn3, hs, R3, tv3, hp, hl3, rfl⟩
    rw [pFacL.eq_def] at hp
    walk_at "rp"
    refine ⟨r, L, ts3, _, _, rfl, by decide, R3, ?_⟩
    walk_at "rp"
    refine r_ite (fun h4 => ?_) (fun h4 => ?_)
    ·
      have hp := b_at (b_seesT h4 hp)
      walk_at "rp"
      refine ⟨fun σ' H' => ∃ m', m' < m3 ∧ ∃ (n' : Nat) (a : PyData) (v : V) (v3 v4 : Option V) (ts' : TS1), σ' = [some (.ref r), some (.int (24 - (n' : Int))), some v, v3, v4] ∧ n' ≤ n ∧ RSame r H H' ∧ Rdr C H' r L ts' ∧ Tp H' v a ∧ pFacL L n' a ts' = some o ∧ ts'.length ≤ ts.length ∧ m' = n', fun _ _ h => h, ?_⟩
      walk_at "rp"
      refine ⟨r, L, ts3, rfl, R3, ?_⟩
      walk_at "rp"
      have hks : kindB ts3 "sign" = true := sees_kind h4
      refine ⟨r, L, ts3, _, rfl, R3, fun h5 v5 H5 hs5 R5 tv5 => ?_, fun h5 => by rw [hks] at h5; cases h5⟩
      have hp := b_readT h5 hp
      have hv : headV ts3 = .str "*" := sees_head (by decide) h4
      rw [hv] at tv5 hp
      cases tv5 with
      | str _ =>
        walk_at "rp"
        refine ⟨r, m3, rfl, R5.ins, by omega, fun h0 => (k.err _ (b_deep0 h0 hp)).mono (hs.trans hs5), fun m hm => ?_⟩
        have hp := b_deepS hm hp
        walk_at "rp"
        refine ⟨_, _, _, rfl, rfl, f1, ?_⟩
        walk_at "rp"
        refine ⟨r, L, m, _, rfl, by omega, by omega, R5, r_sub hp k.err (hs.trans hs5) fun a6 ts6 v6 H6 hp s6 R6 hl6 tv6 => ?_⟩
        walk_at "rp"
        intro p7 hp7
        walk_at "rp"
        have s7 := ((hs.trans hs5).trans s6).new (o := .tup [.str "mul", v3, v6, .int (atP L ts3 : Int)]) hp7
        have kp := Keep.new (o := .tup [.str "mul", v3, v6, .int (atP L ts3 : Int)]) hp7
        exact ⟨m, by omega, m, _, _, _, _, ts6, rfl, by omega, s7, R6.same (Same.new hp7), .tup upd_same (.cons (.str _) (.cons (((tv3.keep (R3.keep hs5)).keep (R5.keep s6)).keep kp) (.cons (tv6.keep kp) (.cons (.int _) .nil)))), hp, Nat.le_trans hl6 (Nat.le_trans tl_le hl3), rfl⟩

    have hp := b_seesF h4 hp
    walk_at "rp"
    refine ⟨r, L, ts3, _, _, rfl, by decide, R3, ?_⟩
    walk_at "rp"
    refine r_ite (fun h4 => ?_) (fun h4 => ?_)
    ·
      have hp := b_at (b_seesT h4 hp)
      walk_at "rp"
      refine ⟨fun σ' H' => ∃ m', m' < m3 ∧ ∃ (n' : Nat) (a : PyData) (v : V) (v3 v4 : Option V) (ts' : TS1), σ' = [some (.ref r), some (.int (24 - (n' : Int))), some v, v3, v4] ∧ n' ≤ n ∧ RSame r H H' ∧ Rdr C H' r L ts' ∧ Tp H' v a ∧ pFacL L n' a ts' = some o ∧ ts'.length ≤ ts.length ∧ m' = n', fun _ _ h => h, ?_⟩
      walk_at "rp"
      refine ⟨r, L, ts3, rfl, R3, ?_⟩
      walk_at "rp"
      have hks : kindB ts3 "sign" = true := sees_kind h4
      refine ⟨r, L, ts3, _, rfl, R3, fun h5 v5 H5 hs5 R5 tv5 => ?_, fun h5 => by rw [hks] at h5; cases h5⟩
      have hp := b_readT h5 hp
      have hv : headV ts3 = .str "/" := sees_head (by decide) h4
      rw [hv] at tv5 hp
      cases tv5 with
      | str _ =>
        walk_at "rp"
        refine ⟨r, m3, rfl, R5.ins, by omega, fun h0 => (k.err _ (b_deep0 h0 hp)).mono (hs.trans hs5), fun m hm => ?_⟩
        have hp := b_deepS hm hp
        walk_at "rp"
        refine ⟨_, _, _, rfl, rfl, f2, ?_⟩
        walk_at "rp"
        refine ⟨r, L, m, _, rfl, by omega, by omega, R5, r_sub hp k.err (hs.trans hs5) fun a6 ts6 v6 H6 hp s6 R6 hl6 tv6 => ?_⟩
        walk_at "rp"
        intro p7 hp7
        walk_at "rp"
        have s7 := ((hs.trans hs5).trans s6).new (o := .tup [.str "div", v3, v6, .int (atP L ts3 : Int)]) hp7
        have kp := Keep.new (o := .tup [.str "div", v3, v6, .int (atP L ts3 : Int)]) hp7
        exact ⟨m, by omega, m, _, _, _, _, ts6, rfl, by omega, s7, R6.same (Same.new hp7), .tup upd_same (.cons (.str _) (.cons (((tv3.keep (R3.keep hs5)).keep (R5.keep s6)).keep kp) (.cons (tv6.keep kp) (.cons (.int _) .nil)))), hp, Nat.le_trans hl6 (Nat.le_trans tl_le hl3), rfl⟩

    have hp := b_seesF h4 hp
    walk_at "rp"
    exact k.ok _ _ (b_ret hp) _ _ hs R3 hl3 tv3
abbrev s_read_terms : Stmt := top 32
theorem sc_read_terms : FnScope ["reader", "level", "result", "at", "sign"] ["reader", "level"] (defScope s_read_terms) := ⟨rfl, rfl, rfl, by decide +kernel, rfl, by decide +kernel, by decide +kernel⟩
theorem cal_read_terms (dx : DefAt K mg "read_terms" s_read_terms) (B : Bl mg) (PL : ParC K w mg) (M : RdM P w K mg base C DM DO) {k N : Nat} (hk : 10 ≤ k) (hN1 : N + 1 ≤ 25) (G_read_factors : Cal P w K mg base (k + 3) "read_factors" ["reader", "level"] (spRN C DM DO pFactors (N + 1)))  : Cal P w K mg base (k + 4) "read_terms" ["reader", "level"] (spRN C DM DO pTerms (N + 1)) := by
  obtain ⟨RK, M_at, M_sees, M_sees_kind, M_accept, M_expect, M_read, M_whole, M_deeper⟩ := M
  obtain ⟨aSUMS, gSUMS, f1, f2⟩ := PL.sums
  refine cal_mk dx sc_read_terms (fun _ _ _ _ _ _ us hl => match us, hl with | [_, _], _ => rfl) (fun vs H Q E h => ?_) (fun f cdv A outer s H vs Q E hr h => ?_)
  · obtain ⟨r, L, n, ts, rfl, _⟩ := h
    rfl
  · obtain ⟨r, L, n, ts, rfl, hn, hN, R, o, ho, k⟩ := h
    have tk : L2N.Takes (cxOf (L2N.CX P w) P w K mg base ["reader", "level", "result", "at", "sign"] "read_terms" (defScope s_read_terms) f cdv A outer s H E) (fun cls d _ H => E cls d H) := L2N.takes_of rfl rfl rfl rfl
    refine ⟨_, (pss_cons (ps_set (i := 2) sc_read_terms.nd rfl (Or.inl rfl) (pe_cal G_read_factors (hr.mono (by first | decide | omega)) tk (pa_cons (pv 0) (pa_cons (pv 1) pa_nil))))
      (pss_cons (ps_while (passes_of rfl) (PW.pt (pw_or (pt_val (pe_metX M_sees (hr.mono (by first | decide | omega)) tk (pv 0) (pa_cons pe_str (pa_cons pe_str pa_nil)))) (pw_or1 (pt_val (pe_metX M_sees (hr.mono (by first | decide | omega)) tk (pv 0) (pa_cons pe_str (pa_cons pe_str pa_nil)))))))
      (pss_cons (ps_set (i := 3) sc_read_terms.nd rfl (Or.inl rfl) (pe_metX0 M_at (hr.mono (by first | decide | omega)) tk (pv 0)))
      (pss_cons (ps_set (i := 4) sc_read_terms.nd rfl (Or.inl rfl) (pe_metX M_read (hr.mono (by first | decide | omega)) tk (pv 0) (pa_cons pe_str pa_nil)))
      (pss_cons (ps_set (i := 1) sc_read_terms.nd rfl (Or.inl rfl) (pe_metX M_deeper (hr.mono (by first | decide | omega)) tk (pv 0) (pa_cons (pv 1) pa_nil)))
      (pss_one (ps_set (i := 2) sc_read_terms.nd rfl (Or.inl rfl) (pe_tup (pa_cons (pe_ix ix_kdict (pe_gref gSUMS) (pv 4) (fun _ _ => rfl)) (pa_cons (pv 2) (pa_cons (pe_cal G_read_factors (hr.mono (by first | decide | omega)) tk (pa_cons (pv 0) (pa_cons (pv 1) pa_nil))) (pa_cons (pv 3) pa_nil)))))))))))
      (pss_one (ps_ret (pv 2))))), ?_⟩
    unfold pTerms at ho
    walk_at "rp"
    refine ⟨r, L, n, _, rfl, by omega, by omega, R, r_sub ho k.err RSame.refl fun a ts2 v H2 ho s2 R2 hl2 tv => ?_⟩
    walk_at "rp"
    refine ⟨fun m σ' H' => ∃ (n' : Nat) (a : PyData) (v : V) (v3 v4 : Option V) (ts' : TS1), σ' = [some (.ref r), some (.int (24 - (n' : Int))), some v, v3, v4] ∧ n' ≤ n ∧ RSame r H H' ∧ Rdr C H' r L ts' ∧ Tp H' v a ∧ pTermL L n' a ts' = some o ∧ ts'.length ≤ ts.length ∧ m = n', ⟨_, n, a, v, none, none, ts2, rfl, Nat.le_refl _, s2, R2, tv, ho, hl2, rfl⟩, ?_⟩
    rintro m3 σ' H3 ⟨n3, a3, v3, w3, w4, ts3, rfl, hn3, hs, R3, tv3, hp, hl3, rfl⟩
    rw [pTermL.eq_def] at hp
    walk_at "rp"
    refine ⟨r, L, ts3, _, _, rfl, by decide, R3, ?_⟩
    walk_at "rp"
    refine r_ite (fun h4 => ?_) (fun h4 => ?_)
    ·
      have hp := b_at (b_seesT h4 hp)
      walk_at "rp"
      refine ⟨fun σ' H' => ∃ m', m' < m3 ∧ ∃ (n' : Nat) (a : PyData) (v : V) (v3 v4 : Option V) (ts' : TS1), σ' = [some (.ref r), some (.int (24 - (n' : Int))), some v, v3, v4] ∧ n' ≤ n ∧ RSame r H H' ∧ Rdr C H' r L ts' ∧ Tp H' v a ∧ pTermL L n' a ts' = some o ∧ ts'.length ≤ ts.length ∧ m' = n', fun _ _ h => h, ?_⟩
      walk_at "rp"
      refine ⟨r, L, ts3, rfl, R3, ?_⟩
      walk_at "rp"
      have hks : kindB ts3 "sign" = true := sees_kind h4
      refine ⟨r, L, ts3, _, rfl, R3, fun h5 v5 H5 hs5 R5 tv5 => ?_, fun h5 => by rw [hks] at h5; cases h5⟩
      have hp := b_readT h5 hp
      have hv : headV ts3 = .str "+" := sees_head (by decide) h4
      rw [hv] at tv5 hp
      cases tv5 with
      | str _ =>
        walk_at "rp"
        refine ⟨r, m3, rfl, R5.ins, by omega, fun h0 => (k.err _ (b_deep0 h0 hp)).mono (hs.trans hs5), fun m hm => ?_⟩
        have hp := b_deepS hm hp
        walk_at "rp"
        refine ⟨_, _, _, rfl, rfl, f1, ?_⟩
        walk_at "rp"
        refine ⟨r, L, m, _, rfl, by omega, by omega, R5, r_sub hp k.err (hs.trans hs5) fun a6 ts6 v6 H6 hp s6 R6 hl6 tv6 => ?_⟩
        walk_at "rp"
        intro p7 hp7
        walk_at "rp"
        have s7 := ((hs.trans hs5).trans s6).new (o := .tup [.str "add", v3, v6, .int (atP L ts3 : Int)]) hp7
        have kp := Keep.new (o := .tup [.str "add", v3, v6, .int (atP L ts3 : Int)]) hp7
        exact ⟨m, by omega, m, _, _, _, _, ts6, rfl, by omega, s7, R6.same (Same.new hp7), .tup upd_same (.cons (.str _) (.cons (((tv3.keep (R3.keep hs5)).keep (R5.keep s6)).keep kp) (.cons (tv6.keep kp) (.cons (.int _) .nil)))), hp, Nat.le_trans hl6 (Nat.le_trans tl_le hl3), rfl⟩

    have hp := b_seesF h4 hp
    walk_at "rp"
    refine ⟨r, L, ts3, _, _, rfl, by decide, R3, ?_⟩
    walk_at "rp"
    refine r_ite (fun h4 => ?_) (fun h4 => ?_)
    ·
      have hp := b_at (b_seesT h4 hp)
      walk_at "rp"
      refine ⟨fun σ' H' => ∃ m', m' < m3 ∧ ∃ (n' : Nat) (a : PyData) (v : V) (v3 v4 : Option V) (ts' : TS1), σ' = [some (.ref r), some (.int (24 - (n' : Int))), some v, v3, v4] ∧ n' ≤ n ∧ RSame r H H' ∧ Rdr C H' r L ts' ∧ Tp H' v a ∧ pTermL L n' a ts' = some o ∧ ts'.length ≤ ts.length ∧ m' = n', fun _ _ h => h, ?_⟩
      walk_at "rp"
      refine ⟨r, L, ts3, rfl, R3, ?_⟩
      walk_at "rp"
      have hks : kindB ts3 "sign" = true := sees_kind h4
      refine ⟨r, L, ts3, _, rfl, R3, fun h5 v5 H5 hs5 R5 tv5 => ?_, fun h5 => by rw [hks] at h5; cases h5⟩
      have hp := b_readT h5 hp
      have hv : headV ts3 = .str "-" := sees_head (by decide) h4
      rw [hv] at tv5 hp
      cases tv5 with
      | str _ =>
        walk_at "rp"
        refine ⟨r, m3, rfl, R5.ins, by omega, fun h0 => (k.err _ (b_deep0 h0 hp)).mono (hs.trans hs5), fun m hm => ?_⟩
        have hp := b_deepS hm hp
        walk_at "rp"
        refine ⟨_, _, _, rfl, rfl, f2, ?_⟩
        walk_at "rp"
        refine ⟨r, L, m, _, rfl, by omega, by omega, R5, r_sub hp k.err (hs.trans hs5) fun a6 ts6 v6 H6 hp s6 R6 hl6 tv6 => ?_⟩
        walk_at "rp"
        intro p7 hp7
        walk_at "rp"
        have s7 := ((hs.trans hs5).trans s6).new (o := .tup [.str "sub", v3, v6, .int (atP L ts3 : Int)]) hp7
        have kp := Keep.new (o := .tup [.str "sub", v3, v6, .int (atP L ts3 : Int)]) hp7
        exact ⟨m, by omega, m, _, _, _, _, ts6, rfl, by omega, s7, R6.same (Same.new hp7), .tup upd_same (.cons (.str _) (.cons (((tv3.keep (R3.keep hs5)).keep (R5.keep s6)).keep kp) (.cons (tv6.keep kp) (.cons (.int _) .nil)))), hp, Nat.le_trans hl6 (Nat.le_trans tl_le hl3), rfl⟩

    have hp := b_seesF h4 hp
    walk_at "rp"
    exact k.ok _ _ (b_ret hp) _ _ hs R3 hl3 tv3
end
end Al
namespace Al
open PySem PySem.Spec PyProof.Rows L2 NdefX PySem.W
local macro_rules | `(tactic| walk_at "rd1") => `(tactic| with_reducible first
  | (show tVar _ _ _ _; refine r_var (by with_unfolding_all rfl) ?_) | refine r_c ?_ | refine r_op ?_ | refine r_I0 ?_ | refine r_un ?_ | refine r_U ?_
  | (show rI _ _ _ _ _ _; refine r_I (by with_unfolding_all first | exact ⟨by decide, by decide⟩ | (show (0 : Int) < _; decide)) ?_)
  | refine r_eqI ?_ | refine r_neI ?_ | refine r_eqS ?_ | refine r_neS ?_ | refine r_eqB ?_ | refine r_neB ?_ | refine r_chain ?_
  | refine r_test ?_ | refine r_B ?_ | refine r_bl ?_ | refine r_int ?_ | refine r_and ?_ | refine r_or ?_ | refine r_not ?_ | refine r_andV ?_ | refine r_orV ?_ | refine r_notV ?_
  | refine r_if ?_ | refine r_nil ?_ | refine r_cons ?_ | refine r_cb ?_ | refine r_call ?_ | refine r_callS ?_ | refine r_tup ?_ | refine r_lst ?_ | refine r_seq ?_ | refine r_next ?_ | refine r_asg ?_
  | refine r_name ?_ | refine r_ifS ?_ | refine r_ret ?_ | refine r_retN ?_ | refine r_drop ?_ | refine r_brk ?_ | refine r_ct ?_ | refine r_sl ?_ | refine r_part ?_ | refine r_nopart ?_
  | refine r_bm ?_ | refine r_bm0 ?_ | refine r_raiseX ?_ | refine r_mkO ?_ | refine iteF ?_ | refine iteT ?_ | refine r_int1 ?_ | refine r_int1b ?_ | (show _ ≤ sizeLine ∧ _; refine r_sz (by with_unfolding_all first | omega | (simp only [List.length_cons, List.length_nil]; omega)) ?_)
  | (show ∃ _, _; refine ⟨_, rfl, ?_⟩) | (show ∃ _, _; refine ⟨_, _, rfl, rfl, ?_⟩) | (show ∃ _, _; refine ⟨_, _, rfl, ?_⟩))
local macro_rules | `(tactic| walk_at "rd") => `(tactic| repeat (walk_at "rd1"))
local macro_rules | `(tactic| walk_at "rd2") => `(tactic| with_reducible first
  | (show tFld _ _ _ _ _ _; refine r_fldI (by with_unfolding_all rfl) (by with_unfolding_all assumption) (by with_unfolding_all assumption) (by with_unfolding_all assumption) (by with_unfolding_all rfl) ?_)
  | (show tMetS _ _ _ _ _ _ _ _ _; refine r_rm (by with_unfolding_all assumption) (by with_unfolding_all rfl) (by decide) ?_)
  | refine r_sfl ?_ | refine iteNF ?_ | refine iteNT ?_ | refine r_makS ?_)
local macro_rules | `(tactic| walk_at "rp") => `(tactic| repeat first | walk_at "rd1" | walk_at "rd2")

section
variable {P : Program} {w : World} {K : Frag} {mg : Str → Option Value} {base : Heap} {C DM DO : Addr}
abbrev s_read_plain : Stmt := top 33
theorem sc_read_plain : FnScope ["reader", "level", "at", "result", "sign"] ["reader", "level"] (defScope s_read_plain) := ⟨rfl, rfl, rfl, by decide +kernel, rfl, by decide +kernel, by decide +kernel⟩
theorem cal_read_plain (dx : DefAt K mg "read_plain" s_read_plain) (B : Bl mg) (PL : ParC K w mg) (M : RdM P w K mg base C DM DO) {k N : Nat} (hk : 10 ≤ k) (hN1 : N + 1 ≤ 25) (G_read_plain : Cal P w K mg base (k) "read_plain" ["reader", "level"] (spRN C DM DO pPlain (N))) (G_read_terms : Cal P w K mg base (k + 4) "read_terms" ["reader", "level"] (spRN C DM DO pTerms (N + 1)))  : Cal P w K mg base (k + 5) "read_plain" ["reader", "level"] (spRN C DM DO pPlain (N + 1)) := by
  obtain ⟨RK, M_at, M_sees, M_sees_kind, M_accept, M_expect, M_read, M_whole, M_deeper⟩ := M
  obtain ⟨aC, gCMP, fk, fq⟩ := PL.cmp
  refine cal_mk dx sc_read_plain (fun _ _ _ _ _ _ us hl => match us, hl with | [_, _], _ => rfl) (fun vs H Q E h => ?_) (fun f cdv A outer s H vs Q E hr h => ?_)
  · obtain ⟨r, L, n, ts, rfl, _⟩ := h
    rfl
  · obtain ⟨r, L, n, ts, rfl, hn, hN, R, o, ho, k⟩ := h
    have tk : L2N.Takes (cxOf (L2N.CX P w) P w K mg base ["reader", "level", "at", "result", "sign"] "read_plain" (defScope s_read_plain) f cdv A outer s H E) (fun cls d _ H => E cls d H) := L2N.takes_of rfl rfl rfl rfl
    refine ⟨_, (pss_cons (ps_set (i := 2) sc_read_plain.nd rfl (Or.inl rfl) (pe_metX0 M_at (hr.mono (by first | decide | omega)) tk (pv 0)))
      (pss_cons (ps_if (pt_val (pe_metX M_accept (hr.mono (by first | decide | omega)) tk (pv 0) (pa_cons pe_str (pa_cons pe_str pa_nil))))
      (pss_one (ps_ret (pe_tup (pa_cons pe_str (pa_cons (pe_cal G_read_plain (hr.mono (by first | decide | omega)) tk (pa_cons (pv 0) (pa_cons (pe_metX M_deeper (hr.mono (by first | decide | omega)) tk (pv 0) (pa_cons (pv 1) pa_nil)) pa_nil))) (pa_cons (pv 2) pa_nil))))))
      pss_nil)
      (pss_cons (ps_set (i := 3) sc_read_plain.nd rfl (Or.inl rfl) (pe_cal G_read_terms (hr.mono (by first | decide | omega)) tk (pa_cons (pv 0) (pa_cons (pv 1) pa_nil))))
      (pss_cons (ps_for (passes_of rfl) rfl (pi_kk (pe_gref gCMP)) (pg_name (i := 4) sc_read_plain.nd rfl (Or.inl rfl))
      (pss_cons (ps_set (i := 2) sc_read_plain.nd rfl (Or.inl rfl) (pe_metX0 M_at (hr.mono (by first | decide | omega)) tk (pv 0)))
      (pss_one (ps_if (pt_val (pe_metX M_accept (hr.mono (by first | decide | omega)) tk (pv 0) (pa_cons pe_str (pa_cons (pv 4) pa_nil))))
      (pss_one (ps_ret (pe_tup (pa_cons (pe_ix ix_kdict (pe_gref gCMP) (pv 4) (fun _ _ => rfl)) (pa_cons (pv 3) (pa_cons (pe_cal G_read_terms (hr.mono (by first | decide | omega)) tk (pa_cons (pv 0) (pa_cons (pe_metX M_deeper (hr.mono (by first | decide | omega)) tk (pv 0) (pa_cons (pv 1) pa_nil)) pa_nil))) (pa_cons (pv 2) pa_nil)))))))
      pss_nil))))
      (pss_one (ps_ret (pv 3))))))), ?_⟩
    rw [pPlain.eq_def] at ho
    have ho := b_at ho
    walk_at "rp"
    refine ⟨r, L, ts, rfl, R, ?_⟩
    walk_at "rp"
    refine ⟨r, L, ts, _, _, rfl, by decide, R, fun h1 H1 hs1 R1 => ?_, fun h1 => ?_⟩
    · have ho := b_accT h1 ho
      walk_at "rp"
      refine ⟨r, n, rfl, R1.ins, by omega, fun h0 => (k.err _ (b_deep0 h0 ho)).mono hs1, fun m hm => ?_⟩
      have ho := b_deepS hm ho
      walk_at "rp"
      refine ⟨r, L, m, _, rfl, by omega, by omega, R1, r_sub ho k.err hs1 fun a ts2 v H2 ho s2 R2 hl2 tv => ?_⟩
      walk_at "rp"
      exact r_ret_tup k ho (hs1.trans s2) R2 (Nat.le_trans hl2 tl_le) (.cons (.str _) (.cons tv (.cons (.int _) .nil)))
    have ho := b_accF h1 ho
    walk_at "rp"
    refine ⟨r, L, n, _, rfl, by omega, by omega, R, r_sub ho k.err RSame.refl fun a ts2 v H2 ho s2 R2 hl2 tv => ?_⟩
    walk_at "rp"
    refine ⟨_, _, rfl, fk, for_it walk_kk (fun i σ' H' => ∃ v2 v4, σ' = [some (.ref r), some (.int (24 - (n : Int))), v2, some v, v4] ∧ H2 = H' ∧ pCmp L n a (cmps.drop i) ts2 = some o) ⟨_, _, rfl, rfl, ho⟩ (fun _ _ _ _ _ => trivial) ?_ ?_⟩
    · rintro i x σ' H3 H4 hi ⟨v2, v4, rfl, rfl, hp⟩ ⟨rfl, z, hz, rfl⟩
      have hi3 : i < cmps.length := by rw [List.length_map] at hi; exact hi
      have hze : z = (cmps[i]).1 := by
        rw [List.getElem?_map, List.getElem?_eq_getElem hi3] at hz
        exact (Option.some.inj hz).symm
      rw [List.drop_eq_getElem_cons hi3, pCmp.eq_def] at hp
      have hmem := List.getElem_mem hi3
      generalize hq : cmps[i] = q at *
      obtain ⟨z', hd⟩ := q
      subst hze
      have hp := b_at hp
      walk_at "rp"
      refine ⟨r, L, ts2, rfl, R2, ?_⟩
      walk_at "rp"
      refine ⟨r, L, ts2, _, _, rfl, by decide, R2, fun h5 H5 hs5 R5 => ?_, fun h5 => ?_⟩
      · have hp := b_accT h5 hp
        walk_at "rp"
        refine ⟨_, _, _, rfl, rfl, fq _ hmem, ?_⟩
        walk_at "rp"
        refine ⟨r, n, rfl, R5.ins, by omega, fun h0 => (k.err _ (b_deep0 h0 hp)).mono (s2.trans hs5), fun m hm => ?_⟩
        have hp := b_deepS hm hp
        walk_at "rp"
        refine ⟨r, L, m, _, rfl, by omega, by omega, R5, r_sub hp k.err (s2.trans hs5) fun a6 ts6 v6 H6 hp s6 R6 hl6 tv6 => ?_⟩
        walk_at "rp"
        exact r_ret_tup k hp ((s2.trans hs5).trans s6) R6 (Nat.le_trans hl6 (Nat.le_trans tl_le hl2)) (.cons (.str _) (.cons ((tv.keep (R2.keep hs5)).keep (R5.keep s6)) (.cons tv6 (.cons (.int _) .nil))))
      · have hp := b_accF h5 hp
        walk_at "rp"
        first | exact hp | exact ⟨rfl, hp⟩ | exact ⟨_, _, rfl, rfl, hp⟩
    · rintro σ' H3 ⟨v2, v4, rfl, rfl, hp⟩
      rw [show cmps.drop (cmps.map (·.1)).length = [] from rfl, pCmp.eq_def] at hp
      walk_at "rp"
      exact k.ok _ _ (b_ret hp) _ _ s2 R2 hl2 tv
abbrev s_read_both : Stmt := top 34
theorem sc_read_both : FnScope ["reader", "level", "result", "at"] ["reader", "level"] (defScope s_read_both) := ⟨rfl, rfl, rfl, by decide +kernel, rfl, by decide +kernel, by decide +kernel⟩
theorem cal_read_both (dx : DefAt K mg "read_both" s_read_both) (B : Bl mg) (PL : ParC K w mg) (M : RdM P w K mg base C DM DO) {k N : Nat} (hk : 10 ≤ k) (hN1 : N + 1 ≤ 25) (G_read_plain : Cal P w K mg base (k + 5) "read_plain" ["reader", "level"] (spRN C DM DO pPlain (N + 1)))  : Cal P w K mg base (k + 6) "read_both" ["reader", "level"] (spRN C DM DO pBoth (N + 1)) := by
  obtain ⟨RK, M_at, M_sees, M_sees_kind, M_accept, M_expect, M_read, M_whole, M_deeper⟩ := M
  refine cal_mk dx sc_read_both (fun _ _ _ _ _ _ us hl => match us, hl with | [_, _], _ => rfl) (fun vs H Q E h => ?_) (fun f cdv A outer s H vs Q E hr h => ?_)
  · obtain ⟨r, L, n, ts, rfl, _⟩ := h
    rfl
  · obtain ⟨r, L, n, ts, rfl, hn, hN, R, o, ho, k⟩ := h
    have tk : L2N.Takes (cxOf (L2N.CX P w) P w K mg base ["reader", "level", "result", "at"] "read_both" (defScope s_read_both) f cdv A outer s H E) (fun cls d _ H => E cls d H) := L2N.takes_of rfl rfl rfl rfl
    refine ⟨_, (pss_cons (ps_set (i := 2) sc_read_both.nd rfl (Or.inl rfl) (pe_cal G_read_plain (hr.mono (by first | decide | omega)) tk (pa_cons (pv 0) (pa_cons (pv 1) pa_nil))))
      (pss_cons (ps_while (passes_of rfl) (pt_val (pe_metX M_sees (hr.mono (by first | decide | omega)) tk (pv 0) (pa_cons pe_str (pa_cons pe_str pa_nil))))
      (pss_cons (ps_set (i := 3) sc_read_both.nd rfl (Or.inl rfl) (pe_metX0 M_at (hr.mono (by first | decide | omega)) tk (pv 0)))
      (pss_cons (ps_expr (pe_metX M_expect (hr.mono (by first | decide | omega)) tk (pv 0) (pa_cons pe_str (pa_cons pe_str pa_nil))))
      (pss_cons (ps_set (i := 1) sc_read_both.nd rfl (Or.inl rfl) (pe_metX M_deeper (hr.mono (by first | decide | omega)) tk (pv 0) (pa_cons (pv 1) pa_nil)))
      (pss_one (ps_set (i := 2) sc_read_both.nd rfl (Or.inl rfl) (pe_tup (pa_cons pe_str (pa_cons (pv 2) (pa_cons (pe_cal G_read_plain (hr.mono (by first | decide | omega)) tk (pa_cons (pv 0) (pa_cons (pv 1) pa_nil))) (pa_cons (pv 3) pa_nil)))))))))))
      (pss_one (ps_ret (pv 2))))), ?_⟩
    unfold pBoth at ho
    walk_at "rp"
    refine ⟨r, L, n, _, rfl, by omega, by omega, R, r_sub ho k.err RSame.refl fun a ts2 v H2 ho s2 R2 hl2 tv => ?_⟩
    walk_at "rp"
    refine ⟨fun m σ' H' => ∃ (n' : Nat) (a : PyData) (v : V) (v3 : Option V) (ts' : TS1), σ' = [some (.ref r), some (.int (24 - (n' : Int))), some v, v3] ∧ n' ≤ n ∧ RSame r H H' ∧ Rdr C H' r L ts' ∧ Tp H' v a ∧ pBothL L n' a ts' = some o ∧ ts'.length ≤ ts.length ∧ m = n', ⟨_, n, a, v, none, ts2, rfl, Nat.le_refl _, s2, R2, tv, ho, hl2, rfl⟩, ?_⟩
    rintro m3 σ' H3 ⟨n3, a3, v3, w3, ts3, rfl, hn3, hs, R3, tv3, hp, hl3, rfl⟩
    rw [pBothL.eq_def] at hp
    walk_at "rp"
    refine ⟨r, L, ts3, _, _, rfl, by decide, R3, ?_⟩
    walk_at "rp"
    refine r_ite (fun h4 => ?_) (fun h4 => ?_)
    · have hp := b_at (b_seesT h4 hp)
      walk_at "rp"
      refine ⟨fun σ' H' => ∃ m', m' < m3 ∧ ∃ (n' : Nat) (a : PyData) (v : V) (v3 : Option V) (ts' : TS1), σ' = [some (.ref r), some (.int (24 - (n' : Int))), some v, v3] ∧ n' ≤ n ∧ RSame r H H' ∧ Rdr C H' r L ts' ∧ Tp H' v a ∧ pBothL L n' a ts' = some o ∧ ts'.length ≤ ts.length ∧ m' = n', fun _ _ h => h, ?_⟩
      walk_at "rp"
      refine ⟨r, L, ts3, rfl, R3, ?_⟩
      walk_at "rp"
      refine ⟨r, L, ts3, _, _, rfl, by decide, R3, fun h5 H5 hs5 R5 => ?_, fun h5 => by rw [h4] at h5; cases h5⟩
      have hp := b_expT h5 hp
      walk_at "rp"
      refine ⟨r, m3, rfl, R5.ins, by omega, fun h0 => (k.err _ (b_deep0 h0 hp)).mono (hs.trans hs5), fun m hm => ?_⟩
      have hp := b_deepS hm hp
      walk_at "rp"
      refine ⟨r, L, m, _, rfl, by omega, by omega, R5, r_sub hp k.err (hs.trans hs5) fun a6 ts6 v6 H6 hp s6 R6 hl6 tv6 => ?_⟩
      walk_at "rp"
      intro p7 hp7
      walk_at "rp"
      have s7 := ((hs.trans hs5).trans s6).new (o := .tup [.str "and", v3, v6, .int (atP L ts3 : Int)]) hp7
      have kp := Keep.new (o := .tup [.str "and", v3, v6, .int (atP L ts3 : Int)]) hp7
      exact ⟨m, by omega, m, _, _, _, ts6, rfl, by omega, s7, R6.same (Same.new hp7), .tup upd_same (.cons (.str _) (.cons (((tv3.keep (R3.keep hs5)).keep (R5.keep s6)).keep kp) (.cons (tv6.keep kp) (.cons (.int _) .nil)))), hp, Nat.le_trans hl6 (Nat.le_trans tl_le hl3), rfl⟩
    · have hp := b_seesF h4 hp
      walk_at "rp"
      exact k.ok _ _ (b_ret hp) _ _ hs R3 hl3 tv3
abbrev s_read_expression : Stmt := top 35
theorem sc_read_expression : FnScope ["reader", "level", "at", "test", "first", "name", "value", "result"] ["reader", "level"] (defScope s_read_expression) := ⟨rfl, rfl, rfl, by decide +kernel, rfl, by decide +kernel, by decide +kernel⟩
theorem cal_read_expression (dx : DefAt K mg "read_expression" s_read_expression) (B : Bl mg) (PL : ParC K w mg) (M : RdM P w K mg base C DM DO) {k N : Nat} (hk : 10 ≤ k) (hN1 : N + 1 ≤ 25) (G_read_expression : Cal P w K mg base (k) "read_expression" ["reader", "level"] (spRN C DM DO pExpr (N))) (G_read_both : Cal P w K mg base (k + 6) "read_both" ["reader", "level"] (spRN C DM DO pBoth (N + 1)))  : Cal P w K mg base (k + 7) "read_expression" ["reader", "level"] (spRN C DM DO pExpr (N + 1)) := by
  obtain ⟨RK, M_at, M_sees, M_sees_kind, M_accept, M_expect, M_read, M_whole, M_deeper⟩ := M
  refine cal_mk dx sc_read_expression (fun _ _ _ _ _ _ us hl => match us, hl with | [_, _], _ => rfl) (fun vs H Q E h => ?_) (fun f cdv A outer s H vs Q E hr h => ?_)
  · obtain ⟨r, L, n, ts, rfl, _⟩ := h
    rfl
  · obtain ⟨r, L, n, ts, rfl, hn, hN, R, o, ho, k⟩ := h
    have tk : L2N.Takes (cxOf (L2N.CX P w) P w K mg base ["reader", "level", "at", "test", "first", "name", "value", "result"] "read_expression" (defScope s_read_expression) f cdv A outer s H E) (fun cls d _ H => E cls d H) := L2N.takes_of rfl rfl rfl rfl
    refine ⟨_, (pss_cons (ps_set (i := 2) sc_read_expression.nd rfl (Or.inl rfl) (pe_metX0 M_at (hr.mono (by first | decide | omega)) tk (pv 0)))
      (pss_cons (ps_if (pt_val (pe_metX M_accept (hr.mono (by first | decide | omega)) tk (pv 0) (pa_cons pe_str (pa_cons pe_str pa_nil))))
      (pss_cons (ps_set (i := 3) sc_read_expression.nd rfl (Or.inl rfl) (pe_cal G_read_expression (hr.mono (by first | decide | omega)) tk (pa_cons (pv 0) (pa_cons (pe_metX M_deeper (hr.mono (by first | decide | omega)) tk (pv 0) (pa_cons (pv 1) pa_nil)) pa_nil))))
      (pss_cons (ps_expr (pe_metX M_expect (hr.mono (by first | decide | omega)) tk (pv 0) (pa_cons pe_str (pa_cons pe_str pa_nil))))
      (pss_cons (ps_set (i := 4) sc_read_expression.nd rfl (Or.inl rfl) (pe_cal G_read_expression (hr.mono (by first | decide | omega)) tk (pa_cons (pv 0) (pa_cons (pe_metX M_deeper (hr.mono (by first | decide | omega)) tk (pv 0) (pa_cons (pv 1) pa_nil)) pa_nil))))
      (pss_cons (ps_expr (pe_metX M_expect (hr.mono (by first | decide | omega)) tk (pv 0) (pa_cons pe_str (pa_cons pe_str pa_nil))))
      (pss_one (ps_ret (pe_tup (pa_cons pe_str (pa_cons (pv 3) (pa_cons (pv 4) (pa_cons (pe_cal G_read_expression (hr.mono (by first | decide | omega)) tk (pa_cons (pv 0) (pa_cons (pe_metX M_deeper (hr.mono (by first | decide | omega)) tk (pv 0) (pa_cons (pv 1) pa_nil)) pa_nil))) (pa_cons (pv 2) pa_nil))))))))))))
      pss_nil)
      (pss_cons (ps_if (pt_val (pe_metX M_accept (hr.mono (by first | decide | omega)) tk (pv 0) (pa_cons pe_str (pa_cons pe_str pa_nil))))
      (pss_cons (ps_set (i := 5) sc_read_expression.nd rfl (Or.inl rfl) (pe_metX M_read (hr.mono (by first | decide | omega)) tk (pv 0) (pa_cons pe_str pa_nil)))
      (pss_cons (ps_expr (pe_metX M_expect (hr.mono (by first | decide | omega)) tk (pv 0) (pa_cons pe_str (pa_cons pe_str pa_nil))))
      (pss_cons (ps_set (i := 6) sc_read_expression.nd rfl (Or.inl rfl) (pe_cal G_read_expression (hr.mono (by first | decide | omega)) tk (pa_cons (pv 0) (pa_cons (pe_metX M_deeper (hr.mono (by first | decide | omega)) tk (pv 0) (pa_cons (pv 1) pa_nil)) pa_nil))))
      (pss_cons (ps_expr (pe_metX M_expect (hr.mono (by first | decide | omega)) tk (pv 0) (pa_cons pe_str (pa_cons pe_str pa_nil))))
      (pss_one (ps_ret (pe_tup (pa_cons pe_str (pa_cons (pv 5) (pa_cons (pv 6) (pa_cons (pe_cal G_read_expression (hr.mono (by first | decide | omega)) tk (pa_cons (pv 0) (pa_cons (pe_metX M_deeper (hr.mono (by first | decide | omega)) tk (pv 0) (pa_cons (pv 1) pa_nil)) pa_nil))) (pa_cons (pv 2) pa_nil))))))))))))
      pss_nil)
      (pss_cons (ps_set (i := 7) sc_read_expression.nd rfl (Or.inl rfl) (pe_cal G_read_both (hr.mono (by first | decide | omega)) tk (pa_cons (pv 0) (pa_cons (pv 1) pa_nil))))
      (pss_cons (ps_while (passes_of rfl) (pt_val (pe_metX M_sees (hr.mono (by first | decide | omega)) tk (pv 0) (pa_cons pe_str (pa_cons pe_str pa_nil))))
      (pss_cons (ps_set (i := 2) sc_read_expression.nd rfl (Or.inl rfl) (pe_metX0 M_at (hr.mono (by first | decide | omega)) tk (pv 0)))
      (pss_cons (ps_expr (pe_metX M_expect (hr.mono (by first | decide | omega)) tk (pv 0) (pa_cons pe_str (pa_cons pe_str pa_nil))))
      (pss_cons (ps_set (i := 1) sc_read_expression.nd rfl (Or.inl rfl) (pe_metX M_deeper (hr.mono (by first | decide | omega)) tk (pv 0) (pa_cons (pv 1) pa_nil)))
      (pss_one (ps_set (i := 7) sc_read_expression.nd rfl (Or.inl rfl) (pe_tup (pa_cons pe_str (pa_cons (pv 7) (pa_cons (pe_cal G_read_both (hr.mono (by first | decide | omega)) tk (pa_cons (pv 0) (pa_cons (pv 1) pa_nil))) (pa_cons (pv 2) pa_nil)))))))))))
      (pss_one (ps_ret (pv 7)))))))), ?_⟩
    rw [pExpr.eq_def] at ho
    have ho := b_at ho
    walk_at "rp"
    refine ⟨r, L, ts, rfl, R, ?_⟩
    walk_at "rp"
    refine ⟨r, L, ts, _, _, rfl, by decide, R, fun h1 H1 hs1 R1 => ?_, fun h1 => ?_⟩
    · have ho := b_accT h1 ho
      walk_at "rp"
      refine ⟨r, n, rfl, R1.ins, by omega, fun h0 => (k.err _ (b_deep0 h0 ho)).mono hs1, fun m hm => ?_⟩
      have ho := b_deepS hm ho
      walk_at "rp"
      refine ⟨r, L, m, _, rfl, by omega, by omega, R1, r_sub ho k.err hs1 fun a2 ts2 v2 H2 ho s2 R2 hl2 tv2 => ?_⟩
      walk_at "rp"
      refine ⟨r, L, ts2, _, _, rfl, by decide, R2, fun h3 H3 hs3 R3 => ?_, fun h3 => (k.err _ (b_expF h3 ho)).mono (hs1.trans s2)⟩
      have ho := b_expT h3 ho
      have s3 := (hs1.trans s2).trans hs3
      walk_at "rp"
      refine ⟨r, n, rfl, R3.ins, by omega, fun h0 => (k.err _ (b_deep0 h0 ho)).mono s3, fun m hm => ?_⟩
      have ho := b_deepS hm ho
      walk_at "rp"
      refine ⟨r, L, m, _, rfl, by omega, by omega, R3, r_sub ho k.err s3 fun a4 ts4 v4 H4 ho s4 R4 hl4 tv4 => ?_⟩
      walk_at "rp"
      refine ⟨r, L, ts4, _, _, rfl, by decide, R4, fun h5 H5 hs5 R5 => ?_, fun h5 => (k.err _ (b_expF h5 ho)).mono (s3.trans s4)⟩
      have ho := b_expT h5 ho
      have s5 := (s3.trans s4).trans hs5
      walk_at "rp"
      refine ⟨r, n, rfl, R5.ins, by omega, fun h0 => (k.err _ (b_deep0 h0 ho)).mono s5, fun m hm => ?_⟩
      have ho := b_deepS hm ho
      walk_at "rp"
      refine ⟨r, L, m, _, rfl, by omega, by omega, R5, r_sub ho k.err s5 fun a6 ts6 v6 H6 ho s6 R6 hl6 tv6 => ?_⟩
      walk_at "rp"
      exact r_ret_tup k ho (s5.trans s6) R6 (Nat.le_trans hl6 (Nat.le_trans tl_le (Nat.le_trans hl4 (Nat.le_trans tl_le (Nat.le_trans hl2 tl_le)))))
        (.cons (.str _) (.cons ((((tv2.keep (R2.keep hs3)).keep (R3.keep s4)).keep (R4.keep hs5)).keep (R5.keep s6)) (.cons ((tv4.keep (R4.keep hs5)).keep (R5.keep s6)) (.cons tv6 (.cons (.int _) .nil)))))
    have ho := b_accF h1 ho
    walk_at "rp"
    refine ⟨r, L, ts, _, _, rfl, by decide, R, fun h1 H1 hs1 R1 => ?_, fun h1 => ?_⟩
    · have ho := b_accT h1 ho
      walk_at "rp"
      refine ⟨r, L, ts.tail, _, rfl, R1, fun h2 v2 H2 hs2 R2 tv2 => ?_, fun h2 => (k.err _ (b_readF h2 ho)).mono hs1⟩
      have ho := b_readT h2 ho
      walk_at "rp"
      refine ⟨r, L, _, _, _, rfl, by decide, R2, fun h3 H3 hs3 R3 => ?_, fun h3 => (k.err _ (b_expF h3 ho)).mono (hs1.trans hs2)⟩
      have ho := b_expT h3 ho
      have s3 := (hs1.trans hs2).trans hs3
      walk_at "rp"
      refine ⟨r, n, rfl, R3.ins, by omega, fun h0 => (k.err _ (b_deep0 h0 ho)).mono s3, fun m hm => ?_⟩
      have ho := b_deepS hm ho
      walk_at "rp"
      refine ⟨r, L, m, _, rfl, by omega, by omega, R3, r_sub ho k.err s3 fun a4 ts4 v4 H4 ho s4 R4 hl4 tv4 => ?_⟩
      walk_at "rp"
      refine ⟨r, L, ts4, _, _, rfl, by decide, R4, fun h5 H5 hs5 R5 => ?_, fun h5 => (k.err _ (b_expF h5 ho)).mono (s3.trans s4)⟩
      have ho := b_expT h5 ho
      have s5 := (s3.trans s4).trans hs5
      walk_at "rp"
      refine ⟨r, n, rfl, R5.ins, by omega, fun h0 => (k.err _ (b_deep0 h0 ho)).mono s5, fun m hm => ?_⟩
      have ho := b_deepS hm ho
      walk_at "rp"
      refine ⟨r, L, m, _, rfl, by omega, by omega, R5, r_sub ho k.err s5 fun a6 ts6 v6 H6 ho s6 R6 hl6 tv6 => ?_⟩
      walk_at "rp"
      exact r_ret_tup k ho (s5.trans s6) R6 (Nat.le_trans hl6 (Nat.le_trans tl_le (Nat.le_trans hl4 (Nat.le_trans tl_le (Nat.le_trans tl_le tl_le)))))
        (.cons (.str _) (.cons ((((tv2.keep (R2.keep hs3)).keep (R3.keep s4)).keep (R4.keep hs5)).keep (R5.keep s6)) (.cons ((tv4.keep (R4.keep hs5)).keep (R5.keep s6)) (.cons tv6 (.cons (.int _) .nil)))))
    have ho := b_accF h1 ho
    walk_at "rp"
    refine ⟨r, L, n, _, rfl, by omega, by omega, R, r_sub ho k.err RSame.refl fun a ts2 v H2 ho s2 R2 hl2 tv => ?_⟩
    walk_at "rp"
    refine ⟨fun m σ' H' => ∃ (n' : Nat) (a : PyData) (v : V) (w2 : Option V) (ts' : TS1), σ' = [some (.ref r), some (.int (24 - (n' : Int))), w2, none, none, none, none, some v] ∧ n' ≤ n ∧ RSame r H H' ∧ Rdr C H' r L ts' ∧ Tp H' v a ∧ pOrL L n' (atP L ts) a ts' = some o ∧ ts'.length ≤ ts.length ∧ m = n', ⟨_, n, a, v, _, ts2, rfl, Nat.le_refl _, s2, R2, tv, ho, hl2, rfl⟩, ?_⟩
    rintro m3 σ' H3 ⟨n3, a3, v3, w3, ts3, rfl, hn3, hs, R3, tv3, hp, hl3, rfl⟩
    rw [pOrL.eq_def] at hp
    walk_at "rp"
    refine ⟨r, L, ts3, _, _, rfl, by decide, R3, ?_⟩
    walk_at "rp"
    refine r_ite (fun h4 => ?_) (fun h4 => ?_)
    · have hp := b_at (b_seesT h4 hp)
      walk_at "rp"
      refine ⟨fun σ' H' => ∃ m', m' < m3 ∧ ∃ (n' : Nat) (a : PyData) (v : V) (w2 : Option V) (ts' : TS1), σ' = [some (.ref r), some (.int (24 - (n' : Int))), w2, none, none, none, none, some v] ∧ n' ≤ n ∧ RSame r H H' ∧ Rdr C H' r L ts' ∧ Tp H' v a ∧ pOrL L n' (atP L ts) a ts' = some o ∧ ts'.length ≤ ts.length ∧ m' = n', fun _ _ h => h, ?_⟩
      walk_at "rp"
      refine ⟨r, L, ts3, rfl, R3, ?_⟩
      walk_at "rp"
      refine ⟨r, L, ts3, _, _, rfl, by decide, R3, fun h5 H5 hs5 R5 => ?_, fun h5 => by rw [h4] at h5; cases h5⟩
      have hp := b_expT h5 hp
      walk_at "rp"
      refine ⟨r, m3, rfl, R5.ins, by omega, fun h0 => (k.err _ (b_deep0 h0 hp)).mono (hs.trans hs5), fun m hm => ?_⟩
      have hp := b_deepS hm hp
      walk_at "rp"
      refine ⟨r, L, m, _, rfl, by omega, by omega, R5, r_sub hp k.err (hs.trans hs5) fun a6 ts6 v6 H6 hp s6 R6 hl6 tv6 => ?_⟩
      walk_at "rp"
      intro p7 hp7
      walk_at "rp"
      have s7 := ((hs.trans hs5).trans s6).new (o := .tup [.str "or", v3, v6, .int (atP L ts3 : Int)]) hp7
      have kp := Keep.new (o := .tup [.str "or", v3, v6, .int (atP L ts3 : Int)]) hp7
      exact ⟨m, by omega, m, _, _, _, ts6, rfl, by omega, s7, R6.same (Same.new hp7), .tup upd_same (.cons (.str _) (.cons (((tv3.keep (R3.keep hs5)).keep (R5.keep s6)).keep kp) (.cons (tv6.keep kp) (.cons (.int _) .nil)))), hp, Nat.le_trans hl6 (Nat.le_trans tl_le hl3), rfl⟩
    · have hp := b_seesF h4 hp
      walk_at "rp"
      exact k.ok _ _ (b_ret hp) _ _ hs R3 hl3 tv3
end
end Al
namespace Al
open PySem PySem.Spec PyProof.Rows L2 NdefX PySem.W
local macro_rules | `(tactic| walk_at "rd1") => `(tactic| with_reducible first
  | (show tVar _ _ _ _; refine r_var (by with_unfolding_all rfl) ?_) | refine r_c ?_ | refine r_op ?_ | refine r_I0 ?_ | refine r_un ?_ | refine r_U ?_
  | (show rI _ _ _ _ _ _; refine r_I (by with_unfolding_all first | exact ⟨by decide, by decide⟩ | (show (0 : Int) < _; decide)) ?_)
  | refine r_eqI ?_ | refine r_neI ?_ | refine r_eqS ?_ | refine r_neS ?_ | refine r_eqB ?_ | refine r_neB ?_ | refine r_chain ?_
  | refine r_test ?_ | refine r_B ?_ | refine r_bl ?_ | refine r_int ?_ | refine r_and ?_ | refine r_or ?_ | refine r_not ?_ | refine r_andV ?_ | refine r_orV ?_ | refine r_notV ?_
  | refine r_if ?_ | refine r_nil ?_ | refine r_cons ?_ | refine r_cb ?_ | refine r_call ?_ | refine r_callS ?_ | refine r_tup ?_ | refine r_lst ?_ | refine r_seq ?_ | refine r_next ?_ | refine r_asg ?_
  | refine r_name ?_ | refine r_ifS ?_ | refine r_ret ?_ | refine r_retN ?_ | refine r_drop ?_ | refine r_brk ?_ | refine r_ct ?_ | refine r_sl ?_ | refine r_part ?_ | refine r_nopart ?_
  | refine r_bm ?_ | refine r_bm0 ?_ | refine r_raiseX ?_ | refine r_mkO ?_ | refine iteF ?_ | refine iteT ?_ | refine r_int1 ?_ | refine r_int1b ?_ | (show _ ≤ sizeLine ∧ _; refine r_sz (by with_unfolding_all first | omega | (simp only [List.length_cons, List.length_nil]; omega)) ?_)
  | (show ∃ _, _; refine ⟨_, rfl, ?_⟩) | (show ∃ _, _; refine ⟨_, _, rfl, rfl, ?_⟩) | (show ∃ _, _; refine ⟨_, _, rfl, ?_⟩))
local macro_rules | `(tactic| walk_at "rd") => `(tactic| repeat (walk_at "rd1"))
local macro_rules | `(tactic| walk_at "rd2") => `(tactic| with_reducible first
  | (show tFld _ _ _ _ _ _; refine r_fldI (by with_unfolding_all rfl) (by with_unfolding_all assumption) (by with_unfolding_all assumption) (by with_unfolding_all assumption) (by with_unfolding_all rfl) ?_)
  | (show tMetS _ _ _ _ _ _ _ _ _; refine r_rm (by with_unfolding_all assumption) (by with_unfolding_all rfl) (by decide) ?_)
  | refine r_sfl ?_ | refine iteNF ?_ | refine iteNT ?_ | refine r_makS ?_)
local macro_rules | `(tactic| walk_at "rp") => `(tactic| repeat first | walk_at "rd1" | walk_at "rd2")

section
variable {P : Program} {w : World} {K : Frag} {mg : Str → Option Value} {base : Heap} {C DM DO : Addr}
abbrev s_read_parameters : Stmt := top 36
theorem sc_read_parameters : FnScope ["reader", "result", "more", "name", "units"] ["reader"] (defScope s_read_parameters) := ⟨rfl, rfl, rfl, by decide +kernel, rfl, by decide +kernel, by decide +kernel⟩
theorem cal_read_parameters (dx : DefAt K mg "read_parameters" s_read_parameters) (B : Bl mg) (PL : ParC K w mg) (M : RdM P w K mg base C DM DO) (G_read_product : Cal P w K mg base 6 "read_product" ["reader"] (spR0 C DM DO pProd))  : Cal P w K mg base (7) "read_parameters" ["reader"] (spR0 C DM DO pPars) := by
  obtain ⟨RK, M_at, M_sees, M_sees_kind, M_accept, M_expect, M_read, M_whole, M_deeper⟩ := M
  refine cal_mk dx sc_read_parameters (fun _ _ _ _ _ _ us hl => match us, hl with | [_], _ => rfl) (fun vs H Q E h => ?_) (fun f cdv A outer s H vs Q E hr h => ?_)
  · obtain ⟨r, L, ts, rfl, _⟩ := h
    rfl
  · obtain ⟨r, L, ts, rfl, R, o, ho, k⟩ := h
    have tk : L2N.Takes (cxOf (L2N.CX P w) P w K mg base ["reader", "result", "more", "name", "units"] "read_parameters" (defScope s_read_parameters) f cdv A outer s H E) (fun cls d _ H => E cls d H) := L2N.takes_of rfl rfl rfl rfl
    refine ⟨_, (pss_cons (ps_set (i := 1) sc_read_parameters.nd rfl (Or.inl rfl) (pe_lst pa_nil))
      (pss_cons (ps_expr (pe_metX M_expect (hr.mono (by first | decide | omega)) tk (pv 0) (pa_cons pe_str (pa_cons pe_str pa_nil))))
      (pss_cons (ps_if (pt_not (pt_val (pe_metX M_accept (hr.mono (by first | decide | omega)) tk (pv 0) (pa_cons pe_str (pa_cons pe_str pa_nil)))))
      (pss_cons (ps_set (i := 2) sc_read_parameters.nd rfl (Or.inl rfl) pe_bl)
      (pss_cons (ps_while (passes_of rfl) (pt_val (pv 2))
      (pss_cons (ps_set (i := 3) sc_read_parameters.nd rfl (Or.inl rfl) (pe_metX M_read (hr.mono (by first | decide | omega)) tk (pv 0) (pa_cons pe_str pa_nil)))
      (pss_cons (ps_set (i := 4) sc_read_parameters.nd rfl (Or.inl rfl) pe_non)
      (pss_cons (ps_if (pt_val (pe_metX M_accept (hr.mono (by first | decide | omega)) tk (pv 0) (pa_cons pe_str (pa_cons pe_str pa_nil))))
      (pss_one (ps_set (i := 4) sc_read_parameters.nd rfl (Or.inl rfl) (pe_cal G_read_product (hr.mono (by first | decide | omega)) tk (pa_cons (pv 0) pa_nil))))
      pss_nil)
      (pss_cons (ps_expr (pe_bm PySem.F.plainAttrs_list PySem.F.slot_list_append PySem.F.type_list_append mt_append (pv 1) (pa_cons (pe_tup (pa_cons (pv 3) (pa_cons (pv 4) pa_nil))) pa_nil)))
      (pss_one (ps_set (i := 2) sc_read_parameters.nd rfl (Or.inl rfl) (pe_metX M_accept (hr.mono (by first | decide | omega)) tk (pv 0) (pa_cons pe_str (pa_cons pe_str pa_nil))))))))))
      (pss_one (ps_expr (pe_metX M_expect (hr.mono (by first | decide | omega)) tk (pv 0) (pa_cons pe_str (pa_cons pe_str pa_nil)))))))
      pss_nil)
      (pss_one (ps_ret (pe_callTy call_tuple_of (by rfl) B.tuple (by decide +kernel) (pa_cons (pv 1) pa_nil))))))), ?_⟩
    unfold pPars at ho
    walk_at "rp"
    intro q hq
    have R0 : Rdr C (upd H q (.lst [])) r L ts := R.same (Same.new hq)
    walk_at "rp"
    have hqr : q ≠ r := by
      obtain ⟨dx, fs, hi⟩ := R.ins
      exact (RSame.fresh RSame.refl hi hq).2
    refine ⟨r, L, ts, _, _, rfl, by decide, R0, fun h1 H1 hs1 R1 => ?_, fun h1 => (k.err _ (b_expF h1 ho)).mono (RSame.refl.new hq)⟩
    have ho := b_expT h1 ho
    have s1 := (RSame.refl.new hq).trans hs1
    have hq1 := hs1.get _ _ hqr upd_same
    have hl1 := tl_lt h1
    walk_at "rp"
    refine ⟨r, L, ts.tail, _, _, rfl, by decide, R1, fun h2 H2 hs2 R2 => ?_, fun h2 => ?_⟩
    · have ho := b_accT h2 ho
      have hq2 := hs2.get _ _ hqr hq1
      walk_at "rp"
      refine ⟨q, [], rfl, .inl ⟨SqL.of hq2, ?_⟩⟩
      exact r_ret_tup k ho (s1.trans hs2) R2 (Nat.le_trans tl_le (by omega)) .nil
    have ho := b_accF h2 ho
    have hlen := R.len
    walk_at "rp"
    refine ⟨fun m σ' H' => ∃ (acc : List PyData) (us : List V) (b : Bool) (v3 v4 : Option V) (ts' : TS1), σ' = [some (.ref r), some (.ref q), some (.bl b), v3, v4] ∧ RSame r H H' ∧ Rdr C H' r L ts' ∧ H' q = some (.lst us) ∧ TpAll H' us acc ∧ parK L b acc ts' = some o ∧ ts'.length ≤ ts.length ∧ us.length + ts'.length ≤ 20000 ∧ m = (if b = true then 1 else 0) + ts'.length, ⟨_, [], [], true, none, none, ts.tail, rfl, s1, R1, hq1, .nil, ho, by omega, by simp only [List.length_nil]; omega, rfl⟩, ?_⟩
    rintro m σ' H3 ⟨acc, us, b, v3, v4, ts3, rfl, hs, R3, hq3, hus, hp, htl3, hlen3, rfl⟩
    cases b with
    | false =>
      have hp : (pExp L "sign" ")" >>= fun _ => (pure (.tuple acc) : Pr PyData)) ts3 = some o := hp
      walk_at "rp"
      refine ⟨r, L, ts3, _, _, rfl, by decide, R3, fun h5 H5 hs5 R5 => ?_, fun h5 => (k.err _ (b_expF h5 hp)).mono hs⟩
      have hp := b_expT h5 hp
      have hq5 := hs5.get _ _ hqr hq3
      walk_at "rp"
      refine ⟨q, us, rfl, .inl ⟨SqL.of hq5, ?_⟩⟩
      exact r_ret_tup k hp (hs.trans hs5) R5 (Nat.le_trans tl_le htl3) (hus.keep (R3.keep hs5))
    | true =>
      have hp : pParL L acc ts3 = some o := hp
      rw [pParL.eq_def] at hp
      walk_at "rp"
      refine ⟨fun σ' H' => ∃ m', m' < 1 + ts3.length ∧ ∃ (acc : List PyData) (us : List V) (b : Bool) (v3 v4 : Option V) (ts' : TS1), σ' = [some (.ref r), some (.ref q), some (.bl b), v3, v4] ∧ RSame r H H' ∧ Rdr C H' r L ts' ∧ H' q = some (.lst us) ∧ TpAll H' us acc ∧ parK L b acc ts' = some o ∧ ts'.length ≤ ts.length ∧ us.length + ts'.length ≤ 20000 ∧ m' = (if b = true then 1 else 0) + ts'.length, fun _ _ h => h, ?_⟩
      walk_at "rp"
      refine ⟨r, L, ts3, _, rfl, R3, fun h5 v5 H5 hs5 R5 tv5 => ?_, fun h5 => (k.err _ (b_readF h5 hp)).mono hs⟩
      have hp := b_readT h5 hp
      have hq5 := hs5.get _ _ hqr hq3
      walk_at "rp"
      have hlt5 : ts3.tail.length + 1 = ts3.length := by
        cases ts3 with
        | nil => cases h5
        | cons t rr => rfl
      refine ⟨r, L, ts3.tail, _, _, rfl, by decide, R5, fun h6 H6 hs6 R6 => ?_, fun h6 => ?_⟩
      · have hp := b_accT2 h6 hp
        have hq6 := hs6.get _ _ hqr hq5
        have hl6 := tl_lt h6
        walk_at "rp"
        refine ⟨r, L, _, rfl, R6, r_sub hp k.err ((hs.trans hs5).trans hs6) fun a7 ts7 v7 H7 hp s7 R7 hl7 tv7 => ?_⟩
        have hq7 := s7.get _ _ hqr hq6
        walk_at "rp"
        refine ⟨.inl ⟨rfl, _, SqL.of hq7⟩, ?_⟩
        walk_at "rp"
        intro p8 hp8
        have hqp : q ≠ p8 := ne_of_none hq7 hp8
        refine ⟨q, us, .ref p8, rfl, rfl, by rw [upd_ne hqp]; exact hq7, by rw [sizeLine_eq]; omega, ?_⟩
        have kp8 := Keep.new (o := .tup [v5, v7]) hp8
        have hq8 : upd H7 p8 (.tup [v5, v7]) q = some (.lst us) := by rw [upd_ne hqp]; exact hq7
        have kq8 := Keep.mut (o := .lst (us ++ [.ref p8])) hq8 fun xs z => nomatch z
        have kk := kp8.trans kq8
        have s8 := ((((hs.trans hs5).trans hs6).trans s7).new (o := .tup [v5, v7]) hp8).mut (o := .lst (us ++ [.ref p8])) hq hqr
        have R8 := Rdr.mut (us' := us ++ [.ref p8]) R hq ((((hs.trans hs5).trans hs6).trans s7).new (o := .tup [v5, v7]) hp8) (R7.same (Same.new hp8)) hq8
        have tp8 := TpAll.app ((((hus.keep (R3.keep hs5)).keep (R5.keep hs6)).keep (R6.keep s7)).keep kk) (.cons (.tup (a := p8) (kq8 _ _ upd_same) (.cons (((tv5.keep (R5.keep hs6)).keep (R6.keep s7)).keep kk) (.cons ((show Tp H7 v7 a7 from tv7).keep kk) .nil))) .nil)
        have hq9 : upd (upd H7 p8 (.tup [v5, v7])) q (.lst (us ++ [.ref p8])) q = _ := upd_same
        generalize upd (upd H7 p8 (.tup [v5, v7])) q (.lst (us ++ [.ref p8])) = H8 at *
        walk_at "rp"
        refine ⟨r, L, ts7, _, _, rfl, by decide, R8, fun h9 H9 hs9 R9 => ?_, fun h9 => ?_⟩
        · have hp := b_accT h9 hp
          have hq10 := hs9.get _ _ hqr hq9
          have hl9 := tl_lt h9
          walk_at "rp"
          refine ⟨1 + ts7.tail.length, ?_, _, _, true, _, _, ts7.tail, rfl, s8.trans hs9, R9, hq10, tp8.keep (R8.keep hs9), hp, ?_, ?_, rfl⟩
          · omega
          · omega
          · rw [List.length_append]; simp only [List.length_cons, List.length_nil]; omega
        · have hp := b_accF h9 hp
          walk_at "rp"
          refine ⟨0 + ts7.length, ?_, _, _, false, _, _, ts7, rfl, s8, R8, hq9, tp8, hp, ?_, ?_, rfl⟩
          · omega
          · omega
          · rw [List.length_append]; simp only [List.length_cons, List.length_nil]; omega

      · have hp := b_pure (b_accF2 h6 hp)
        walk_at "rp"
        refine ⟨.inl ⟨rfl, _, SqL.of hq5⟩, ?_⟩
        walk_at "rp"
        intro p8 hp8
        have hqp : q ≠ p8 := ne_of_none hq5 hp8
        refine ⟨q, us, .ref p8, rfl, rfl, by rw [upd_ne hqp]; exact hq5, by rw [sizeLine_eq]; omega, ?_⟩
        have kp8 := Keep.new (o := .tup [v5, .non]) hp8
        have hq8 : upd H5 p8 (.tup [v5, .non]) q = some (.lst us) := by rw [upd_ne hqp]; exact hq5
        have kq8 := Keep.mut (o := .lst (us ++ [.ref p8])) hq8 fun xs z => nomatch z
        have kk := kp8.trans kq8
        have s8 := ((hs.trans hs5).new (o := .tup [v5, .non]) hp8).mut (o := .lst (us ++ [.ref p8])) hq hqr
        have R8 := Rdr.mut (us' := us ++ [.ref p8]) R hq ((hs.trans hs5).new (o := .tup [v5, .non]) hp8) (R5.same (Same.new hp8)) hq8
        have tp8 := TpAll.app ((hus.keep (R3.keep hs5)).keep kk) (.cons (.tup (a := p8) (kq8 _ _ upd_same) (.cons ((tv5).keep kk) (.cons (((Tp.non : Tp H5 .non .none)).keep kk) .nil))) .nil)
        have hq9 : upd (upd H5 p8 (.tup [v5, .non])) q (.lst (us ++ [.ref p8])) q = _ := upd_same
        generalize upd (upd H5 p8 (.tup [v5, .non])) q (.lst (us ++ [.ref p8])) = H8 at *
        walk_at "rp"
        refine ⟨r, L, ts3.tail, _, _, rfl, by decide, R8, fun h9 H9 hs9 R9 => ?_, fun h9 => ?_⟩
        · have hp := b_accT h9 hp
          have hq10 := hs9.get _ _ hqr hq9
          have hl9 := tl_lt h9
          walk_at "rp"
          refine ⟨1 + ts3.tail.tail.length, ?_, _, _, true, _, _, ts3.tail.tail, rfl, s8.trans hs9, R9, hq10, tp8.keep (R8.keep hs9), hp, ?_, ?_, rfl⟩
          · omega
          · omega
          · rw [List.length_append]; simp only [List.length_cons, List.length_nil]; omega
        · have hp := b_accF h9 hp
          walk_at "rp"
          refine ⟨0 + ts3.tail.length, ?_, _, _, false, _, _, ts3.tail, rfl, s8, R8, hq9, tp8, hp, ?_, ?_, rfl⟩
          · omega
          · omega
          · rw [List.length_append]; simp only [List.length_cons, List.length_nil]; omega
end
end Al
namespace Al
open PySem PySem.Spec PyProof.Rows L2 NdefX PySem.W
local macro_rules | `(tactic| walk_at "rd1") => `(tactic| with_reducible first
  | (show tVar _ _ _ _; refine r_var (by with_unfolding_all rfl) ?_) | refine r_c ?_ | refine r_op ?_ | refine r_I0 ?_ | refine r_un ?_ | refine r_U ?_
  | (show rI _ _ _ _ _ _; refine r_I (by with_unfolding_all first | exact ⟨by decide, by decide⟩ | (show (0 : Int) < _; decide)) ?_)
  | refine r_eqI ?_ | refine r_neI ?_ | refine r_eqS ?_ | refine r_neS ?_ | refine r_eqB ?_ | refine r_neB ?_ | refine r_chain ?_
  | refine r_test ?_ | refine r_B ?_ | refine r_bl ?_ | refine r_int ?_ | refine r_and ?_ | refine r_or ?_ | refine r_not ?_ | refine r_andV ?_ | refine r_orV ?_ | refine r_notV ?_
  | refine r_if ?_ | refine r_nil ?_ | refine r_cons ?_ | refine r_cb ?_ | refine r_call ?_ | refine r_callS ?_ | refine r_tup ?_ | refine r_lst ?_ | refine r_seq ?_ | refine r_next ?_ | refine r_asg ?_
  | refine r_name ?_ | refine r_ifS ?_ | refine r_ret ?_ | refine r_retN ?_ | refine r_drop ?_ | refine r_brk ?_ | refine r_ct ?_ | refine r_sl ?_ | refine r_part ?_ | refine r_nopart ?_
  | refine r_bm ?_ | refine r_bm0 ?_ | refine r_raiseX ?_ | refine r_mkO ?_ | refine iteF ?_ | refine iteT ?_ | refine r_int1 ?_ | refine r_int1b ?_ | (show _ ≤ sizeLine ∧ _; refine r_sz (by with_unfolding_all first | omega | (simp only [List.length_cons, List.length_nil]; omega)) ?_)
  | (show ∃ _, _; refine ⟨_, rfl, ?_⟩) | (show ∃ _, _; refine ⟨_, _, rfl, rfl, ?_⟩) | (show ∃ _, _; refine ⟨_, _, rfl, ?_⟩))
local macro_rules | `(tactic| walk_at "rd") => `(tactic| repeat (walk_at "rd1"))
local macro_rules | `(tactic| walk_at "rd2") => `(tactic| with_reducible first
  | (show tFld _ _ _ _ _ _; refine r_fldI (by with_unfolding_all rfl) (by with_unfolding_all assumption) (by with_unfolding_all assumption) (by with_unfolding_all assumption) (by with_unfolding_all rfl) ?_)
  | (show tMetS _ _ _ _ _ _ _ _ _; refine r_rm (by with_unfolding_all assumption) (by with_unfolding_all rfl) (by decide) ?_)
  | refine r_sfl ?_ | refine iteNF ?_ | refine iteNT ?_ | refine r_makS ?_)
local macro_rules | `(tactic| walk_at "rp") => `(tactic| repeat first | walk_at "rd1" | walk_at "rd2")

section
variable {P : Program} {w : World} {K : Frag} {mg : Str → Option Value} {base : Heap} {C DM DO : Addr}
abbrev s_read_line : Stmt := top 37
theorem sc_read_line : FnScope ["reader", "at", "line", "name", "number", "parameters", "units", "value"] ["reader"] (defScope s_read_line) := ⟨rfl, rfl, rfl, by decide +kernel, rfl, by decide +kernel, by decide +kernel⟩
theorem cal_read_line (dx : DefAt K mg "read_line" s_read_line) (B : Bl mg) (PL : ParC K w mg) (M : RdM P w K mg base C DM DO) {k : Nat} (hk : 10 ≤ k) (G_read_expression : Cal P w K mg base k "read_expression" ["reader", "level"] (spRN C DM DO pExpr 24)) (G_read_product : Cal P w K mg base 6 "read_product" ["reader"] (spR0 C DM DO pProd)) (G_read_parameters : Cal P w K mg base 7 "read_parameters" ["reader"] (spR0 C DM DO pPars))  : Cal P w K mg base (k + 1) "read_line" ["reader"] (spLine C DM DO pLine) := by
  obtain ⟨RK, M_at, M_sees, M_sees_kind, M_accept, M_expect, M_read, M_whole, M_deeper⟩ := M
  refine cal_mk dx sc_read_line (fun _ _ _ _ _ _ us hl => match us, hl with | [_], _ => rfl) (fun vs H Q E h => ?_) (fun f cdv A outer s H vs Q E hr h => ?_)
  · obtain ⟨r, L, ts, rfl, _⟩ := h
    rfl
  · obtain ⟨r, L, ts, rfl, R, o, ho, k⟩ := h
    have tk : L2N.Takes (cxOf (L2N.CX P w) P w K mg base ["reader", "at", "line", "name", "number", "parameters", "units", "value"] "read_line" (defScope s_read_line) f cdv A outer s H E) (fun cls d _ H => E cls d H) := L2N.takes_of rfl rfl rfl rfl
    refine ⟨_, (pss_cons (ps_set (i := 1) sc_read_line.nd rfl (Or.inl rfl) (pe_metX0 M_at (hr.mono (by first | decide | omega)) tk (pv 0)))
      (pss_cons (ps_if (pt_val (pe_metX M_accept (hr.mono (by first | decide | omega)) tk (pv 0) (pa_cons pe_str (pa_cons pe_str pa_nil))))
      (pss_one (ps_set (i := 2) sc_read_line.nd rfl (Or.inl rfl) (pe_tup (pa_cons pe_str (pa_cons (pe_metX M_read (hr.mono (by first | decide | omega)) tk (pv 0) (pa_cons pe_str pa_nil)) (pa_cons (pv 1) pa_nil))))))
      (pss_one (ps_if (pt_val (pe_metX M_accept (hr.mono (by first | decide | omega)) tk (pv 0) (pa_cons pe_str (pa_cons pe_str pa_nil))))
      (pss_cons (ps_set (i := 3) sc_read_line.nd rfl (Or.inl rfl) (pe_metX M_read (hr.mono (by first | decide | omega)) tk (pv 0) (pa_cons pe_str pa_nil)))
      (pss_cons (ps_expr (pe_metX M_expect (hr.mono (by first | decide | omega)) tk (pv 0) (pa_cons pe_str (pa_cons pe_str pa_nil))))
      (pss_cons (ps_set (i := 4) sc_read_line.nd rfl (Or.inl rfl) (pe_metX M_read (hr.mono (by first | decide | omega)) tk (pv 0) (pa_cons pe_str pa_nil)))
      (pss_one (ps_set (i := 2) sc_read_line.nd rfl (Or.inl rfl) (pe_tup (pa_cons pe_str (pa_cons (pv 3) (pa_cons (pv 4) (pa_cons (pe_cal G_read_product (hr.mono (by first | decide | omega)) tk (pa_cons (pv 0) pa_nil)) (pa_cons (pv 1) pa_nil)))))))))))
      (pss_one (ps_if (pt_val (pe_metX M_accept (hr.mono (by first | decide | omega)) tk (pv 0) (pa_cons pe_str (pa_cons pe_str pa_nil))))
      (pss_cons (ps_set (i := 3) sc_read_line.nd rfl (Or.inl rfl) (pe_metX M_read (hr.mono (by first | decide | omega)) tk (pv 0) (pa_cons pe_str pa_nil)))
      (pss_cons (ps_set (i := 5) sc_read_line.nd rfl (Or.inl rfl) (pe_cal G_read_parameters (hr.mono (by first | decide | omega)) tk (pa_cons (pv 0) pa_nil)))
      (pss_cons (ps_set (i := 6) sc_read_line.nd rfl (Or.inl rfl) pe_non)
      (pss_cons (ps_if (pt_val (pe_metX M_accept (hr.mono (by first | decide | omega)) tk (pv 0) (pa_cons pe_str (pa_cons pe_str pa_nil))))
      (pss_one (ps_set (i := 6) sc_read_line.nd rfl (Or.inl rfl) (pe_cal G_read_product (hr.mono (by first | decide | omega)) tk (pa_cons (pv 0) pa_nil))))
      pss_nil)
      (pss_cons (ps_expr (pe_metX M_expect (hr.mono (by first | decide | omega)) tk (pv 0) (pa_cons pe_str (pa_cons pe_str pa_nil))))
      (pss_one (ps_set (i := 2) sc_read_line.nd rfl (Or.inl rfl) (pe_tup (pa_cons pe_str (pa_cons (pv 3) (pa_cons (pv 5) (pa_cons (pv 6) (pa_cons (pe_cal G_read_expression (hr.mono (by first | decide | omega)) tk (pa_cons (pv 0) (pa_cons pe_int pa_nil))) (pa_cons (pv 1) pa_nil))))))))))))))
      (pss_cons (ps_expr (pe_metX M_expect (hr.mono (by first | decide | omega)) tk (pv 0) (pa_cons pe_str (pa_cons pe_str pa_nil))))
      (pss_cons (ps_set (i := 7) sc_read_line.nd rfl (Or.inl rfl) (pe_cal G_read_expression (hr.mono (by first | decide | omega)) tk (pa_cons (pv 0) (pa_cons pe_int pa_nil))))
      (pss_cons (ps_set (i := 6) sc_read_line.nd rfl (Or.inl rfl) pe_non)
      (pss_cons (ps_if (pt_val (pe_metX M_accept (hr.mono (by first | decide | omega)) tk (pv 0) (pa_cons pe_str (pa_cons pe_str pa_nil))))
      (pss_one (ps_set (i := 6) sc_read_line.nd rfl (Or.inl rfl) (pe_cal G_read_product (hr.mono (by first | decide | omega)) tk (pa_cons (pv 0) pa_nil))))
      pss_nil)
      (pss_one (ps_set (i := 2) sc_read_line.nd rfl (Or.inl rfl) (pe_tup (pa_cons pe_str (pa_cons (pv 7) (pa_cons (pv 6) (pa_cons (pv 1) pa_nil))))))))))))))))
      (pss_cons (ps_expr (pe_metX M_expect (hr.mono (by first | decide | omega)) tk (pv 0) (pa_cons pe_str (pa_cons pe_str pa_nil))))
      (pss_one (ps_ret (pv 2)))))), ?_⟩
    unfold pLine at ho
    have ho := b_at ho
    walk_at "rp"
    refine ⟨r, L, ts, rfl, R, ?_⟩
    walk_at "rp"
    refine ⟨r, L, ts, _, _, rfl, by decide, R, fun h1 H1 hs1 R1 => ?_, fun h1 => ?_⟩
    · have ho := b_accT h1 ho
      walk_at "rp"
      refine ⟨r, L, ts.tail, _, rfl, R1, fun h2 v2 H2 hs2 R2 tv2 => ?_, fun h2 => (k.err _ (b_readF h2 ho)).mono hs1⟩
      have ho := b_readT h2 ho
      walk_at "rp"
      intro p9 hp9
      walk_at "rp"
      have s9 := (hs1.trans hs2).new (o := .tup [.str "base", v2, .int (atP L ts : Int)]) hp9
      have R9 : Rdr C (upd H2 p9 (.tup [.str "base", v2, .int (atP L ts : Int)])) r L ts.tail.tail := R2.same (Same.new hp9)
      have t9 : Tp (upd H2 p9 (.tup [.str "base", v2, .int (atP L ts : Int)])) (.ref p9) (.tuple _) := .tup upd_same (TpAll.keep (Keep.new hp9) (.cons (.str _) (.cons tv2 (.cons (.int _) .nil))))
      generalize upd H2 p9 (.tup [.str "base", v2, .int (atP L ts : Int)]) = HZ at *
      unfold pSemi at ho
      walk_at "rp"
      refine ⟨r, L, ts.tail.tail, _, _, rfl, by decide, R9, fun hz H10 hs10 R10 => ?_, fun hz => (k.err _ (b_expF hz ho)).mono s9⟩
      have ho := b_expT hz ho
      walk_at "rp"
      exact k.ok _ _ (b_ret ho) _ _ (s9.trans hs10) R10 (tl_lt_le hz (Nat.le_trans tl_le tl_le)) (t9.keep (R9.keep hs10))
    have ho := b_accF h1 ho
    walk_at "rp"
    refine ⟨r, L, ts, _, _, rfl, by decide, R, fun h1 H1 hs1 R1 => ?_, fun h1 => ?_⟩
    · have ho := b_accT h1 ho
      walk_at "rp"
      refine ⟨r, L, ts.tail, _, rfl, R1, fun h2 v2 H2 hs2 R2 tv2 => ?_, fun h2 => (k.err _ (b_readF h2 ho)).mono hs1⟩
      have ho := b_readT h2 ho
      walk_at "rp"
      refine ⟨r, L, _, _, _, rfl, by decide, R2, fun h3 H3 hs3 R3 => ?_, fun h3 => (k.err _ (b_expF h3 ho)).mono (hs1.trans hs2)⟩
      have ho := b_expT h3 ho
      have s3 := (hs1.trans hs2).trans hs3
      walk_at "rp"
      refine ⟨r, L, _, _, rfl, R3, fun h4 v4 H4 hs4 R4 tv4 => ?_, fun h4 => (k.err _ (b_readF h4 ho)).mono s3⟩
      have ho := b_readT h4 ho
      walk_at "rp"
      refine ⟨r, L, _, rfl, R4, r_sub ho k.err (s3.trans hs4) fun a5 ts5 v5 H5 ho s5 R5 hl5 tv5 => ?_⟩
      walk_at "rp"
      intro p9 hp9
      walk_at "rp"
      have s9 := ((s3.trans hs4).trans s5).new (o := .tup [.str "unit", v2, v4, v5, .int (atP L ts : Int)]) hp9
      have R9 : Rdr C (upd H5 p9 (.tup [.str "unit", v2, v4, v5, .int (atP L ts : Int)])) r L ts5 := R5.same (Same.new hp9)
      have t9 : Tp (upd H5 p9 (.tup [.str "unit", v2, v4, v5, .int (atP L ts : Int)])) (.ref p9) (.tuple _) := .tup upd_same (TpAll.keep (Keep.new hp9) (.cons (.str _) (.cons (((tv2.keep (R2.keep hs3)).keep (R3.keep hs4)).keep (R4.keep s5)) (.cons (tv4.keep (R4.keep s5)) (.cons tv5 (.cons (.int _) .nil))))))
      generalize upd H5 p9 (.tup [.str "unit", v2, v4, v5, .int (atP L ts : Int)]) = HZ at *
      unfold pSemi at ho
      walk_at "rp"
      refine ⟨r, L, ts5, _, _, rfl, by decide, R9, fun hz H10 hs10 R10 => ?_, fun hz => (k.err _ (b_expF hz ho)).mono s9⟩
      have ho := b_expT hz ho
      walk_at "rp"
      exact k.ok _ _ (b_ret ho) _ _ (s9.trans hs10) R10 (tl_lt_le hz (Nat.le_trans hl5 (Nat.le_trans tl_le (Nat.le_trans tl_le (Nat.le_trans tl_le tl_le))))) (t9.keep (R9.keep hs10))
    have ho := b_accF h1 ho
    walk_at "rp"
    refine ⟨r, L, ts, _, _, rfl, by decide, R, fun h1 H1 hs1 R1 => ?_, fun h1 => ?_⟩
    · have ho := b_accT h1 ho
      walk_at "rp"
      refine ⟨r, L, ts.tail, _, rfl, R1, fun h2 v2 H2 hs2 R2 tv2 => ?_, fun h2 => (k.err _ (b_readF h2 ho)).mono hs1⟩
      have ho := b_readT h2 ho
      walk_at "rp"
      refine ⟨r, L, _, rfl, R2, r_sub ho k.err (hs1.trans hs2) fun a3 ts3 v3 H3 ho s3 R3 hl3 tv3 => ?_⟩
      have l3 : ts3.length ≤ ts.length := Nat.le_trans hl3 (Nat.le_trans tl_le tl_le)
      have S3 := (hs1.trans hs2).trans s3
      walk_at "rp"
      refine ⟨r, L, ts3, _, _, rfl, by decide, R3, fun h4 H4 hs4 R4 => ?_, fun h4 => ?_⟩
      · have ho := b_accT2 h4 ho
        walk_at "rp"
        refine ⟨r, L, _, rfl, R4, r_sub ho k.err (S3.trans hs4) fun a5 ts5 v5 H5 ho s5 R5 hl5 tv5 => ?_⟩
        walk_at "rp"
        refine ⟨r, L, _, _, _, rfl, by decide, R5, fun h6 H6 hs6 R6 => ?_, fun h6 => (k.err _ (b_expF h6 ho)).mono ((S3.trans hs4).trans s5)⟩
        have ho := b_expT h6 ho
        walk_at "rp"
        refine ⟨r, L, 23, _, rfl, by omega, by omega, R6, r_sub ho k.err (((S3.trans hs4).trans s5).trans hs6) fun a7 ts7 v7 H7 ho s7 R7 hl7 tv7 => ?_⟩
        walk_at "rp"
        intro p9 hp9
        walk_at "rp"
        have s9 := ((((S3.trans hs4).trans s5).trans hs6).trans s7).new (o := .tup [.str "fun", v2, v3, v5, v7, .int (atP L ts : Int)]) hp9
        have R9 : Rdr C (upd H7 p9 (.tup [.str "fun", v2, v3, v5, v7, .int (atP L ts : Int)])) r L ts7 := R7.same (Same.new hp9)
        have t9 : Tp (upd H7 p9 (.tup [.str "fun", v2, v3, v5, v7, .int (atP L ts : Int)])) (.ref p9) (.tuple _) := .tup upd_same (TpAll.keep (Keep.new hp9) (.cons (.str _) (.cons (((((tv2.keep (R2.keep s3)).keep (R3.keep hs4)).keep (R4.keep s5)).keep (R5.keep hs6)).keep (R6.keep s7)) (.cons ((((tv3.keep (R3.keep hs4)).keep (R4.keep s5)).keep (R5.keep hs6)).keep (R6.keep s7)) (.cons ((tv5.keep (R5.keep hs6)).keep (R6.keep s7)) (.cons tv7 (.cons (.int _) .nil)))))))
        generalize upd H7 p9 (.tup [.str "fun", v2, v3, v5, v7, .int (atP L ts : Int)]) = HZ at *
        unfold pSemi at ho
        walk_at "rp"
        refine ⟨r, L, ts7, _, _, rfl, by decide, R9, fun hz H10 hs10 R10 => ?_, fun hz => (k.err _ (b_expF hz ho)).mono s9⟩
        have ho := b_expT hz ho
        walk_at "rp"
        exact k.ok _ _ (b_ret ho) _ _ (s9.trans hs10) R10 (tl_lt_le hz (Nat.le_trans hl7 (Nat.le_trans tl_le (Nat.le_trans hl5 (Nat.le_trans tl_le l3))))) (t9.keep (R9.keep hs10))
      · have ho := b_pure (b_accF2 h4 ho)
        walk_at "rp"
        refine ⟨r, L, _, _, _, rfl, by decide, R3, fun h6 H6 hs6 R6 => ?_, fun h6 => (k.err _ (b_expF h6 ho)).mono S3⟩
        have ho := b_expT h6 ho
        walk_at "rp"
        refine ⟨r, L, 23, _, rfl, by omega, by omega, R6, r_sub ho k.err (S3.trans hs6) fun a7 ts7 v7 H7 ho s7 R7 hl7 tv7 => ?_⟩
        walk_at "rp"
        intro p9 hp9
        walk_at "rp"
        have s9 := ((S3.trans hs6).trans s7).new (o := .tup [.str "fun", v2, v3, .non, v7, .int (atP L ts : Int)]) hp9
        have R9 : Rdr C (upd H7 p9 (.tup [.str "fun", v2, v3, .non, v7, .int (atP L ts : Int)])) r L ts7 := R7.same (Same.new hp9)
        have t9 : Tp (upd H7 p9 (.tup [.str "fun", v2, v3, .non, v7, .int (atP L ts : Int)])) (.ref p9) (.tuple _) := .tup upd_same (TpAll.keep (Keep.new hp9) (.cons (.str _) (.cons (((tv2.keep (R2.keep s3)).keep (R3.keep hs6)).keep (R6.keep s7)) (.cons ((tv3.keep (R3.keep hs6)).keep (R6.keep s7)) (.cons .non (.cons tv7 (.cons (.int _) .nil)))))))
        generalize upd H7 p9 (.tup [.str "fun", v2, v3, .non, v7, .int (atP L ts : Int)]) = HZ at *
        unfold pSemi at ho
        walk_at "rp"
        refine ⟨r, L, ts7, _, _, rfl, by decide, R9, fun hz H10 hs10 R10 => ?_, fun hz => (k.err _ (b_expF hz ho)).mono s9⟩
        have ho := b_expT hz ho
        walk_at "rp"
        exact k.ok _ _ (b_ret ho) _ _ (s9.trans hs10) R10 (tl_lt_le hz (Nat.le_trans hl7 (Nat.le_trans tl_le l3))) (t9.keep (R9.keep hs10))
    have ho := b_accF h1 ho
    walk_at "rp"
    refine ⟨r, L, _, _, _, rfl, by decide, R, fun h6 H6 hs6 R6 => ?_, fun h6 => (k.err _ (b_expF h6 ho))⟩
    have ho := b_expT h6 ho
    walk_at "rp"
    refine ⟨r, L, 23, _, rfl, by omega, by omega, R6, r_sub ho k.err hs6 fun a7 ts7 v7 H7 ho s7 R7 hl7 tv7 => ?_⟩
    walk_at "rp"
    refine ⟨r, L, ts7, _, _, rfl, by decide, R7, fun h4 H4 hs4 R4 => ?_, fun h4 => ?_⟩
    · have ho := b_accT2 h4 ho
      walk_at "rp"
      refine ⟨r, L, _, rfl, R4, r_sub ho k.err ((hs6.trans s7).trans hs4) fun a5 ts5 v5 H5 ho s5 R5 hl5 tv5 => ?_⟩
      walk_at "rp"
      intro p9 hp9
      walk_at "rp"
      have s9 := (((hs6.trans s7).trans hs4).trans s5).new (o := .tup [.str "show", v7, v5, .int (atP L ts : Int)]) hp9
      have R9 : Rdr C (upd H5 p9 (.tup [.str "show", v7, v5, .int (atP L ts : Int)])) r L ts5 := R5.same (Same.new hp9)
      have t9 : Tp (upd H5 p9 (.tup [.str "show", v7, v5, .int (atP L ts : Int)])) (.ref p9) (.tuple _) := .tup upd_same (TpAll.keep (Keep.new hp9) (.cons (.str _) (.cons ((tv7.keep (R7.keep hs4)).keep (R4.keep s5)) (.cons tv5 (.cons (.int _) .nil)))))
      generalize upd H5 p9 (.tup [.str "show", v7, v5, .int (atP L ts : Int)]) = HZ at *
      unfold pSemi at ho
      walk_at "rp"
      refine ⟨r, L, ts5, _, _, rfl, by decide, R9, fun hz H10 hs10 R10 => ?_, fun hz => (k.err _ (b_expF hz ho)).mono s9⟩
      have ho := b_expT hz ho
      walk_at "rp"
      exact k.ok _ _ (b_ret ho) _ _ (s9.trans hs10) R10 (tl_lt_le hz (Nat.le_trans hl5 (Nat.le_trans tl_le (Nat.le_trans hl7 tl_le)))) (t9.keep (R9.keep hs10))
    · have ho := b_pure (b_accF2 h4 ho)
      walk_at "rp"
      intro p9 hp9
      walk_at "rp"
      have s9 := (hs6.trans s7).new (o := .tup [.str "show", v7, .non, .int (atP L ts : Int)]) hp9
      have R9 : Rdr C (upd H7 p9 (.tup [.str "show", v7, .non, .int (atP L ts : Int)])) r L ts7 := R7.same (Same.new hp9)
      have t9 : Tp (upd H7 p9 (.tup [.str "show", v7, .non, .int (atP L ts : Int)])) (.ref p9) (.tuple _) := .tup upd_same (TpAll.keep (Keep.new hp9) (.cons (.str _) (.cons tv7 (.cons .non (.cons (.int _) .nil)))))
      generalize upd H7 p9 (.tup [.str "show", v7, .non, .int (atP L ts : Int)]) = HZ at *
      unfold pSemi at ho
      walk_at "rp"
      refine ⟨r, L, ts7, _, _, rfl, by decide, R9, fun hz H10 hs10 R10 => ?_, fun hz => (k.err _ (b_expF hz ho)).mono s9⟩
      have ho := b_expT hz ho
      walk_at "rp"
      exact k.ok _ _ (b_ret ho) _ _ (s9.trans hs10) R10 (tl_lt_le hz (Nat.le_trans hl7 tl_le)) (t9.keep (R9.keep hs10))
end
end Al
namespace Al
open PySem PySem.Spec PyProof.Rows L2 NdefX PySem.W
local macro_rules | `(tactic| walk_at "rd1") => `(tactic| with_reducible first
  | (show tVar _ _ _ _; refine r_var (by with_unfolding_all rfl) ?_) | refine r_c ?_ | refine r_op ?_ | refine r_I0 ?_ | refine r_un ?_ | refine r_U ?_
  | (show rI _ _ _ _ _ _; refine r_I (by with_unfolding_all first | exact ⟨by decide, by decide⟩ | (show (0 : Int) < _; decide)) ?_)
  | refine r_eqI ?_ | refine r_neI ?_ | refine r_eqS ?_ | refine r_neS ?_ | refine r_eqB ?_ | refine r_neB ?_ | refine r_chain ?_
  | refine r_test ?_ | refine r_B ?_ | refine r_bl ?_ | refine r_int ?_ | refine r_and ?_ | refine r_or ?_ | refine r_not ?_ | refine r_andV ?_ | refine r_orV ?_ | refine r_notV ?_
  | refine r_if ?_ | refine r_nil ?_ | refine r_cons ?_ | refine r_cb ?_ | refine r_call ?_ | refine r_callS ?_ | refine r_tup ?_ | refine r_lst ?_ | refine r_seq ?_ | refine r_next ?_ | refine r_asg ?_
  | refine r_name ?_ | refine r_ifS ?_ | refine r_ret ?_ | refine r_retN ?_ | refine r_drop ?_ | refine r_brk ?_ | refine r_ct ?_ | refine r_sl ?_ | refine r_part ?_ | refine r_nopart ?_
  | refine r_bm ?_ | refine r_bm0 ?_ | refine r_raiseX ?_ | refine r_mkO ?_ | refine iteF ?_ | refine iteT ?_ | refine r_int1 ?_ | refine r_int1b ?_ | (show _ ≤ sizeLine ∧ _; refine r_sz (by with_unfolding_all first | omega | (simp only [List.length_cons, List.length_nil]; omega)) ?_)
  | (show ∃ _, _; refine ⟨_, rfl, ?_⟩) | (show ∃ _, _; refine ⟨_, _, rfl, rfl, ?_⟩) | (show ∃ _, _; refine ⟨_, _, rfl, ?_⟩))
local macro_rules | `(tactic| walk_at "rd") => `(tactic| repeat (walk_at "rd1"))
local macro_rules | `(tactic| walk_at "rd2") => `(tactic| with_reducible first
  | (show tFld _ _ _ _ _ _; refine r_fldI (by with_unfolding_all rfl) (by with_unfolding_all assumption) (by with_unfolding_all assumption) (by with_unfolding_all assumption) (by with_unfolding_all rfl) ?_)
  | (show tMetS _ _ _ _ _ _ _ _ _; refine r_rm (by with_unfolding_all assumption) (by with_unfolding_all rfl) (by decide) ?_)
  | refine r_sfl ?_ | refine iteNF ?_ | refine iteNT ?_ | refine r_makS ?_)
local macro_rules | `(tactic| walk_at "rp") => `(tactic| repeat first | walk_at "rd1" | walk_at "rd2")

section
variable {P : Program} {w : World} {K : Frag} {mg : Str → Option Value} {base : Heap} {C DM DO : Addr}
/-! ### the levels -/
structure Stage (P : Program) (w : World) (K : Frag) (mg : Str → Option Value) (base : Heap) (C DM DO : Addr) (N k : Nat) : Prop where
  expr : Cal P w K mg base k "read_expression" ["reader", "level"] (spRN C DM DO pExpr N)
  prim : Cal P w K mg base k "read_primary" ["reader", "level"] (spRN C DM DO pPrim N)
  plain : Cal P w K mg base k "read_plain" ["reader", "level"] (spRN C DM DO pPlain N)
theorem cal_none {x : Str} {st : Stmt} {NN ps : List Str} {g : Nat → Nat → Pr PyData} {k : Nat} (dx : DefAt K mg x st) (S : FnScope NN ps (defScope st))
    (hb : ∀ (kV doc pm : Value) (an : Option Addr) (cdv ct : Value) (us : List Value), us.length = ps.length → bindArgs (fnOf x x (defArgs st) (defBody st) (defScope st) .none kV doc pm an cdv ct) ⟨us, []⟩ = pure (ps.zip us)) :
    Cal P w K mg base (k + 1) x ps (spRN C DM DO g 0) := by
  refine cal_mk dx S hb (fun vs H Q E h => ?_) (fun f cdv A outer s H vs Q E hr h => ?_)
  · obtain ⟨r, L, n, ts, _, h, _⟩ := h
    omega
  · obtain ⟨r, L, n, ts, _, h, _⟩ := h
    omega
structure ParDefs (K : Frag) (mg : Str → Option Value) : Prop where
  d1 : DefAt K mg "read_power" s_read_power
  d2 : DefAt K mg "read_product" s_read_product
  d3 : DefAt K mg "read_call" s_read_call
  d4 : DefAt K mg "read_primary" s_read_primary
  d5 : DefAt K mg "read_powers" s_read_powers
  d6 : DefAt K mg "read_factors" s_read_factors
  d7 : DefAt K mg "read_terms" s_read_terms
  d8 : DefAt K mg "read_plain" s_read_plain
  d9 : DefAt K mg "read_both" s_read_both
  d10 : DefAt K mg "read_expression" s_read_expression
  d11 : DefAt K mg "read_parameters" s_read_parameters
  d12 : DefAt K mg "read_line" s_read_line
theorem stages (D : ParDefs K mg) (B : Bl mg) (PL : ParC K w mg) (M : RdM P w K mg base C DM DO) : ∀ N, N ≤ 25 → Stage P w K mg base C DM DO N (10 + 8 * N)
  | 0, _ => ⟨cal_none D.d10 sc_read_expression (fun _ _ _ _ _ _ us hl => match us, hl with | [_, _], _ => rfl), cal_none D.d4 sc_read_primary (fun _ _ _ _ _ _ us hl => match us, hl with | [_, _], _ => rfl), cal_none D.d8 sc_read_plain (fun _ _ _ _ _ _ us hl => match us, hl with | [_, _], _ => rfl)⟩
  | N + 1, hN => by
    have S := stages D B PL M N (by omega)
    have hk : 10 ≤ 10 + 8 * N := by omega
    have gp := cal_read_power D.d1 B PL M
    have gpr := cal_read_product D.d2 B PL M gp
    have c1 := cal_read_call D.d3 B PL M hk hN S.expr
    have c2 := cal_read_primary D.d4 B PL M (k := 10 + 8 * N + 1) (by omega) hN (S.expr.mono (by omega)) (S.prim.mono (by omega)) c1 gpr
    have c3 := cal_read_powers D.d5 B PL M (k := 10 + 8 * N + 1) (by omega) hN c2 gp
    have c4 := cal_read_factors D.d6 B PL M (k := 10 + 8 * N + 1) (by omega) hN c3
    have c5 := cal_read_terms D.d7 B PL M (k := 10 + 8 * N + 1) (by omega) hN c4
    have c6 := cal_read_plain D.d8 B PL M (k := 10 + 8 * N + 1) (by omega) hN (S.plain.mono (by omega)) c5
    have c7 := cal_read_both D.d9 B PL M (k := 10 + 8 * N + 1) (by omega) hN c6
    have c8 := cal_read_expression D.d10 B PL M (k := 10 + 8 * N + 1) (by omega) hN (S.expr.mono (by omega)) c7
    exact ⟨c8.mono (by omega), c2.mono (by omega), c6.mono (by omega)⟩
theorem cal_line (D : ParDefs K mg) (B : Bl mg) (PL : ParC K w mg) (M : RdM P w K mg base C DM DO) : Cal P w K mg base 203 "read_line" ["reader"] (spLine C DM DO pLine) := by
  have gp := cal_read_power D.d1 B PL M
  have gpr := cal_read_product D.d2 B PL M gp
  have gps := cal_read_parameters D.d11 B PL M gpr
  exact cal_read_line D.d12 B PL M (k := 202) (by omega) (stages D B PL M 24 (by omega)).expr gpr gps
end
end Al
namespace Al
open PySem PySem.Spec PyProof.Rows L2 NdefX PySem.W
local macro_rules | `(tactic| walk_at "rd1") => `(tactic| with_reducible first
  | (show tVar _ _ _ _; refine r_var (by with_unfolding_all rfl) ?_) | refine r_c ?_ | refine r_op ?_ | refine r_I0 ?_ | refine r_un ?_ | refine r_U ?_
  | (show rI _ _ _ _ _ _; refine r_I (by with_unfolding_all first | exact ⟨by decide, by decide⟩ | (show (0 : Int) < _; decide)) ?_)
  | refine r_eqI ?_ | refine r_neI ?_ | refine r_eqS ?_ | refine r_neS ?_ | refine r_eqB ?_ | refine r_neB ?_ | refine r_chain ?_
  | refine r_test ?_ | refine r_B ?_ | refine r_bl ?_ | refine r_int ?_ | refine r_and ?_ | refine r_or ?_ | refine r_not ?_ | refine r_andV ?_ | refine r_orV ?_ | refine r_notV ?_
  | refine r_if ?_ | refine r_nil ?_ | refine r_cons ?_ | refine r_cb ?_ | refine r_call ?_ | refine r_callS ?_ | refine r_tup ?_ | refine r_lst ?_ | refine r_seq ?_ | refine r_next ?_ | refine r_asg ?_
  | refine r_name ?_ | refine r_ifS ?_ | refine r_ret ?_ | refine r_retN ?_ | refine r_drop ?_ | refine r_brk ?_ | refine r_ct ?_ | refine r_sl ?_ | refine r_part ?_ | refine r_nopart ?_
  | refine r_bm ?_ | refine r_bm0 ?_ | refine r_raiseX ?_ | refine r_mkO ?_ | refine iteF ?_ | refine iteT ?_ | refine r_int1 ?_ | refine r_int1b ?_ | (show _ ≤ sizeLine ∧ _; refine r_sz (by with_unfolding_all first | omega | (simp only [List.length_cons, List.length_nil]; omega)) ?_)
  | (show ∃ _, _; refine ⟨_, rfl, ?_⟩) | (show ∃ _, _; refine ⟨_, _, rfl, rfl, ?_⟩) | (show ∃ _, _; refine ⟨_, _, rfl, ?_⟩))
local macro_rules | `(tactic| walk_at "rd") => `(tactic| repeat (walk_at "rd1"))
local macro_rules | `(tactic| walk_at "rd2") => `(tactic| with_reducible first
  | (show tFld _ _ _ _ _ _; refine r_fldI (by with_unfolding_all rfl) (by with_unfolding_all assumption) (by with_unfolding_all assumption) (by with_unfolding_all assumption) (by with_unfolding_all rfl) ?_)
  | (show tMetS _ _ _ _ _ _ _ _ _; refine r_rm (by with_unfolding_all assumption) (by with_unfolding_all rfl) (by decide) ?_)
  | refine r_sfl ?_ | refine iteNF ?_ | refine iteNT ?_ | refine r_makS ?_)
local macro_rules | `(tactic| walk_at "rp") => `(tactic| repeat first | walk_at "rd1" | walk_at "rd2")

theorem tok1_pos {s : List Nat} {t : Tk} {k : Nat} (h : tok1 s = some (t, k)) : 0 < k := by
  cases s with
  | nil => cases h
  | cons c s => exact (tok1_len h).1
theorem lex_len {i : Nat} {s : List Nat} {ts : List (Tk × Nat)} {e : Option Nat} (h : Lex i s ts e) : ts.length ≤ s.length := by
  induction h with
  | nil => exact Nat.le_refl _
  | sp _ _ ih => rw [List.length_cons]; omega
  | com _ ih => rw [List.length_drop] at ih; rw [List.length_cons]; omega
  | tok _ _ h1 _ ih =>
    have := tok1_pos h1
    rw [List.length_drop, List.length_cons] at ih
    rw [List.length_cons, List.length_cons]; omega
  | bad _ _ _ => exact Nat.zero_le _
theorem lex_at {i : Nat} {s : List Nat} {ts : List (Tk × Nat)} {e : Option Nat} (h : Lex i s ts e) : ∀ t ∈ ts, t.2 ≤ i + s.length := by
  induction h with
  | nil => intro t ht; cases ht
  | sp _ _ ih => intro t ht; have := ih t ht; rw [List.length_cons]; omega
  | @com i s ts e _ ih =>
    intro t ht
    have := ih t ht
    have h1 : (s.takeWhile notNl).length ≤ s.length := (List.takeWhile_sublist _).length_le
    rw [List.length_drop] at this
    rw [List.length_cons]; omega
  | @tok i c k s t ts e _ _ _ hr ih =>
    intro u hu
    rcases List.mem_cons.mp hu with rfl | hu
    · exact Nat.le_add_right _ _
    · have := ih u hu
      have h2 := lex_len hr
      have h3 : 0 < ts.length := List.length_pos_of_mem hu
      rw [List.length_drop] at this h2
      omega
  | bad _ _ _ => intro t ht; cases ht
section
variable (C DM DO : Addr)
def spInit : Sp := fun vs H Q E => ∃ (x dx : Addr) (z : Str), vs = [.ref x, .str z] ∧ H x = some (.ins C dx []) ∧ z.length ≤ 20000 ∧
  ((12000 < z.length ∧ ∀ d H', RSame x H H' → H' d = some (.xd [("limit", .str "text")]) → E (.ref DO) (some d) H') ∨
    ∃ ts e, z.length ≤ 12000 ∧ Lex 0 (lS z) ts e ∧ match e with
    | none => ∀ H', (∀ b o, b ≠ x → H b = some o → H' b = some o) → Rdr C H' x z.length ts → Q .non H'
    | some i => ∀ d H', RSame x H H' → H' d = some (.xd [("at", .int (i : Int))]) → E (.ref DM) (some d) H')
end
section
variable {P : Program} {w : World} {K : Frag} {mg : Str → Option Value} {base : Heap} {C DM DO : Addr}
abbrev s_Reader___init__ : Stmt := inClass (top 25) 0
theorem sc_Reader___init__ : FnScope ["self", "text"] ["self", "text"] (defScope s_Reader___init__) := ⟨rfl, rfl, rfl, by decide +kernel, rfl, by decide +kernel, by decide +kernel⟩
theorem mak_Reader (dx : MakAt K mg "Reader" "Reader.__init__" C s_Reader___init__) (B : Bl mg) (RK : RC K C) (G_tokens : Cal P w K mg base 5 "tokens" ["text"] (spTokens DM DO)) : MakX P w K mg base 6 "Reader" C ["self", "text"] (spInit C DM DO) := by
  refine mak_mk dx sc_Reader___init__ (fun _ _ _ _ _ _ us hl => match us, hl with | [_, _], _ => rfl) (fun vs H Q E h => ?_) (fun f cdv A outer s H vs Q E hr h => ?_)
  · obtain ⟨x, dx, z, rfl, _⟩ := h
    rfl
  · obtain ⟨x, dx, z, rfl, hx, hz, k⟩ := h
    have tk : L2N.Takes (cxOf (L2N.CX P w) P w K mg base ["self", "text"] "Reader.__init__" (defScope s_Reader___init__) f cdv A outer s H E) (fun cls d _ H => E cls d H) := L2N.takes_of rfl rfl rfl rfl
    have hcl := RK.cls
    have hn1 := RK.na "rest" (by decide)
    have hn2 := RK.na "place" (by decide)
    have hn3 := RK.na "limit" (by decide)
    refine ⟨_, (pss_cons (ps_fld (pv 0) (pe_cal G_tokens (hr.mono (by first | decide | omega)) tk (pa_cons (pv 1) pa_nil)) rfl)
      (pss_cons (ps_fld (pv 0) pe_int rfl)
      (pss_one (ps_fld (pv 0) (pe_callB call_len_str (by rfl) B.len PySem.boot_len (pa_cons (pv 1) pa_nil)) rfl)))), ?_⟩
    walk_at "rp"
    rcases k with ⟨hl, kO⟩ | ⟨ts, e, hl, hlex, k⟩
    · exact ⟨z, rfl, hz, .inl ⟨hl, fun d H' hs hx => kO d H' (RSame.same hs) hx⟩⟩
    · refine ⟨z, rfl, hz, .inr ⟨ts, e, hl, hlex, ?_⟩⟩
      cases e with
      | some i => exact fun d H' hs hx => k d H' (RSame.same hs) hx
      | none =>
        intro p vs H1 hs1 hp hpl htp
        have hx1 := hs1 _ _ hx
        have hpx : p ≠ x := fun e => by rw [e, hx] at hp; cases hp
        walk_at "rp"
        refine ⟨x, C, dx, [], rfl, hx1, hcl, hn1, by simp, ?_⟩
        have h2 : upd H1 x (.ins C dx (putF "rest" (.ref p) [])) x = some (.ins C dx [("rest", .ref p)]) := upd_same
        generalize hH2 : upd H1 x (.ins C dx (putF "rest" (.ref p) [])) = H2 at *
        walk_at "rp"
        refine ⟨x, C, dx, _, rfl, h2, hcl, hn2, by simp, ?_⟩
        have h3 : upd H2 x (.ins C dx (putF "place" (.int 0) [("rest", .ref p)])) x = some (.ins C dx [("rest", .ref p), ("place", .int 0)]) := upd_same
        generalize hH3 : upd H2 x (.ins C dx (putF "place" (.int 0) [("rest", .ref p)])) = H3 at *
        walk_at "rp"
        refine ⟨x, C, dx, _, rfl, h3, hcl, hn3, by simp, ?_⟩
        have h4 : upd H3 x (.ins C dx (putF "limit" (.int (z.length : Int)) [("rest", .ref p), ("place", .int 0)])) x = some (.ins C dx (rfs p 0 z.length)) := upd_same
        have fr : ∀ b o, b ≠ x → H1 b = some o → upd H3 x (.ins C dx (putF "limit" (.int (z.length : Int)) [("rest", .ref p), ("place", .int 0)])) b = some o := fun b o hb h => by
          rw [upd_ne hb, ← hH3, upd_ne hb, ← hH2, upd_ne hb]; exact h
        refine k _ (fun b o hb h => fr b o hb (hs1 b o h)) ⟨ts, dx, p, 0, vs, rfl, Nat.zero_le _, h4, fr _ _ hpx hpl, htp.keep fun a xs ha => fr a _ (fun e => by rw [e, hx1] at ha; cases ha) ha, ?_, ?_, by omega⟩
        · have := lex_len hlex
          have e1 : (lS z).length = z.length := Array.length_toList
          omega
        · intro t ht
          have := lex_at hlex t ht
          have e1 : (lS z).length = z.length := Array.length_toList
          omega
abbrev s_parse : Stmt := top 38
theorem sc_parse : FnScope ["text", "reader", "lines"] ["text"] (defScope s_parse) := ⟨rfl, rfl, rfl, by decide +kernel, rfl, by decide +kernel, by decide +kernel⟩
def FinS (DM DO : Addr) (H0 : Hp) (E : XK) (e : PErr) : Prop := match e with
  | .mal i => ∀ d H', Same H0 H' → H' d = some (.xd [("at", .int (i : Int))]) → E (.ref DM) (some d) H'
  | .over => ∀ d H', Same H0 H' → H' d = some (.xd [("limit", .str "depth")]) → E (.ref DO) (some d) H'
def spParse (DM DO : Addr) : Sp := fun vs H Q E => ∃ (z : Str), vs = [.str z] ∧ z.length ≤ 20000 ∧
  ((12000 < z.length ∧ ∀ d H', Same H H' → H' d = some (.xd [("limit", .str "text")]) → E (.ref DO) (some d) H') ∨
    ∃ ts e, z.length ≤ 12000 ∧ Lex 0 (lS z) ts e ∧ match e with
    | none => ∃ o, pLines z.length [] ts = some o ∧ (∀ e, o = .error e → FinS DM DO H E e) ∧ ∀ ds ts', o = .ok (ds, ts') → ∀ p vs H', Same H H' → H p = none → H' p = some (.lst vs) → TpAll H' vs ds → Q (.ref p) H'
    | some i => ∀ d H', Same H H' → H' d = some (.xd [("at", .int (i : Int))]) → E (.ref DM) (some d) H')
theorem cal_parse (dx : DefAt K mg "parse" s_parse) (B : Bl mg) (RK : RC K C) (K_Reader : MakX P w K mg base 6 "Reader" C ["self", "text"] (spInit C DM DO)) (G_read_line : Cal P w K mg base 203 "read_line" ["reader"] (spLine C DM DO pLine)) : Cal P w K mg base 204 "parse" ["text"] (spParse DM DO) := by
  refine cal_mk dx sc_parse (fun _ _ _ _ _ _ us hl => match us, hl with | [_], _ => rfl) (fun vs H Q E h => ?_) (fun f cdv A outer s H vs Q E hr h => ?_)
  · obtain ⟨z, rfl, _⟩ := h
    rfl
  · obtain ⟨z, rfl, hz, k⟩ := h
    have tk : L2N.Takes (cxOf (L2N.CX P w) P w K mg base ["text", "reader", "lines"] "parse" (defScope s_parse) f cdv A outer s H E) (fun cls d _ H => E cls d H) := L2N.takes_of rfl rfl rfl rfl
    have hcl := RK.cls
    have hn1 := RK.na "rest" (by decide)
    have hn2 := RK.na "place" (by decide)
    have hn3 := RK.na "limit" (by decide)
    refine ⟨_, (pss_cons (ps_set (i := 1) sc_parse.nd rfl (Or.inl rfl) (pe_makX K_Reader (hr.mono (by first | decide | omega)) tk (pa_cons (pv 0) pa_nil)))
      (pss_cons (ps_set (i := 2) sc_parse.nd rfl (Or.inl rfl) (pe_lst pa_nil))
      (pss_cons (ps_while (passes_of rfl) (pt_cmpR op_lt (pe_fld (pv 1) rfl) (pe_callB call_len_seq (by rfl) B.len PySem.boot_len (pa_cons (pe_fld (pv 1) rfl) pa_nil)) (nomark _))
      (pss_one (ps_expr (pe_bm PySem.F.plainAttrs_list PySem.F.slot_list_append PySem.F.type_list_append mt_append (pv 2) (pa_cons (pe_cal G_read_line (hr.mono (by first | decide | omega)) tk (pa_cons (pv 1) pa_nil)) pa_nil)))))
      (pss_one (ps_ret (pv 2)))))), ?_⟩
    walk_at "rp"
    intro x dx hx hdx hne
    have sm : ∀ H', (∀ b o, b ≠ x → upd (upd H dx (.own x)) x (.ins C dx []) b = some o → H' b = some o) → Same H H' := fun H' h b o hb => by
      have h1 : b ≠ x := ne_of_none hb hx
      exact h b o h1 ((upd_ne h1).trans ((upd_ne (ne_of_none hb hdx)).trans hb))
    refine ⟨x, dx, z, rfl, upd_same, hz, ?_⟩
    rcases k with ⟨hl, kO⟩ | ⟨ts, e, hl, hlex, k⟩
    · exact .inl ⟨hl, fun d H' hs hx => kO d H' (sm H' hs.get) hx⟩
    · refine .inr ⟨ts, e, hl, hlex, ?_⟩
      cases e with
      | some i => exact fun d H' hs hx => k d H' (sm H' hs.get) hx
      | none =>
        obtain ⟨o, ho, kE, kk⟩ := k
        intro H1 hs1 R1
        have sm1 := sm H1 hs1
        have smR : ∀ H', RSame x H1 H' → Same H H' := fun H' h b o hb => h.get b o (ne_of_none hb hx) (sm1 b o hb)
        refine ⟨rfl, ?_⟩
        walk_at "rp"
        intro q hq
        have hqx : q ≠ x := by
          obtain ⟨dx, fs, hi⟩ := R1.ins
          exact (RSame.fresh RSame.refl hi hq).2
        have hHq : H q = none := by
          cases e : H q with
          | none => rfl
          | some u => rw [sm1 _ _ e] at hq; cases hq
        have hlen := R1.len
        walk_at "rp"
        refine ⟨fun m σ' H' => ∃ (acc : List PyData) (us : List V) (ts' : TS1), σ' = [some (.str z), some (.ref x), some (.ref q)] ∧ RSame x H1 H' ∧ Rdr C H' x z.length ts' ∧ H' q = some (.lst us) ∧ TpAll H' us acc ∧ pLines z.length acc ts' = some o ∧ us.length + ts'.length ≤ 20000 ∧ m = ts'.length, ⟨_, [], [], ts, rfl, RSame.refl.new hq, R1.same (Same.new hq), upd_same, .nil, ho, by simp only [List.length_nil]; omega, rfl⟩, ?_⟩
        rintro m σ' H2 ⟨acc, us, ts2, rfl, hs2, R2, hq2, hus, hp, hlen2, rfl⟩
        have R2' := R2
        obtain ⟨T, dx2, l, p, vs, rfl, hp2, hr2, hl2, hT, hb1, hb2, hb3⟩ := R2'.ex
        rw [pLines.eq_def] at hp
        walk_at "rp"
        refine ⟨l, vs, rfl, .inl (SqL.of hl2), ?_⟩
        walk_at "rp"
        have hlv : vs.length = T.length := by rw [hT.len, List.length_map]
        rw [hlv]
        refine r_ite (fun h3 => ?_) (fun h3 => ?_)
        · have h3 : p < T.length := by have := of_decide_eq_true h3; omega
          refine ⟨fun σ' H' => ∃ m', m' < (T.drop p).length ∧ ∃ (acc : List PyData) (us : List V) (ts' : TS1), σ' = [some (.str z), some (.ref x), some (.ref q)] ∧ RSame x H1 H' ∧ Rdr C H' x z.length ts' ∧ H' q = some (.lst us) ∧ TpAll H' us acc ∧ pLines z.length acc ts' = some o ∧ us.length + ts'.length ≤ 20000 ∧ m' = ts'.length, fun _ _ h => h, ?_⟩
          walk_at "rp"
          refine ⟨.inl ⟨rfl, _, SqL.of hq2⟩, ?_⟩
          walk_at "rp"
          have hne2 : (T.drop p).isEmpty = false := by
            rw [List.drop_eq_getElem_cons h3] <;> rfl
          have hp : (pLine z.length >>= fun l => pLines z.length (acc ++ [l])) (T.drop p) = some o := by
            rw [bind_run] at hp
            have e1 : pEnd (T.drop p) = (some (Except.ok (false, T.drop p)) : Option (Except PErr (Bool × TS1))) := by
              show (some (Except.ok ((T.drop p).isEmpty, T.drop p)) : Option (Except PErr (Bool × TS1))) = _
              rw [hne2]
            rw [e1] at hp
            exact hp
          obtain ⟨o2, g1, g2, g3⟩ := b_bind hp
          refine ⟨x, z.length, _, rfl, R2, o2, g1, fun e he => ?_, fun a ts4 he v4 H4 s4 R4 hl4 tv4 => ?_⟩
          · have := kE e (g2 e he)
            cases e with
            | mal i => exact fun d H' hs hx => this d H' (smR _ (hs2.trans hs)) hx
            | over => exact fun d H' hs hx => this d H' (smR _ (hs2.trans hs)) hx
          have hp := g3 _ _ he
          have hq4 := s4.get _ _ hqx hq2
          have kq := Keep.mut (o := .lst (us ++ [v4])) hq4 fun xs z => nomatch z
          walk_at "rp"
          refine ⟨q, us, v4, rfl, rfl, hq4, by rw [sizeLine_eq]; omega, ?_⟩
          walk_at "rp"
          refine ⟨_, hl4, _, _, ts4, rfl, (hs2.trans s4).mut hq hqx, Rdr.mut R1 hq (hs2.trans s4) R4 hq4, upd_same, ((hus.keep (R2.keep s4)).keep kq).app (.cons (tv4.keep kq) .nil), hp, ?_, rfl⟩
          rw [List.length_append]; simp only [List.length_cons, List.length_nil]; omega
        · have h3 : ¬ p < T.length := by have := of_decide_eq_false h3; omega
          rw [drop_all h3] at hp
          walk_at "rp"
          exact kk _ _ (Option.some.inj (show some (.ok (acc, [])) = some o from hp)).symm _ _ _ (smR _ hs2) hHq hq2 hus
end
end Al
namespace Al
open PySem PySem.Spec PyProof.Rows L2 NdefX PySem.W
/-! ### the parser's steps as equations -/
section
variable {α β : Type} {ts ts' : TS1} {L : Nat} {k v : Str} {A B : Pr β}
theorem e_accT (e : seesB ts k v = true) : (pAcc k v >>= fun b => if b = true then A else B) ts = A ts.tail := by
  rw [bind_run]
  unfold pAcc
  rw [if_pos e]
  rfl
theorem e_accF (e : seesB ts k v = false) : (pAcc k v >>= fun b => if b = true then A else B) ts = B ts := by
  rw [bind_run]
  unfold pAcc
  rw [if_neg (by rw [e]; decide)]
  rfl
theorem e_seesT (e : seesB ts k v = true) : (pSees k v >>= fun b => if b = true then A else B) ts = A ts := by
  rw [bind_run]
  unfold pSees
  rw [e]
  rfl
theorem e_seesF (e : seesB ts k v = false) : (pSees k v >>= fun b => if b = true then A else B) ts = B ts := by
  rw [bind_run]
  unfold pSees
  rw [e]
  rfl
theorem e_kindT (e : kindB ts k = true) : (pKind k >>= fun b => if b = true then A else B) ts = A ts := by
  rw [bind_run]
  unfold pKind
  rw [e]
  rfl
theorem e_kindF (e : kindB ts k = false) : (pKind k >>= fun b => if b = true then A else B) ts = B ts := by
  rw [bind_run]
  unfold pKind
  rw [e]
  rfl
theorem e_at {f : Nat → Pr β} : (pAt L >>= f) ts = f (atP L ts) ts := by
  rw [bind_run]
  rfl
theorem e_exp {f : Unit → Pr β} (e : seesB ts k v = true) : (pExp L k v >>= f) ts = f () ts.tail := by
  rw [bind_run]
  unfold pExp
  rw [if_pos e]
theorem e_expF {f : Unit → Pr β} (e : seesB ts k v = false) : (pExp L k v >>= f) ts = some (.error (.mal (atP L ts))) := by
  rw [bind_run]
  unfold pExp
  rw [if_neg (by rw [e]; decide)]
theorem e_read {f : PyData → Pr β} (e : kindB ts k = true) : (pRead L k >>= f) ts = f (headV ts) ts.tail := by
  rw [bind_run]
  unfold pRead
  rw [if_pos e]
theorem e_readF {f : PyData → Pr β} (e : kindB ts k = false) : (pRead L k >>= f) ts = some (.error (.mal (atP L ts))) := by
  rw [bind_run]
  unfold pRead
  rw [if_neg (by rw [e]; decide)]
theorem e_deep {f : Nat → Pr β} {n : Nat} : (pDeep (n + 1) >>= f) ts = f n ts := by
  rw [bind_run]
  rfl
theorem e_deep0 {f : Nat → Pr β} : (pDeep 0 >>= f) ts = some (.error .over) := by
  rw [bind_run]
  rfl
theorem e_ok {g : Pr α} {f : α → Pr β} {a : α} (e : g ts = some (.ok (a, ts'))) : (g >>= f) ts = f a ts' := by
  rw [bind_run, e]
theorem e_err {g : Pr α} {f : α → Pr β} {x : PErr} (e : g ts = some (.error x)) : (g >>= f) ts = some (.error x) := by
  rw [bind_run, e]
theorem e_pure {f : α → Pr β} {a : α} : ((pure a : Pr α) >>= f) ts = f a ts := by
  rw [bind_run]
  rfl
theorem e_ret {a : α} : (pure a : Pr α) ts = some (.ok (a, ts)) := rfl
theorem e_accT2 {g : β → Pr α} (e : seesB ts k v = true) : ((pAcc k v >>= fun b => if b = true then A else B) >>= g) ts = (A >>= g) ts.tail := by
  rw [bind_run, e_accT e, bind_run]
theorem e_accF2 {g : β → Pr α} (e : seesB ts k v = false) : ((pAcc k v >>= fun b => if b = true then A else B) >>= g) ts = (B >>= g) ts := by
  rw [bind_run, e_accF e, bind_run]
end
end Al
namespace Al
open PySem PySem.Spec PyProof.Rows L2 NdefX PySem.W
/-! ### k02: chains in plain Lean -/
inductive Op2 where
  | or | and | lt | le | eq | add | sub | mul | div
  deriving DecidableEq
def Op2.txt : Op2 → Str
  | .or => "or" | .and => "and" | .lt => "<" | .le => "<=" | .eq => "==" | .add => "+" | .sub => "-" | .mul => "*" | .div => "/"
def Op2.head : Op2 → Str
  | .or => "or" | .and => "and" | .lt => "lt" | .le => "le" | .eq => "eq" | .add => "add" | .sub => "sub" | .mul => "mul" | .div => "div"
def Op2.tier : Op2 → Nat
  | .or => 0 | .and => 1 | .lt => 2 | .le => 2 | .eq => 2 | .add => 3 | .sub => 3 | .mul => 4 | .div => 4
def Op2.tk : Op2 → Tk
  | .or => .word "or" | .and => .word "and" | .lt => .sign "<" | .le => .sign "<=" | .eq => .sign "==" | .add => .sign "+" | .sub => .sign "-" | .mul => .sign "*" | .div => .sign "/"
inductive Opd where
  | x | num (n : Nat) | call | pow
def Opd.toks : Opd → Nat → TS1
  | .x, i => [(.name "x", i)]
  | .num n, i => [(.num n 1, i)]
  | .call, i => [(.name "f", i), (.sign "(", i + 1), (.name "y", i + 2), (.sign ")", i + 3)]
  | .pow, i => [(.name "x", i), (.sign "^", i + 1), (.num 2 1, i + 2), (.sign "^", i + 3), (.sign "-", i + 4), (.num 3 1, i + 5)]
def Opd.tree : Opd → Nat → PyData
  | .x, i => .tuple [.str "var", .str "x", .int (i : Int)]
  | .num n, i => .tuple [.str "number", .tuple [.int (n : Int), .int 1], .tuple [], .int (i : Int)]
  | .call, i => .tuple [.str "call", .str "f", .tuple [.tuple [.str "var", .str "y", .int ((i + 2 : Nat) : Int)]], .int (i : Int)]
  | .pow, i => .tuple [.str "power", .tuple [.str "power", .tuple [.str "var", .str "x", .int (i : Int)], .int 2, .int ((i + 1 : Nat) : Int)], .int (-3), .int ((i + 3 : Nat) : Int)]
structure Lk where
  op : Op2
  at_ : Nat
  q : Opd
  j : Nat
def toksC (o : Opd) (i : Nat) (ch : List Lk) : TS1 := o.toks i ++ ch.flatMap fun l => (l.op.tk, l.at_) :: l.q.toks l.j
structure Gr where
  l : Lk
  g : List Lk
def cut (w : Nat) : List Lk → List Lk × List Gr
  | [] => ([], [])
  | l :: r => if l.op.tier = w then ([], ⟨l, (cut w r).1⟩ :: (cut w r).2) else (l :: (cut w r).1, (cut w r).2)
def tr : Nat → Opd → Nat → List Lk → PyData
  | 0, o, i, _ => o.tree i
  | f + 1, o, i, ch => (cut (4 - f) ch).2.foldl (fun t r => .tuple [.str r.l.op.head, t, tr f r.l.q r.l.j r.g, .int (r.l.at_ : Int)]) (tr f o i (cut (4 - f) ch).1)
def cok : Bool → List Lk → Prop
  | _, [] => True
  | b, l :: r => if l.op.tier = 2 then b = false ∧ cok true r else if l.op.tier < 2 then cok false r else cok b r
def grToks (r : Gr) : TS1 := (r.l.op.tk, r.l.at_) :: toksC r.l.q r.l.j r.g
theorem cut_toks (w : Nat) (o : Opd) (i : Nat) : ∀ ch : List Lk, toksC o i ch = toksC o i (cut w ch).1 ++ (cut w ch).2.flatMap grToks
  | [] => by simp [toksC, cut]
  | l :: r => by
    have ih := cut_toks w l.q l.j r
    unfold cut
    by_cases h : l.op.tier = w
    · rw [if_pos h]
      simp only [toksC, List.flatMap_cons, List.flatMap_nil, List.append_nil, grToks] at ih ⊢
      rw [← List.append_assoc, ← List.append_assoc] at *
      simp only [List.append_assoc, List.cons_append] at ih ⊢
      rw [ih]
    · rw [if_neg h]
      simp only [toksC, List.flatMap_cons, List.append_assoc, List.cons_append] at ih ⊢
      rw [ih]
theorem cut_mem (w : Nat) : ∀ ch : List Lk, (∀ l ∈ (cut w ch).1, l ∈ ch ∧ l.op.tier ≠ w) ∧ ∀ r ∈ (cut w ch).2, r.l ∈ ch ∧ r.l.op.tier = w ∧ ∀ l ∈ r.g, l ∈ ch ∧ l.op.tier ≠ w
  | [] => ⟨(fun _ h => by cases h), (fun _ h => by cases h)⟩
  | l :: r => by
    obtain ⟨h1, h2⟩ := cut_mem w r
    unfold cut
    by_cases h : l.op.tier = w
    · rw [if_pos h]
      refine ⟨(fun _ h => by cases h), fun u hu => ?_⟩
      rcases List.mem_cons.mp hu with rfl | hu
      · exact ⟨List.mem_cons_self, h, fun x hx => ⟨List.mem_cons_of_mem _ (h1 x hx).1, (h1 x hx).2⟩⟩
      · exact ⟨List.mem_cons_of_mem _ (h2 u hu).1, (h2 u hu).2.1, fun x hx => ⟨List.mem_cons_of_mem _ ((h2 u hu).2.2 x hx).1, ((h2 u hu).2.2 x hx).2⟩⟩
    · rw [if_neg h]
      refine ⟨fun u hu => ?_, fun u hu => ⟨List.mem_cons_of_mem _ (h2 u hu).1, (h2 u hu).2.1, fun x hx => ⟨List.mem_cons_of_mem _ ((h2 u hu).2.2 x hx).1, ((h2 u hu).2.2 x hx).2⟩⟩⟩
      rcases List.mem_cons.mp hu with rfl | hu
      · exact ⟨List.mem_cons_self, h⟩
      · exact ⟨List.mem_cons_of_mem _ (h1 u hu).1, (h1 u hu).2⟩
/-- how many links: the first group's, and one and its own for each further group -/
theorem cut_len (w : Nat) : ∀ ch : List Lk, ch.length = (cut w ch).1.length + ((cut w ch).2.map fun r => 1 + r.g.length).sum
  | [] => rfl
  | l :: r => by
    have ih := cut_len w r
    unfold cut
    by_cases h : l.op.tier = w
    · rw [if_pos h]
      simp only [List.length_cons, List.length_nil, List.map_cons, List.sum_cons]
      omega
    · rw [if_neg h]
      simp only [List.length_cons]
      omega
/-- what stands behind a chain of tier f -/
def Stop (f : Nat) (rest : TS1) : Prop := ∃ t i r, rest = (t, i) :: r ∧ (t = .sign ";" ∨ ∃ p : Op2, t = p.tk ∧ p.tier < 5 - f)
theorem Stop.mono {f g : Nat} {rest : TS1} (h : Stop f rest) (hg : g ≤ f) : Stop g rest := by
  obtain ⟨t, i, r, e, h⟩ := h
  refine ⟨t, i, r, e, h.imp id ?_⟩
  rintro ⟨p, e, hp⟩
  exact ⟨p, e, by omega⟩
theorem sees_tk {t : Tk} {i : Nat} {r : TS1} {k v : Str} : seesB ((t, i) :: r) k v = (decide (t.kind = k) && decide (t.txt = v)) := rfl
theorem stop_no {f : Nat} {rest : TS1} {k v : Str} (h : Stop f rest) (hs : seesB [(.sign ";", 0)] k v = false) (hp : ∀ p : Op2, p.tier < 5 - f → seesB [(p.tk, 0)] k v = false) : seesB rest k v = false := by
  obtain ⟨t, i, r, rfl, h⟩ := h
  rcases h with rfl | ⟨p, rfl, h⟩
  · exact hs
  · exact hp p h
theorem all_ops {k v : Str} (h : (seesB [(Op2.tk .or, 0)] k v || seesB [(Op2.tk .and, 0)] k v || seesB [(Op2.tk .lt, 0)] k v || seesB [(Op2.tk .le, 0)] k v || seesB [(Op2.tk .eq, 0)] k v || seesB [(Op2.tk .add, 0)] k v || seesB [(Op2.tk .sub, 0)] k v || seesB [(Op2.tk .mul, 0)] k v || seesB [(Op2.tk .div, 0)] k v) = false) (p : Op2) : seesB [(p.tk, 0)] k v = false := by
  simp only [Bool.or_eq_false_iff] at h
  obtain ⟨⟨⟨⟨⟨⟨⟨⟨h1, h2⟩, h3⟩, h4⟩, h5⟩, h6⟩, h7⟩, h8⟩, h9⟩ := h
  cases p <;> assumption
section
variable {L n i : Nat} {rest : TS1}
theorem prim_x {z : Str} (hz : seesB rest "sign" "(" = false) : pPrim L n ((.name z, i) :: rest) = some (.ok (.tuple [.str "var", .str z, .int (i : Int)], rest)) := by
  rw [pPrim.eq_def, e_at, e_accF, e_accF, e_accF, e_accF, e_kindF, e_read, e_seesF]
  all_goals first | rfl | exact hz
theorem prim_num {a b : Nat} (hz : seesB rest "sign" "[" = false) : pPrim L n ((.num a b, i) :: rest) = some (.ok (.tuple [.str "number", .tuple [.int (a : Int), .int (b : Int)], .tuple [], .int (i : Int)], rest)) := by
  rw [pPrim.eq_def, e_at, e_accF, e_accF, e_accF, e_accF, e_kindT, e_read, e_seesF]
  all_goals first | rfl | exact hz
theorem powl_no {a : PyData} (hz : seesB rest "sign" "^" = false) : pPowL L n a rest = some (.ok (a, rest)) := by
  rw [pPowL.eq_def, e_seesF hz] <;> rfl
theorem powers_of {ts : TS1} {a : PyData} (h : pPrim L n ts = some (.ok (a, rest))) (hz : seesB rest "sign" "^" = false) : pPowers L n ts = some (.ok (a, rest)) := by
  unfold pPowers
  rw [e_ok h, powl_no hz]
theorem pow_pos {a : PyData} {e : Nat} {j : Nat} (he : e ≤ 9) : pPowL L (n + 1) a ((.sign "^", i) :: (.num e 1, j) :: rest) = pPowL L n (.tuple [.str "power", a, .int (e : Int), .int (i : Int)]) rest := by
  rw [pPowL.eq_def, e_seesT, e_at, e_exp, e_deep]
  · have h : pPower L ((.num e 1, j) :: rest) = some (.ok ((e : Int), rest)) := by
      unfold pPower
      rw [e_accF]
      · show (if (1 : Nat) ≠ 1 ∨ 9 < e then _ else _) = _
        rw [if_neg (by omega)]
      · rfl
    exact e_ok h
  all_goals rfl
theorem pow_neg {a : PyData} {e : Nat} {j m : Nat} (he : e ≤ 9) : pPowL L (n + 1) a ((.sign "^", i) :: (.sign "-", m) :: (.num e 1, j) :: rest) = pPowL L n (.tuple [.str "power", a, .int (-(e : Int)), .int (i : Int)]) rest := by
  rw [pPowL.eq_def, e_seesT, e_at, e_exp, e_deep]
  · have h : pPower L ((.sign "-", m) :: (.num e 1, j) :: rest) = some (.ok (-(e : Int), rest)) := by
      unfold pPower
      rw [e_accT]
      · have h2 : pWhole L 9 ((.num e 1, j) :: rest) = some (.ok ((e : Int), rest)) := by
          show (if (1 : Nat) ≠ 1 ∨ 9 < e then _ else _) = _
          rw [if_neg (by omega)]
        exact e_ok h2
      · rfl
    exact e_ok h
  all_goals rfl
/-- no operator stands ahead -/
structure Quiet (f : Nat) (rest : TS1) : Prop where
  q1 : 1 ≤ f → seesB rest "sign" "*" = false ∧ seesB rest "sign" "/" = false
  q2 : 2 ≤ f → seesB rest "sign" "+" = false ∧ seesB rest "sign" "-" = false
  q3 : 3 ≤ f → seesB rest "sign" "<" = false ∧ seesB rest "sign" "<=" = false ∧ seesB rest "sign" "==" = false
  q4 : 4 ≤ f → seesB rest "word" "and" = false
  q5 : 5 ≤ f → seesB rest "word" "or" = false
theorem facL_no {a : PyData} (q : Quiet 1 rest) : pFacL L n a rest = some (.ok (a, rest)) := by
  rw [pFacL.eq_def, e_seesF (q.q1 (by decide)).1, e_seesF (q.q1 (by decide)).2] <;> rfl
theorem termL_no {a : PyData} (q : Quiet 2 rest) : pTermL L n a rest = some (.ok (a, rest)) := by
  rw [pTermL.eq_def, e_seesF (q.q2 (by decide)).1, e_seesF (q.q2 (by decide)).2] <;> rfl
theorem cmp_no {a : PyData} (q : Quiet 3 rest) : pCmp L n a cmps rest = some (.ok (a, rest)) := by
  obtain ⟨h1, h2, h3⟩ := q.q3 (by decide)
  unfold cmps
  rw [pCmp.eq_def]
  show (pAt L >>= _) rest = _
  rw [e_at, e_accF h1, pCmp.eq_def]
  show (pAt L >>= _) rest = _
  rw [e_at, e_accF h2, pCmp.eq_def]
  show (pAt L >>= _) rest = _
  rw [e_at, e_accF h3, pCmp.eq_def] <;> rfl
theorem bothL_no {a : PyData} (q : Quiet 4 rest) : pBothL L n a rest = some (.ok (a, rest)) := by
  rw [pBothL.eq_def, e_seesF (q.q4 (by decide))] <;> rfl
theorem orL_no {a : PyData} {m : Nat} (q : Quiet 5 rest) : pOrL L n m a rest = some (.ok (a, rest)) := by
  rw [pOrL.eq_def, e_seesF (q.q5 (by decide))] <;> rfl
theorem Quiet.mono {f g : Nat} (q : Quiet f rest) (h : g ≤ f) : Quiet g rest := ⟨fun h1 => q.q1 (by omega), fun h1 => q.q2 (by omega), fun h1 => q.q3 (by omega), fun h1 => q.q4 (by omega), fun h1 => q.q5 (by omega)⟩
/-- from the powers up: nothing but one operand -/
theorem expr_up {ts : TS1} {a : PyData} (h : pPowers L n ts = some (.ok (a, rest))) (q : Quiet 5 rest) (h1 : seesB ts "word" "if" = false) (h2 : seesB ts "word" "let" = false) (h3 : seesB ts "word" "not" = false) : pExpr L n ts = some (.ok (a, rest)) := by
  have f1 : pFactors L n ts = some (.ok (a, rest)) := by
    unfold pFactors
    rw [e_ok h, facL_no (q.mono (by decide))]
  have f2 : pTerms L n ts = some (.ok (a, rest)) := by
    unfold pTerms
    rw [e_ok f1, termL_no (q.mono (by decide))]
  have f3 : pPlain L n ts = some (.ok (a, rest)) := by
    rw [pPlain.eq_def, e_at, e_accF h3, e_ok f2, cmp_no (q.mono (by decide))]
  have f4 : pBoth L n ts = some (.ok (a, rest)) := by
    unfold pBoth
    rw [e_ok f3, bothL_no (q.mono (by decide))]
  rw [pExpr.eq_def, e_at, e_accF h1, e_accF h2, e_ok f4, orL_no q]
end
end Al
namespace Al
open PySem PySem.Spec PyProof.Rows L2 NdefX PySem.W
/-! ### k02: the parser reads a chain as the tree -/
section
variable {L n i : Nat} {rest : TS1}
theorem quiet_of {f : Nat} (h : Stop f rest) : Quiet f rest := by
  obtain ⟨t, i, r, rfl, rfl | ⟨p, rfl, hp⟩⟩ := h
  · exact ⟨fun _ => ⟨rfl, rfl⟩, fun _ => ⟨rfl, rfl⟩, fun _ => ⟨rfl, rfl, rfl⟩, fun _ => rfl, fun _ => rfl⟩
  · cases p <;> (simp only [Op2.tier] at hp) <;> refine ⟨fun h => ?_, fun h => ?_, fun h => ?_, fun h => ?_, fun h => ?_⟩ <;> first | omega | exact ⟨rfl, rfl⟩ | exact ⟨rfl, rfl, rfl⟩ | rfl
theorem stop_paren {f : Nat} (h : Stop f rest) : seesB rest "sign" "(" = false ∧ seesB rest "sign" "[" = false ∧ seesB rest "sign" "^" = false := by
  obtain ⟨t, i, r, rfl, rfl | ⟨p, rfl, hp⟩⟩ := h
  · exact ⟨rfl, rfl, rfl⟩
  · cases p <;> exact ⟨rfl, rfl, rfl⟩
theorem quiet_paren {r : TS1} {j : Nat} : Quiet 5 ((.sign ")", j) :: r) := ⟨fun _ => ⟨rfl, rfl⟩, fun _ => ⟨rfl, rfl⟩, fun _ => ⟨rfl, rfl, rfl⟩, fun _ => rfl, fun _ => rfl⟩
theorem opd_read {f : Nat} (o : Opd) (h : Stop f rest) : pPowers L (n + 2) (o.toks i ++ rest) = some (.ok (o.tree i, rest)) := by
  obtain ⟨h1, h2, h3⟩ := stop_paren h
  cases o with
  | x => exact powers_of (prim_x h1) h3
  | num m => exact powers_of (prim_num h2) h3
  | call =>
    refine powers_of ?_ h3
    show pPrim L (n + 2) ((.name "f", i) :: (.sign "(", i + 1) :: (.name "y", i + 2) :: (.sign ")", i + 3) :: rest) = _
    have ha : pExpr L (n + 1) ((.name "y", i + 2) :: (.sign ")", i + 3) :: rest) = some (.ok (.tuple [.str "var", .str "y", .int ((i + 2 : Nat) : Int)], (.sign ")", i + 3) :: rest)) :=
      expr_up (powers_of (prim_x rfl) rfl) quiet_paren rfl rfl rfl
    have hb : ∀ acc, pArgs L (n + 2) acc ((.sign ")", i + 3) :: rest) = some (.ok (.tuple acc, rest)) := by
      intro acc
      rw [pArgs.eq_def, e_accF, e_exp] <;> rfl
    have hc : pCall L (n + 2) ((.sign "(", i + 1) :: (.name "y", i + 2) :: (.sign ")", i + 3) :: rest) = some (.ok (.tuple [.tuple [.str "var", .str "y", .int ((i + 2 : Nat) : Int)]], rest)) := by
      rw [pCall.eq_def, e_exp, e_accF, e_deep]
      · exact (e_ok ha).trans (hb _)
      all_goals rfl
    rw [pPrim.eq_def, e_at, e_accF, e_accF, e_accF, e_accF, e_kindF, e_read, e_seesT]
    · exact e_ok hc
    all_goals rfl
  | pow =>
    show pPowers L (n + 2) ((.name "x", i) :: (.sign "^", i + 1) :: (.num 2 1, i + 2) :: (.sign "^", i + 3) :: (.sign "-", i + 4) :: (.num 3 1, i + 5) :: rest) = _
    unfold pPowers
    rw [e_ok (prim_x rfl), pow_pos (by decide), pow_neg (by decide), powl_no h3]
    rfl
end
def PP (L n : Nat) : Nat → Pr PyData
  | 0 => pPowers L n
  | 1 => pFactors L n
  | 2 => pTerms L n
  | 3 => pPlain L n
  | 4 => pBoth L n
  | _ => pExpr L n
theorem first_word (o : Opd) (i : Nat) (r : TS1) (v : Str) : seesB (o.toks i ++ r) "word" v = false := by
  cases o <;> rfl
theorem chain_word (o : Opd) (i : Nat) (ch : List Lk) (r : TS1) (v : Str) : seesB (toksC o i ch ++ r) "word" v = false := by
  unfold toksC
  rw [List.append_assoc]
  exact first_word _ _ _ _
theorem cok_cons (b : Bool) (l : Lk) (r : List Lk) : cok b (l :: r) = if l.op.tier = 2 then b = false ∧ cok true r else if l.op.tier < 2 then cok false r else cok b r := rfl
theorem cok_cut {w : Nat} (hw : w < 2) : ∀ (ch : List Lk) (b : Bool), cok b ch → cok b (cut w ch).1 ∧ ∀ r ∈ (cut w ch).2, cok false r.g
  | [], b, _ => ⟨trivial, fun _ h => by cases h⟩
  | l :: r, b, h => by
    unfold cok at h
    unfold cut
    by_cases hl : l.op.tier = w
    · rw [if_neg (by omega), if_pos (by omega)] at h
      rw [if_pos hl]
      obtain ⟨h1, h2⟩ := cok_cut hw r false h
      refine ⟨trivial, fun u hu => ?_⟩
      rcases List.mem_cons.mp hu with rfl | hu
      · exact h1
      · exact h2 u hu
    · rw [if_neg hl]
      show cok b (l :: (cut w r).1) ∧ ∀ u ∈ (cut w r).2, cok false u.g
      rw [cok_cons]
      by_cases h2 : l.op.tier = 2
      · rw [if_pos h2] at h
        rw [if_pos h2]
        obtain ⟨g1, g2⟩ := cok_cut hw r true h.2
        exact ⟨⟨h.1, g1⟩, g2⟩
      · rw [if_neg h2] at h
        rw [if_neg h2]
        by_cases h3 : l.op.tier < 2
        · rw [if_pos h3] at h
          rw [if_pos h3]
          exact cok_cut hw r false h
        · rw [if_neg h3] at h
          rw [if_neg h3]
          exact cok_cut hw r b h
theorem cok_one : ∀ (ch : List Lk) (b : Bool), (∀ l ∈ ch, 2 ≤ l.op.tier) → cok b ch → (cut 2 ch).2.length ≤ (if b = true then 0 else 1)
  | [], b, _, _ => Nat.zero_le _
  | l :: r, b, ht, h => by
    unfold cok at h
    have ht1 := ht l List.mem_cons_self
    have htr := fun x hx => ht x (List.mem_cons_of_mem _ hx)
    unfold cut
    by_cases h2 : l.op.tier = 2
    · rw [if_pos h2] at h
      rw [if_pos h2, h.1]
      have := cok_one r true htr h.2
      rw [if_pos rfl] at this
      show (cut 2 r).2.length + 1 ≤ _
      rw [if_neg (by decide)]
      omega
    · rw [if_neg h2, if_neg (by omega)] at h
      rw [if_neg h2]
      exact cok_one r b htr h
def trG (f : Nat) (t : PyData) (r : Gr) : PyData := .tuple [.str r.l.op.head, t, tr f r.l.q r.l.j r.g, .int (r.l.at_ : Int)]
theorem tr_succ (f : Nat) (o : Opd) (i : Nat) (ch : List Lk) : tr (f + 1) o i ch = (cut (4 - f) ch).2.foldl (trG f) (tr f o i (cut (4 - f) ch).1) := rfl
theorem loop_run {f w : Nat} {rest : TS1} {Lp : Nat → PyData → Pr PyData} {g : Nat → Pr PyData} (hfw : w + f = 4) (hs : Stop f rest)
    (hstep : ∀ (p : Op2) (at_ n : Nat) (a b : PyData) (r r' : TS1), p.tier = w → g n r = some (.ok (b, r')) → Lp (n + 1) a ((p.tk, at_) :: r) = Lp n (.tuple [.str p.head, a, b, .int (at_ : Int)]) r')
    (hend : ∀ n a, Lp n a rest = some (.ok (a, rest)))
    (hg : ∀ (n : Nat) (o : Opd) (i : Nat) (ch : List Lk) (rest' : TS1), (∀ l ∈ ch, w + 1 ≤ l.op.tier) → cok false ch → Stop f rest' → 2 + ch.length ≤ n → g n (toksC o i ch ++ rest') = some (.ok (tr f o i ch, rest'))) :
    ∀ (gs : List Gr) (n : Nat) (a : PyData), (∀ r ∈ gs, r.l.op.tier = w ∧ (∀ l ∈ r.g, w + 1 ≤ l.op.tier) ∧ cok false r.g) → 2 + (gs.map fun r => 1 + r.g.length).sum ≤ n → Lp n a (gs.flatMap grToks ++ rest) = some (.ok (gs.foldl (trG f) a, rest))
  | [], n, a, _, _ => hend n a
  | r :: gs, n, a, h, hn => by
    obtain ⟨h1, h2, h3⟩ := h r List.mem_cons_self
    rw [List.map_cons, List.sum_cons] at hn
    obtain ⟨m, rfl⟩ : ∃ m, n = m + 1 := ⟨n - 1, by omega⟩
    have hgo : g m (toksC r.l.q r.l.j r.g ++ (gs.flatMap grToks ++ rest)) = some (.ok (tr f r.l.q r.l.j r.g, gs.flatMap grToks ++ rest)) := by
      refine hg m _ _ _ _ h2 h3 ?_ (by omega)
      cases gs with
      | nil => exact hs
      | cons r2 gs =>
        refine ⟨r2.l.op.tk, r2.l.at_, _, rfl, .inr ⟨r2.l.op, rfl, ?_⟩⟩
        have := (h r2 (List.mem_cons_of_mem _ List.mem_cons_self)).1
        omega
    have e : (r :: gs).flatMap grToks ++ rest = (r.l.op.tk, r.l.at_) :: (toksC r.l.q r.l.j r.g ++ (gs.flatMap grToks ++ rest)) := by
      simp [grToks]
    rw [e, hstep _ _ _ _ _ _ _ h1 hgo]
    exact loop_run hfw hs hstep hend hg gs m _ (fun x hx => h x (List.mem_cons_of_mem _ hx)) (by omega)
theorem facL_step {L : Nat} {p : Op2} {at_ n : Nat} {a b : PyData} {r r' : TS1} (hp : p.tier = 4) (h : pPowers L n r = some (.ok (b, r'))) : pFacL L (n + 1) a ((p.tk, at_) :: r) = pFacL L n (.tuple [.str p.head, a, b, .int (at_ : Int)]) r' := by
  cases p <;> (simp only [Op2.tier] at hp) <;> try omega
  · rw [pFacL.eq_def, e_seesT, e_at, e_read, e_deep]
    · exact e_ok h
    all_goals rfl
  · rw [pFacL.eq_def, e_seesF, e_seesT, e_at, e_read, e_deep]
    · exact e_ok h
    all_goals rfl
theorem termL_step {L : Nat} {p : Op2} {at_ n : Nat} {a b : PyData} {r r' : TS1} (hp : p.tier = 3) (h : pFactors L n r = some (.ok (b, r'))) : pTermL L (n + 1) a ((p.tk, at_) :: r) = pTermL L n (.tuple [.str p.head, a, b, .int (at_ : Int)]) r' := by
  cases p <;> (simp only [Op2.tier] at hp) <;> try omega
  · rw [pTermL.eq_def, e_seesT, e_at, e_read, e_deep]
    · exact e_ok h
    all_goals rfl
  · rw [pTermL.eq_def, e_seesF, e_seesT, e_at, e_read, e_deep]
    · exact e_ok h
    all_goals rfl
theorem bothL_step {L : Nat} {p : Op2} {at_ n : Nat} {a b : PyData} {r r' : TS1} (hp : p.tier = 1) (h : pPlain L n r = some (.ok (b, r'))) : pBothL L (n + 1) a ((p.tk, at_) :: r) = pBothL L n (.tuple [.str p.head, a, b, .int (at_ : Int)]) r' := by
  cases p <;> (simp only [Op2.tier] at hp) <;> try omega
  · rw [pBothL.eq_def, e_seesT, e_at, e_exp, e_deep]
    · exact e_ok h
    all_goals rfl
theorem orL_step {L : Nat} {p : Op2} {at_ n m : Nat} {a b : PyData} {r r' : TS1} (hp : p.tier = 0) (h : pBoth L n r = some (.ok (b, r'))) : pOrL L (n + 1) m a ((p.tk, at_) :: r) = pOrL L n m (.tuple [.str p.head, a, b, .int (at_ : Int)]) r' := by
  cases p <;> (simp only [Op2.tier] at hp) <;> try omega
  · rw [pOrL.eq_def, e_seesT, e_at, e_exp, e_deep]
    · exact e_ok h
    all_goals rfl
theorem cmp_step {L : Nat} {p : Op2} {at_ n : Nat} {a b : PyData} {r r' : TS1} (hp : p.tier = 2) (h : pTerms L n r = some (.ok (b, r'))) : pCmp L (n + 1) a cmps ((p.tk, at_) :: r) = some (.ok (.tuple [.str p.head, a, b, .int (at_ : Int)], r')) := by
  unfold cmps
  cases p <;> (simp only [Op2.tier] at hp) <;> try omega
  · rw [pCmp.eq_def]
    show (pAt L >>= _) _ = _
    rw [e_at, e_accT, e_deep]
    · exact e_ok h
    all_goals rfl
  · rw [pCmp.eq_def]
    show (pAt L >>= _) _ = _
    rw [e_at, e_accF, pCmp.eq_def]
    show (pAt L >>= _) _ = _
    rw [e_at, e_accT, e_deep]
    · exact e_ok h
    all_goals rfl
  · rw [pCmp.eq_def]
    show (pAt L >>= _) _ = _
    rw [e_at, e_accF, pCmp.eq_def]
    show (pAt L >>= _) _ = _
    rw [e_at, e_accF, pCmp.eq_def]
    show (pAt L >>= _) _ = _
    rw [e_at, e_accT, e_deep]
    · exact e_ok h
    all_goals rfl
/-- a chain of tier f is read as its tree -/
theorem chain_read (L : Nat) : ∀ (f : Nat), f ≤ 5 → ∀ (n : Nat) (o : Opd) (i : Nat) (ch : List Lk) (rest : TS1), (∀ l ∈ ch, 5 - f ≤ l.op.tier) → cok false ch → Stop f rest → 2 + ch.length ≤ n → PP L n f (toksC o i ch ++ rest) = some (.ok (tr f o i ch, rest))
  | 0, _, n, o, i, ch, rest, ht, _, hs, hn => by
    cases ch with
    | cons l r =>
      have := ht l List.mem_cons_self
      cases hl : l.op <;> (rw [hl] at this; simp [Op2.tier] at this)
    | nil =>
      obtain ⟨m, rfl⟩ : ∃ m, n = m + 2 := ⟨n - 2, by have := hn; omega⟩
      have e : toksC o i [] ++ rest = o.toks i ++ rest := by simp [toksC]
      rw [e]
      exact opd_read o hs
  | f + 1, hf, n, o, i, ch, rest, ht, hc, hs, hn => by
    have ih := chain_read L f (by omega)
    have hm := cut_mem (4 - f) ch
    have hlen := cut_len (4 - f) ch
    have htk := cut_toks (4 - f) o i ch
    have h1 : ∀ l ∈ (cut (4 - f) ch).1, 5 - f ≤ l.op.tier := fun l hl => by
      have := ht l (hm.1 l hl).1
      have := (hm.1 l hl).2
      omega
    have h2 : ∀ r ∈ (cut (4 - f) ch).2, r.l.op.tier = 4 - f ∧ (∀ l ∈ r.g, 5 - f ≤ l.op.tier) := fun r hr => by
      obtain ⟨_, a, b⟩ := hm.2 r hr
      refine ⟨a, fun l hl => ?_⟩
      have := ht l (b l hl).1
      have := (b l hl).2
      omega
    have hcc : cok false (cut (4 - f) ch).1 ∧ ∀ r ∈ (cut (4 - f) ch).2, cok false r.g := by
      by_cases hw : 4 - f < 2
      · exact cok_cut hw ch false hc
      · have easy : ∀ c : List Lk, (∀ l ∈ c, 3 ≤ l.op.tier) → cok false c := by
          intro c
          induction c with
          | nil => intro _; trivial
          | cons l c ihc =>
            intro h
            have := h l List.mem_cons_self
            unfold cok
            rw [if_neg (by omega), if_neg (by omega)]
            exact ihc fun x hx => h x (List.mem_cons_of_mem _ hx)
        refine ⟨easy _ fun l hl => ?_, fun r hr => easy _ fun l hl => ?_⟩
        · have := h1 l hl; omega
        · have := (h2 r hr).2 l hl; omega
    have hsf : Stop f rest := hs.mono (by omega)
    have hgs : Stop f ((cut (4 - f) ch).2.flatMap grToks ++ rest) := by
      cases hg : (cut (4 - f) ch).2 with
      | nil => exact hsf
      | cons r gs =>
        refine ⟨r.l.op.tk, r.l.at_, _, rfl, .inr ⟨r.l.op, rfl, ?_⟩⟩
        have := (h2 r (by rw [hg]; exact List.mem_cons_self)).1
        omega
    have first := ih n o i _ _ h1 hcc.1 hgs (by omega)
    rw [← List.append_assoc, ← htk] at first
    have hq := quiet_of hs
    have hgr : ∀ r ∈ (cut (4 - f) ch).2, r.l.op.tier = 4 - f ∧ (∀ l ∈ r.g, (4 - f) + 1 ≤ l.op.tier) ∧ cok false r.g := fun r hr => ⟨(h2 r hr).1, fun l hl => by have := (h2 r hr).2 l hl; omega, hcc.2 r hr⟩
    have hsum : 2 + ((cut (4 - f) ch).2.map fun r => 1 + r.g.length).sum ≤ n := by omega
    have hG : ∀ (n : Nat) (o : Opd) (i : Nat) (ch : List Lk) (rest' : TS1), (∀ l ∈ ch, (4 - f) + 1 ≤ l.op.tier) → cok false ch → Stop f rest' → 2 + ch.length ≤ n → PP L n f (toksC o i ch ++ rest') = some (.ok (tr f o i ch, rest')) := fun n o i ch rest' a b c d => ih n o i ch rest' (fun l hl => by have := a l hl; omega) b c d
    have hw1 := chain_word o i ch rest
    rw [tr_succ]
    obtain rfl | rfl | rfl | rfl | rfl : f = 0 ∨ f = 1 ∨ f = 2 ∨ f = 3 ∨ f = 4 := by omega
    · change pPowers L n _ = _ at first
      show pFactors L n _ = _
      unfold pFactors
      rw [e_ok first]
      exact loop_run (f := 0) (w := 4) rfl hsf (fun p at_ n a b r r' hp h => facL_step hp h) (fun n a => facL_no hq) hG _ n _ hgr hsum
    · change pFactors L n _ = _ at first
      show pTerms L n _ = _
      unfold pTerms
      rw [e_ok first]
      exact loop_run (f := 1) (w := 3) rfl hsf (fun p at_ n a b r r' hp h => termL_step hp h) (fun n a => termL_no hq) hG _ n _ hgr hsum
    · change pTerms L n _ = _ at first
      show pPlain L n _ = _
      rw [pPlain.eq_def, e_at, e_accF (hw1 _), e_ok first]
      have hone := cok_one ch false (fun l hl => by have := ht l hl; omega) hc
      rw [if_neg (by decide)] at hone
      match hgg : (cut (4 - 2) ch).2, hone with
      | [], _ =>
        exact cmp_no hq
      | [r], _ =>
        rw [hgg] at hgr hsum
        rw [List.map_cons, List.sum_cons] at hsum
        obtain ⟨m, rfl⟩ : ∃ m, n = m + 1 := ⟨n - 1, by omega⟩
        obtain ⟨a1, a2, a3⟩ := hgr r List.mem_cons_self
        have e : [r].flatMap grToks ++ rest = (r.l.op.tk, r.l.at_) :: (toksC r.l.q r.l.j r.g ++ rest) := by simp [grToks]
        rw [e]
        exact cmp_step a1 (hG m _ _ _ _ a2 a3 hsf (by omega))
      | r1 :: r2 :: g, h => 
        have h : (r1 :: r2 :: g).length ≤ 1 := by rw [← hgg]; exact hone
        simp at h
    · change pPlain L n _ = _ at first
      show pBoth L n _ = _
      unfold pBoth
      rw [e_ok first]
      exact loop_run (f := 3) (w := 1) rfl hsf (fun p at_ n a b r r' hp h => bothL_step hp h) (fun n a => bothL_no hq) hG _ n _ hgr hsum
    · change pBoth L n _ = _ at first
      show pExpr L n _ = _
      rw [pExpr.eq_def, e_at, e_accF (hw1 _), e_accF (hw1 _), e_ok first]
      exact loop_run (f := 4) (w := 0) (g := fun n => pBoth L n) (Lp := fun n a => pOrL L n (atP L (toksC o i ch ++ rest)) a) rfl hsf (fun p at_ n a b r r' hp h => orL_step hp h) (fun n a => orL_no hq) hG _ n _ hgr hsum
/-! ### the line -/
theorem line_read {L : Nat} {o : Opd} {i i1 : Nat} {ch : List Lk} {e : Nat} (ht : cok false ch) (hn : ch.length ≤ 20) :
    pLines L [] ((.word "show", i) :: (toksC o i1 ch ++ [(.sign ";", e)])) = some (.ok ([.tuple [.str "show", tr 5 o i1 ch, .none, .int (i : Int)]], [])) := by
  have hx := chain_read L 5 (by decide) 23 o i1 ch [(.sign ";", e)] (fun l _ => Nat.zero_le _) ht ⟨_, _, _, rfl, .inl rfl⟩ (by omega)
  have hx : pExpr L 23 (toksC o i1 ch ++ [(.sign ";", e)]) = some (.ok (tr 5 o i1 ch, [(.sign ";", e)])) := hx
  have hl : pLine L ((.word "show", i) :: (toksC o i1 ch ++ [(.sign ";", e)])) = some (.ok (.tuple [.str "show", tr 5 o i1 ch, .none, .int (i : Int)], [])) := by
    unfold pLine
    rw [e_at, e_accF, e_accF, e_accF, e_exp]
    · show (pExpr L 23 >>= _) (toksC o i1 ch ++ [(.sign ";", e)]) = _
      rw [e_ok hx, e_accF2, e_pure]
      · unfold pSemi
        rw [e_exp] <;> rfl
      all_goals rfl
    all_goals rfl
  rw [pLines.eq_def]
  have e1 : ∀ ts : TS1, pEnd ts = some (.ok (ts.isEmpty, ts)) := fun _ => rfl
  rw [e_ok (e1 _)]
  show (pLine L >>= _) _ = _
  rw [e_ok hl, pLines.eq_def, e_ok (e1 _)]
  rfl
end Al
namespace Al
open PySem PySem.Spec PyProof.Rows L2 NdefX PySem.W
/-! ### the law's own makers in plain Lean -/
def LETs : Str := "abcdefghijklmnopqrstuvwxyzABCDEFGHIJKLMNOPQRSTUVWXYZ"
def MOREs : Str := LETs ++ ("0123456789_" : Str)
def lawW (c : Nat) : List Nat := (lS LETs).getD (c % 52) 0 :: (List.range (c / 52 % 16)).map fun k => (lS MOREs).getD (c / 52 / (3 + k) % 63) 0
def parts : List Str := ["", "0", "5", "25", "007", "1234"]
def worths : List Nat := [1, 10, 10, 100, 1000, 10000]
def zers : List Str := ["", "0", "00"]
def wholeN (r : Nat) : Nat := r % (if r / 7 % 2 = 0 then 10 else 1000000)
def numS (n : Nat) : List Nat := lS (Str.ofString (toString ((n : Nat) : Int)))
def last6 (l : List Nat) : List Nat := l.drop (l.length - min 6 l.length)
def shOf (r : Nat) : List Nat := last6 (lS (zers.getD (r / 84 % 3) "") ++ numS (wholeN r))
def ptOf (r : Nat) : List Nat := lS (parts.getD (r / 14 % 6) "")
def lawTok (c : Nat) : Tk × List Nat :=
  if c % 5 = 0 then (.word (RES.getD (c / 5 % 16) ""), lS (RES.getD (c / 5 % 16) ""))
  else if c % 5 = 1 then (if uS (lawW (c / 5)) ∈ RES then .word (uS (lawW (c / 5))) else .name (uS (lawW (c / 5))), lawW (c / 5))
  else if c % 5 < 4 then (.num (digV (shOf (c / 5) ++ ptOf (c / 5))) (10 ^ (ptOf (c / 5)).length), shOf (c / 5) ++ (if ptOf (c / 5) = [] then [] else [46]) ++ ptOf (c / 5))
  else (.sign (SIG.getD (c / 5 % 16) ""), lS (SIG.getD (c / 5 % 16) ""))
def sepS : List Str := [" ", "\n", "\t", "  ", " # == fun\n", "\n\n"]
def sepOf (c : Nat) : List Nat := lS (sepS.getD (c / 3 % 6) "")
def bads : List Str := ["@", "1234567", "1.23456", "7a", "1.5x", "aaaaaaaaaaaaaaaaa", "!", ".", ".5", "{", "1_", "$"]
/-! ### facts -/
theorem tw_app {p : Nat → Bool} {x : Nat} {r : List Nat} (hx : p x = false) : ∀ l : List Nat, (∀ a ∈ l, p a = true) → (l ++ x :: r).takeWhile p = l
  | [], _ => by rw [List.nil_append, List.takeWhile_cons, if_neg (by rw [hx]; decide)]
  | a :: l, h => by
    rw [List.cons_append, List.takeWhile_cons, if_pos (h a List.mem_cons_self), tw_app hx l fun b hb => h b (List.mem_cons_of_mem _ hb)]
def blank3 (x : Nat) : Prop := x = 32 ∨ x = 10 ∨ x = 9
theorem blank_in {x : Nat} (h : blank3 x) : inName x = false ∧ isDigit x = false ∧ x ≠ 46 ∧ isSp x = true := by
  rcases h with rfl | rfl | rfl <;> decide
theorem word_lex {w : List Nat} {c : Nat} {x : Nat} {R : List Nat} (h0 : w.head? = some c) (hc : isLetter c = true) (hw : ∀ a ∈ w, inName a = true) (hl : w.length ≤ 16) (hx : blank3 x) :
    tok1 (w ++ x :: R) = some (if uS w ∈ RES then .word (uS w) else .name (uS w), w.length) := by
  cases w with
  | nil => cases h0
  | cons c' w =>
    cases h0
    have e := tw_app (r := R) (blank_in hx).1 (c :: w) hw
    show (if isLetter c = true then wordTok ((c :: w) ++ x :: R) else _) = _
    rw [if_pos hc]
    unfold wordTok
    rw [e]
    by_cases hm : uS (c :: w) ∈ RES
    · rw [if_pos hm, if_pos hm]
    · rw [if_neg hm, if_neg hm, if_neg (by omega)]
theorem letter_not_digit {c : Nat} (h : isDigit c = true) : isLetter c = false := by
  have := isDigit_ok h
  unfold isLetter
  rw [decide_eq_false (show ¬ 97 ≤ c by omega), decide_eq_false (show ¬ 65 ≤ c by omega)]
  rfl
theorem num_lex {sh pt : List Nat} {x : Nat} {R : List Nat} (h0 : sh ≠ []) (h1 : ∀ a ∈ sh, isDigit a = true) (h2 : ∀ a ∈ pt, isDigit a = true) (h3 : sh.length ≤ 6) (h4 : pt.length ≤ 4) (hx : blank3 x) :
    tok1 ((sh ++ (if pt = [] then [] else [46]) ++ pt) ++ x :: R) = some (.num (digV (sh ++ pt)) (10 ^ pt.length), (sh ++ (if pt = [] then [] else [46]) ++ pt).length) := by
  obtain ⟨b1, b2, b3, b4⟩ := blank_in hx
  have head : ∀ T, tok1 (sh ++ T) = numTok (sh ++ T) := fun T => by
    cases sh with
    | nil => exact absurd rfl h0
    | cons c s =>
      have hc := h1 c List.mem_cons_self
      show (if isLetter c = true then _ else if isDigit c = true then _ else _) = _
      rw [if_neg (by rw [letter_not_digit hc]; decide), if_pos hc] <;> rfl
  by_cases hp : pt = []
  · subst hp
    simp only [if_true, List.append_nil]
    rw [head]
    have e := tw_app (r := R) b2 sh h1
    have e2 : (sh ++ x :: R).drop sh.length = x :: R := by simp
    have e3 : partOf (x :: R) = [] := by
      cases R with
      | nil => rfl
      | cons d r =>
        show (if x = 46 ∧ isDigit d = true then _ else _) = _
        rw [if_neg (fun z => b3 z.1)]
    unfold numTok numLen
    rw [e, e2, e3]
    simp only [if_true, Nat.add_zero, List.length_nil, List.append_nil]
    rw [e2, if_neg]
    · rintro (z | z | z)
      · omega
      · omega
      · have : inName x = true := z
        rw [b1] at this; cases this
  · rw [if_neg hp]
    have ea : sh ++ [46] ++ pt ++ x :: R = sh ++ 46 :: (pt ++ x :: R) := by simp
    rw [ea, head]
    have e := tw_app (r := pt ++ x :: R) (by decide : isDigit 46 = false) sh h1
    have e2 : (sh ++ 46 :: (pt ++ x :: R)).drop sh.length = 46 :: (pt ++ x :: R) := by simp
    have e3 : partOf (46 :: (pt ++ x :: R)) = pt := by
      cases pt with
      | nil => exact absurd rfl hp
      | cons d r =>
        show (if 46 = 46 ∧ isDigit d = true then ((d :: r) ++ x :: R).takeWhile isDigit else []) = _
        rw [if_pos ⟨rfl, h2 d List.mem_cons_self⟩]
        exact tw_app b2 (d :: r) h2
    unfold numTok numLen
    rw [e, e2, e3, if_neg hp]
    have e4 : (sh ++ 46 :: (pt ++ x :: R)).drop (sh.length + (1 + pt.length)) = x :: R := by
      have : sh ++ 46 :: (pt ++ x :: R) = (sh ++ 46 :: pt) ++ x :: R := by simp
      rw [this]
      have hl : sh.length + (1 + pt.length) = (sh ++ 46 :: pt).length := by simp; omega
      rw [hl, List.drop_left]
    rw [e4, if_neg]
    · have hl : sh.length + (1 + pt.length) = (sh ++ [46] ++ pt).length := by simp; omega
      rw [hl]
    · rintro (z | z | z)
      · omega
      · omega
      · have : inName x = true := z
        rw [b1] at this; cases this
theorem sign_lex {k : Nat} {x : Nat} {R : List Nat} (hk : k < 16) (hx : blank3 x) : tok1 (lS (SIG.getD k "") ++ x :: R) = some (.sign (SIG.getD k ""), (lS (SIG.getD k "")).length) := by
  match k, hk with
  | 0, _ => rfl
  | 1, _ => rfl
  | 2, _ => rcases hx with rfl | rfl | rfl <;> rfl
  | 3, _ => rcases hx with rfl | rfl | rfl <;> rfl
  | 4, _ => rfl
  | 5, _ => rfl
  | 6, _ => rfl
  | 7, _ => rfl
  | 8, _ => rfl
  | 9, _ => rfl
  | 10, _ => rfl
  | 11, _ => rfl
  | 12, _ => rfl
  | 13, _ => rfl
  | 14, _ => rfl
  | 15, _ => rfl
  | k + 16, h => omega
theorem getD_mem {α : Type} {l : List α} {k : Nat} {d : α} (h : k < l.length) : l.getD k d ∈ l := by
  rw [List.getD_eq_getElem?_getD, List.getElem?_eq_getElem h]
  exact List.getElem_mem h
theorem lawW_facts (c : Nat) : ∃ a, (lawW c).head? = some a ∧ isLetter a = true ∧ (∀ b ∈ lawW c, inName b = true) ∧ (lawW c).length ≤ 16 := by
  have h1 : ∀ a ∈ lS LETs, isLetter a = true := by decide +kernel
  have h2 : ∀ a ∈ lS MOREs, inName a = true := by decide +kernel
  have l1 : (lS LETs).length = 52 := by decide +kernel
  have l2 : (lS MOREs).length = 63 := by decide +kernel
  have m1 : (lS LETs).getD (c % 52) 0 ∈ lS LETs := getD_mem (by rw [l1]; omega)
  refine ⟨_, rfl, h1 _ m1, ?_, ?_⟩
  · intro b hb
    rcases List.mem_cons.mp hb with rfl | hb
    · have := h1 _ m1
      unfold inName
      rw [this] <;> rfl
    · obtain ⟨k, _, rfl⟩ := List.mem_map.mp hb
      exact h2 _ (getD_mem (by rw [l2]; omega))
  · unfold lawW
    rw [List.length_cons, List.length_map, List.length_range]
    omega
theorem numS_eq (n : Nat) : numS n = (Nat.toDigits 10 n).map Char.toNat := KIN.signs_num n
theorem numS_digits (n : Nat) : ∀ a ∈ numS n, isDigit a = true := by
  intro a ha
  rw [numS_eq] at ha
  obtain ⟨ch, hch, rfl⟩ := List.mem_map.mp ha
  have h := Nat.isDigit_of_mem_toDigits (by decide) (by decide) hch
  unfold Char.isDigit at h
  rw [Bool.and_eq_true] at h
  unfold isDigit
  have h1 := of_decide_eq_true h.1
  have h2 := of_decide_eq_true h.2
  rw [Bool.and_eq_true]
  exact ⟨decide_eq_true (UInt32.le_iff_toNat_le.mp h1), decide_eq_true (UInt32.le_iff_toNat_le.mp h2)⟩
theorem numS_ne (n : Nat) : numS n ≠ [] := by
  rw [numS_eq]
  intro h
  have : (Nat.toDigits 10 n).length = 0 := by rw [List.map_eq_nil_iff.mp h] <;> rfl
  have h2 := Nat.length_toDigits_pos (b := 10) (n := n)
  omega
theorem last6_len (l : List Nat) : (last6 l).length = min 6 l.length := by
  unfold last6
  rw [List.length_drop]
  omega
theorem last6_sub (l : List Nat) : ∀ a ∈ last6 l, a ∈ l := fun a ha => List.mem_of_mem_drop ha
theorem sh_facts (r : Nat) : shOf r ≠ [] ∧ (∀ a ∈ shOf r, isDigit a = true) ∧ (shOf r).length ≤ 6 := by
  have hz : ∀ z ∈ zers, ∀ a ∈ lS z, isDigit a = true := by decide +kernel
  have m : zers.getD (r / 84 % 3) "" ∈ zers := getD_mem (by show _ < 3; omega)
  have hl := last6_len (lS (zers.getD (r / 84 % 3) "") ++ numS (wholeN r))
  refine ⟨?_, ?_, ?_⟩
  · intro h
    have h0 : (shOf r).length = 0 := by rw [h] <;> rfl
    have : (numS (wholeN r)).length ≠ 0 := fun z => numS_ne _ (List.length_eq_zero_iff.mp z)
    unfold shOf at h0
    rw [hl, List.length_append] at h0
    omega
  · intro a ha
    rcases List.mem_append.mp (last6_sub _ a ha) with h | h
    · exact hz _ m a h
    · exact numS_digits _ a h
  · unfold shOf
    rw [hl]
    omega
theorem pt_facts (r : Nat) : (∀ a ∈ ptOf r, isDigit a = true) ∧ (ptOf r).length ≤ 4 ∧ worths.getD (r / 14 % 6) 0 = 10 ^ (ptOf r).length ∧ (parts.getD (r / 14 % 6) "" = "" ↔ ptOf r = []) := by
  have hz : ∀ z ∈ parts, (∀ a ∈ lS z, isDigit a = true) ∧ (lS z).length ≤ 4 := by decide +kernel
  have m : parts.getD (r / 14 % 6) "" ∈ parts := getD_mem (by show _ < 6; omega)
  refine ⟨(hz _ m).1, (hz _ m).2, ?_, ?_⟩
  · have : r / 14 % 6 < 6 := by omega
    unfold ptOf
    generalize r / 14 % 6 = k at *
    match k, this with
    | 0, _ => decide +kernel
    | 1, _ => decide +kernel
    | 2, _ => decide +kernel
    | 3, _ => decide +kernel
    | 4, _ => decide +kernel
    | 5, _ => decide +kernel
    | k + 6, h => omega
  · unfold ptOf
    constructor
    · intro h; rw [h]; rfl
    · intro h
      have e : (parts.getD (r / 14 % 6) "") = uS [] := by rw [← h]; rfl
      rw [e]; decide +kernel
theorem RES_facts : ∀ g ∈ RES, (∃ a, (lS g).head? = some a ∧ isLetter a = true) ∧ (∀ b ∈ lS g, inName b = true) ∧ (lS g).length ≤ 16 := by
  have h : ∀ g ∈ RES, isLetter ((lS g).headD 0) = true ∧ lS g ≠ [] ∧ (∀ b ∈ lS g, inName b = true) ∧ (lS g).length ≤ 16 := by decide +kernel
  intro g hg
  obtain ⟨h1, h2, h3, h4⟩ := h g hg
  refine ⟨?_, h3, h4⟩
  cases hl : lS g with
  | nil => exact absurd hl h2
  | cons a l => rw [hl] at h1; exact ⟨a, rfl, h1⟩
theorem lawTok_lex (c : Nat) {x : Nat} {R : List Nat} (hx : blank3 x) : tok1 ((lawTok c).2 ++ x :: R) = some ((lawTok c).1, (lawTok c).2.length) := by
  unfold lawTok
  split
  · have m : RES.getD (c / 5 % 16) "" ∈ RES := getD_mem (by show _ < 16; omega)
    obtain ⟨⟨a, h1, h2⟩, h3, h4⟩ := RES_facts _ m
    have := word_lex (R := R) h1 h2 h3 h4 hx
    rw [if_pos (show uS (lS (RES.getD (c / 5 % 16) "")) ∈ RES from m)] at this
    exact this
  · split
    · obtain ⟨a, h1, h2, h3, h4⟩ := lawW_facts (c / 5)
      exact word_lex h1 h2 h3 h4 hx
    · split
      · obtain ⟨h1, h2, h3⟩ := sh_facts (c / 5)
        obtain ⟨g1, g2, _⟩ := pt_facts (c / 5)
        exact num_lex h1 h2 g1 h3 g2 hx
      · exact sign_lex (by omega) hx
theorem lawTok_len (c : Nat) : 1 ≤ (lawTok c).2.length ∧ (lawTok c).2.length ≤ 16 := by
  have h := lawTok_lex c (x := 32) (R := []) (.inl rfl)
  constructor
  · cases hl : (lawTok c).2 with
    | nil =>
      rw [hl] at h
      have z : tok1 ([] ++ [32]) = none := by decide
      rw [z] at h
      cases h
    | cons a l => rw [List.length_cons]; omega
  · unfold lawTok
    split
    · have m : RES.getD (c / 5 % 16) "" ∈ RES := getD_mem (by show _ < 16; omega)
      exact (RES_facts _ m).2.2
    · split
      · obtain ⟨a, h1, h2, h3, h4⟩ := lawW_facts (c / 5)
        exact h4
      · split
        · obtain ⟨h1, h2, h3⟩ := sh_facts (c / 5)
          obtain ⟨g1, g2, _⟩ := pt_facts (c / 5)
          show (shOf (c / 5) ++ (if ptOf (c / 5) = [] then [] else [46]) ++ ptOf (c / 5)).length ≤ 16
          rw [List.length_append, List.length_append]
          split <;> simp <;> omega
        · have hs : ∀ g ∈ SIG, (lS g).length ≤ 16 := by decide +kernel
          exact hs _ (getD_mem (by show _ < 16; omega))
theorem tok_start {c : Nat} {s : List Nat} {t : Tk} {k : Nat} (h : tok1 (c :: s) = some (t, k)) (hs : isSp c = true ∨ c = 35) : False := by
  have e : tok1 (c :: s) = signTok (c :: s) := by
    show (if isLetter c = true then _ else if isDigit c = true then _ else _) = _
    have hc : c = 32 ∨ c = 9 ∨ c = 10 ∨ c = 35 := by
      rcases hs with hs | hs
      · unfold isSp at hs
        simp at hs
        omega
      · omega
    rcases hc with rfl | rfl | rfl | rfl <;> rfl
  rw [e] at h
  have hc : c = 32 ∨ c = 9 ∨ c = 10 ∨ c = 35 := by
    rcases hs with hs | hs
    · unfold isSp at hs
      simp at hs
      omega
    · omega
  have : signTok (c :: s) = none := by
    rcases hc with rfl | rfl | rfl | rfl <;> rfl
  rw [this] at h
  cases h
/-- a token, then what stands behind it -/
theorem lex_tok {i : Nat} {w : List Nat} {t : Tk} {R : List Nat} {ts : List (Tk × Nat)} {e : Option Nat} (h : tok1 (w ++ R) = some (t, w.length)) (hw : w ≠ []) (hr : Lex (i + w.length) R ts e) : Lex i (w ++ R) ((t, i) :: ts) e := by
  cases w with
  | nil => exact absurd rfl hw
  | cons c w =>
    refine .tok (s := w ++ R) ?_ ?_ h ?_
    · cases hc : isSp c with
      | false => rfl
      | true => exact (tok_start h (.inl hc)).elim
    · intro hc
      exact tok_start h (.inr hc)
    · have : (c :: (w ++ R)).drop (c :: w).length = R := by
        show ((c :: w) ++ R).drop (c :: w).length = R
        exact List.drop_left
      rw [this]
      exact hr
theorem lex_sep (c : Nat) {i : Nat} {R : List Nat} {ts : List (Tk × Nat)} {e : Option Nat} (hr : Lex (i + (sepOf c).length) R ts e) : (∃ x S, sepOf c ++ R = x :: S ∧ blank3 x) ∧ Lex i (sepOf c ++ R) ts e := by
  have h6 : c / 3 % 6 < 6 := by omega
  unfold sepOf at *
  generalize c / 3 % 6 = k at *
  match k, h6 with
  | 0, _ => exact ⟨⟨_, _, rfl, .inl rfl⟩, .sp rfl hr⟩
  | 1, _ => exact ⟨⟨_, _, rfl, .inr (.inl rfl)⟩, .sp rfl hr⟩
  | 2, _ => exact ⟨⟨_, _, rfl, .inr (.inr rfl)⟩, .sp rfl hr⟩
  | 3, _ => exact ⟨⟨_, _, rfl, .inl rfl⟩, .sp rfl (.sp rfl hr)⟩
  | 4, _ =>
    refine ⟨⟨_, _, rfl, .inl rfl⟩, .sp rfl (.com ?_)⟩
    show Lex _ (10 :: R) ts e
    exact .sp rfl hr
  | 5, _ => exact ⟨⟨_, _, rfl, .inr (.inl rfl)⟩, .sp rfl (.sp rfl hr)⟩
  | k + 6, h => omega
theorem sep_len (c : Nat) : (sepOf c).length ≤ 10 := by
  have hs : ∀ g ∈ sepS, (lS g).length ≤ 10 := by decide +kernel
  exact hs _ (getD_mem (by show _ < 6; omega))
/-- the law's text and what is due, behind j pieces; C j: the j-th cell -/
def txtOf (C : Nat → Nat) : Nat → List Nat
  | 0 => []
  | j + 1 => txtOf C j ++ (lawTok (C j)).2 ++ sepOf (C j)
def dueOf (C : Nat → Nat) : Nat → List (Tk × Nat)
  | 0 => []
  | j + 1 => dueOf C j ++ [((lawTok (C j)).1, (txtOf C j).length)]
theorem lex_text (C : Nat → Nat) : ∀ (j : Nat) (R : List Nat) (ts : List (Tk × Nat)) (e : Option Nat), Lex (txtOf C j).length R ts e → Lex 0 (txtOf C j ++ R) (dueOf C j ++ ts) e
  | 0, R, ts, e, h => h
  | j + 1, R, ts, e, h => by
    have e1 : txtOf C (j + 1) ++ R = txtOf C j ++ ((lawTok (C j)).2 ++ (sepOf (C j) ++ R)) := by simp [txtOf]
    have e2 : dueOf C (j + 1) ++ ts = dueOf C j ++ (((lawTok (C j)).1, (txtOf C j).length) :: ts) := by simp [dueOf]
    rw [e1, e2]
    refine lex_text C j _ _ _ ?_
    have hl : (txtOf C (j + 1)).length = (txtOf C j).length + (lawTok (C j)).2.length + (sepOf (C j)).length := by simp [txtOf]; omega
    rw [hl] at h
    obtain ⟨⟨x, S, hx, hb⟩, h2⟩ := lex_sep (C j) h
    refine lex_tok ?_ ?_ h2
    · rw [hx]
      exact lawTok_lex (C j) hb
    · intro z
      have := (lawTok_len (C j)).1
      rw [z] at this
      simp at this
theorem txt_len (C : Nat → Nat) : ∀ j, (txtOf C j).length ≤ 26 * j
  | 0 => Nat.le_refl _
  | j + 1 => by
    have h1 := txt_len C j
    have h2 := (lawTok_len (C j)).2
    have h3 := sep_len (C j)
    simp [txtOf]
    omega
theorem due_len (C : Nat → Nat) : ∀ j, (dueOf C j).length = j
  | 0 => rfl
  | j + 1 => by simp [dueOf, due_len C j]
theorem cut_last (l : List Nat) : cutS (uS l) (some (0 - (if (l.length : Int) < 6 then (l.length : Int) else 6))) none = uS (last6 l) := by
  have hl : (uS l).length = l.length := rfl
  unfold cutS last6
  rw [HT.sIx_none, hl]
  have e : HT.sIx l.length 0 (some (0 - (if (l.length : Int) < 6 then (l.length : Int) else 6))) = l.length - min 6 l.length := by
    show (if (0 - (if (l.length : Int) < 6 then (l.length : Int) else 6)) < 0 then ((0 - (if (l.length : Int) < 6 then (l.length : Int) else 6)) + (l.length : Int)).toNat else min (0 - (if (l.length : Int) < 6 then (l.length : Int) else 6)).toNat l.length) = _
    split <;> split <;> omega
  rw [e]
  show uS ((l.drop (l.length - min 6 l.length)).take (l.length - (l.length - min 6 l.length))) = _
  rw [List.take_of_length_le (by rw [List.length_drop]; omega)]
theorem numS_len {n : Nat} (h : n < 1000000) : (numS n).length ≤ 10 := by
  have := KT.len_num (n := (n : Int)) (by omega) (by omega)
  exact this
theorem zers_len (k : Nat) (h : k < 3) : (lS (zers.getD k "")).length ≤ 2 := by
  have hs : ∀ g ∈ zers, (lS g).length ≤ 2 := by decide +kernel
  exact hs _ (getD_mem (show k < zers.length from h))
theorem dig_lt : ∀ (l : List Nat) (a : Nat), (∀ c ∈ l, isDigit c = true) → l.foldl (fun acc c => acc * 10 + (c - 48)) a < (a + 1) * 10 ^ l.length
  | [], a, _ => by simp
  | c :: l, a, h => by
    have h1 := dig_lt l (a * 10 + (c - 48)) fun d hd => h d (List.mem_cons_of_mem _ hd)
    have hc := isDigit_ok (h c List.mem_cons_self)
    rw [List.foldl_cons, List.length_cons, Nat.pow_succ]
    refine Nat.lt_of_lt_of_le h1 ?_
    have : (a * 10 + (c - 48) + 1) * 10 ^ l.length ≤ ((a + 1) * 10) * 10 ^ l.length := Nat.mul_le_mul_right _ (by omega)
    rw [Nat.mul_assoc] at this
    rw [Nat.mul_comm (10 ^ l.length) 10]
    exact this
theorem digV_lt {l : List Nat} (h : ∀ c ∈ l, isDigit c = true) : digV l < 10 ^ l.length := by
  have := dig_lt l 0 h
  rw [Nat.zero_add, Nat.one_mul] at this
  exact this
theorem lawTok_ok (c : Nat) : (lawTok c).1.ok := by
  have pl : ∀ l : List Nat, (∀ b ∈ l, inName b = true) → l.length ≤ 16 → Plain (uS l) ∧ (uS l).length ≤ 16 := fun l h1 h2 => ⟨fun b hb => by
    have := h1 b hb
    unfold inName isLetter isDigit at this
    simp at this
    omega, h2⟩
  unfold lawTok
  split
  · have m : RES.getD (c / 5 % 16) "" ∈ RES := getD_mem (by show _ < 16; omega)
    obtain ⟨_, h3, h4⟩ := RES_facts _ m
    exact pl _ h3 h4
  · split
    · obtain ⟨a, h1, h2, h3, h4⟩ := lawW_facts (c / 5)
      show (if uS (lawW (c / 5)) ∈ RES then Tk.word (uS (lawW (c / 5))) else Tk.name (uS (lawW (c / 5)))).ok
      split <;> exact pl _ h3 h4
    · split
      · obtain ⟨h1, h2, h3⟩ := sh_facts (c / 5)
        obtain ⟨g1, g2, _⟩ := pt_facts (c / 5)
        constructor
        · refine Nat.lt_of_lt_of_le (digV_lt (l := shOf (c / 5) ++ ptOf (c / 5)) fun a ha => (List.mem_append.mp ha).elim (h2 a) (g1 a)) (Nat.pow_le_pow_right (by decide) ?_)
          rw [List.length_append]; omega
        · exact Nat.lt_of_le_of_lt (Nat.pow_le_pow_right (by decide) g2) (by decide)
      · have hs : ∀ g ∈ SIG, Plain g ∧ g.length ≤ 16 := by unfold Plain; decide +kernel
        exact hs _ (getD_mem (by show _ < 16; omega))
theorem due_ok (C : Nat → Nat) : ∀ (j : Nat) (t : Tk × Nat), t ∈ dueOf C j → t.1.ok ∧ t.2 ≤ 26 * j
  | 0, t, h => by cases h
  | j + 1, t, h => by
    rcases List.mem_append.mp h with h | h
    · obtain ⟨h1, h2⟩ := due_ok C j t h
      exact ⟨h1, by omega⟩
    · have e : t = ((lawTok (C j)).1, (txtOf C j).length) := by simpa using h
      subst e
      have := txt_len C j
      exact ⟨lawTok_ok _, by show (txtOf C j).length ≤ _; omega⟩
theorem bad_lex (k i : Nat) (hk : k < 12) : Lex i (lS (bads.getD k "") ++ lS " x") [] (some i) := by
  have h : ∀ b ∈ bads, tok1 (lS b ++ lS " x") = none ∧ lS b ≠ [] ∧ isSp ((lS b).headD 0) = false ∧ (lS b).headD 0 ≠ 35 := by decide +kernel
  obtain ⟨h1, h2, h3, h4⟩ := h (bads.getD k "") (getD_mem (show k < bads.length from hk))
  cases hl : lS (bads.getD k "") with
  | nil => exact absurd hl h2
  | cons a l =>
    rw [hl] at h1 h3 h4
    exact .bad h3 h4 h1
theorem hash_lex (n i : Nat) : Lex i (List.replicate n 35) [] none := by
  cases n with
  | zero => exact .nil
  | succ n =>
    refine .com ?_
    have e : (List.replicate n 35).takeWhile notNl = List.replicate n 35 := by
      rw [List.takeWhile_replicate]
      rfl
    have e2 : (List.replicate n 35).drop ((List.replicate n 35).takeWhile notNl).length = [] := by
      rw [e, List.length_replicate]
      simp
    rw [e2]
    exact .nil
end Al
namespace Al
open PySem PySem.Spec PyProof.Rows L2 NdefX PySem.W
/-! ### pieces of a text and their tokens, whatever stands behind -/
structure Brk (x : Nat) : Prop where
  b1 : inName x = false
  b2 : isDigit x = false
  b3 : x ≠ 46
theorem brk_of {x : Nat} (h : (!inName x && (!isDigit x && !decide (x = 46))) = true) : Brk x := by
  rw [Bool.and_eq_true, Bool.and_eq_true] at h
  exact ⟨by simpa using h.1, by simpa using h.2.1, by simpa using h.2.2⟩
theorem word_lexB {w : List Nat} {c : Nat} {x : Nat} {R : List Nat} (h0 : w.head? = some c) (hc : isLetter c = true) (hw : ∀ a ∈ w, inName a = true) (hl : w.length ≤ 16) (hx : Brk x) :
    tok1 (w ++ x :: R) = some (if uS w ∈ RES then .word (uS w) else .name (uS w), w.length) := by
  cases w with
  | nil => cases h0
  | cons c' w =>
    cases h0
    have e := tw_app (r := R) hx.b1 (c :: w) hw
    show (if isLetter c = true then wordTok ((c :: w) ++ x :: R) else _) = _
    rw [if_pos hc]
    unfold wordTok
    rw [e]
    by_cases hm : uS (c :: w) ∈ RES
    · rw [if_pos hm, if_pos hm]
    · rw [if_neg hm, if_neg hm, if_neg (by omega)]
theorem num_lexB {sh pt : List Nat} {x : Nat} {R : List Nat} (h0 : sh ≠ []) (h1 : ∀ a ∈ sh, isDigit a = true) (h2 : ∀ a ∈ pt, isDigit a = true) (h3 : sh.length ≤ 6) (h4 : pt.length ≤ 4) (hx : Brk x) :
    tok1 ((sh ++ (if pt = [] then [] else [46]) ++ pt) ++ x :: R) = some (.num (digV (sh ++ pt)) (10 ^ pt.length), (sh ++ (if pt = [] then [] else [46]) ++ pt).length) := by
  obtain ⟨b1, b2, b3⟩ := hx
  have head : ∀ T, tok1 (sh ++ T) = numTok (sh ++ T) := fun T => by
    cases sh with
    | nil => exact absurd rfl h0
    | cons c s =>
      have hc := h1 c List.mem_cons_self
      show (if isLetter c = true then _ else if isDigit c = true then _ else _) = _
      rw [if_neg (by rw [letter_not_digit hc]; decide), if_pos hc] <;> rfl
  by_cases hp : pt = []
  · subst hp
    simp only [if_true, List.append_nil]
    rw [head]
    have e := tw_app (r := R) b2 sh h1
    have e2 : (sh ++ x :: R).drop sh.length = x :: R := by simp
    have e3 : partOf (x :: R) = [] := by
      cases R with
      | nil => rfl
      | cons d r =>
        show (if x = 46 ∧ isDigit d = true then _ else _) = _
        rw [if_neg (fun z => b3 z.1)]
    unfold numTok numLen
    rw [e, e2, e3]
    simp only [if_true, Nat.add_zero, List.length_nil, List.append_nil]
    rw [e2, if_neg]
    · rintro (z | z | z)
      · omega
      · omega
      · have : inName x = true := z
        rw [b1] at this; cases this
  · rw [if_neg hp]
    have ea : sh ++ [46] ++ pt ++ x :: R = sh ++ 46 :: (pt ++ x :: R) := by simp
    rw [ea, head]
    have e := tw_app (r := pt ++ x :: R) (by decide : isDigit 46 = false) sh h1
    have e2 : (sh ++ 46 :: (pt ++ x :: R)).drop sh.length = 46 :: (pt ++ x :: R) := by simp
    have e3 : partOf (46 :: (pt ++ x :: R)) = pt := by
      cases pt with
      | nil => exact absurd rfl hp
      | cons d r =>
        show (if 46 = 46 ∧ isDigit d = true then ((d :: r) ++ x :: R).takeWhile isDigit else []) = _
        rw [if_pos ⟨rfl, h2 d List.mem_cons_self⟩]
        exact tw_app b2 (d :: r) h2
    unfold numTok numLen
    rw [e, e2, e3, if_neg hp]
    have e4 : (sh ++ 46 :: (pt ++ x :: R)).drop (sh.length + (1 + pt.length)) = x :: R := by
      have : sh ++ 46 :: (pt ++ x :: R) = (sh ++ 46 :: pt) ++ x :: R := by simp
      rw [this]
      have hl : sh.length + (1 + pt.length) = (sh ++ 46 :: pt).length := by simp; omega
      rw [hl, List.drop_left]
    rw [e4, if_neg]
    · have hl : sh.length + (1 + pt.length) = (sh ++ [46] ++ pt).length := by simp; omega
      rw [hl]
    · rintro (z | z | z)
      · omega
      · omega
      · have : inName x = true := z
        rw [b1] at this; cases this
theorem int_lexB {sh : List Nat} {x : Nat} {R : List Nat} (h0 : sh ≠ []) (h1 : ∀ a ∈ sh, isDigit a = true) (h3 : sh.length ≤ 6) (hx : Brk x) : tok1 (sh ++ x :: R) = some (.num (digV sh) 1, sh.length) := by
  have := num_lexB (pt := []) (R := R) h0 h1 (fun a ha => by cases ha) h3 (by decide) hx
  simpa using this
theorem lex_sp {i c : Nat} {R : List Nat} {ts : List (Tk × Nat)} {e : Option Nat} (h : isSp c = true) (hr : Lex (i + 1) R ts e) : Lex i (c :: R) ts e := .sp h hr
/-- a text's tokens, then what stands behind: pieces put together -/
def LexP (p : Nat → Prop) (w : List Nat) (g : Nat → TS1) : Prop := ∀ (i x : Nat) (R : List Nat) (ts : TS1) (e : Option Nat), p x → Lex (i + w.length) (x :: R) ts e → Lex i (w ++ x :: R) (g i ++ ts) e
theorem lexP_one {p : Nat → Prop} {w : List Nat} {t : Tk} (hw : w ≠ []) (h : ∀ x R, p x → tok1 (w ++ x :: R) = some (t, w.length)) : LexP p w fun i => [(t, i)] := fun i x R ts e hx hr => lex_tok (h x R hx) hw hr
def nameOk (z : Str) : Bool := (match lS z with
  | c :: w => isLetter c && ((c :: w).all inName && decide ((c :: w).length ≤ 16))
  | [] => false) && !decide (z ∈ RES)
theorem name_lexB {z : Str} {x : Nat} {R : List Nat} (h : nameOk z = true) (hx : Brk x) : tok1 (lS z ++ x :: R) = some (.name z, (lS z).length) := by
  unfold nameOk at h
  rw [Bool.and_eq_true] at h
  obtain ⟨h, hr⟩ := h
  have hr : ¬ z ∈ RES := by simpa using hr
  cases hl : lS z with
  | nil => rw [hl] at h; cases h
  | cons c w =>
    rw [hl] at h
    have h : (isLetter c && ((c :: w).all inName && decide ((c :: w).length ≤ 16))) = true := h
    rw [Bool.and_eq_true, Bool.and_eq_true] at h
    have e := word_lexB (w := c :: w) (R := R) rfl h.1 (fun a ha => List.all_eq_true.mp h.2.1 a ha) (of_decide_eq_true h.2.2) hx
    rw [e]
    have ez : uS (c :: w) = z := by rw [← hl]; rfl
    rw [ez, if_neg hr]
theorem res_lexB {z : Str} {x : Nat} {R : List Nat} (h : z ∈ RES) (hx : Brk x) : tok1 (lS z ++ x :: R) = some (.word z, (lS z).length) := by
  obtain ⟨⟨a, h1, h2⟩, h3, h4⟩ := RES_facts _ h
  rw [word_lexB h1 h2 h3 h4 hx, if_pos (show uS (lS z) ∈ RES from h)]
  rfl
theorem sign_lexA {k : Nat} {R : List Nat} (hk : k < 16) (h2 : k ≠ 2) (h3 : k ≠ 3) : tok1 (lS (SIG.getD k "") ++ R) = some (.sign (SIG.getD k ""), (lS (SIG.getD k "")).length) := by
  match k, hk with
  | 0, _ => rfl
  | 1, _ => rfl
  | 2, _ => omega
  | 3, _ => omega
  | 4, _ => rfl
  | 5, _ => rfl
  | 6, _ => rfl
  | 7, _ => rfl
  | 8, _ => rfl
  | 9, _ => rfl
  | 10, _ => rfl
  | 11, _ => rfl
  | 12, _ => rfl
  | 13, _ => rfl
  | 14, _ => rfl
  | 15, _ => rfl
  | k + 16, h => omega
theorem lex_name {z : Str} {i x : Nat} {R : List Nat} {ts : TS1} {e : Option Nat} (h : nameOk z = true) (hx : Brk x) (hr : Lex (i + (lS z).length) (x :: R) ts e) : Lex i (lS z ++ x :: R) ((.name z, i) :: ts) e :=
  lex_tok (name_lexB h hx) (fun q => by unfold nameOk at h; rw [q] at h; cases h) hr
theorem lex_word {z : Str} {i x : Nat} {R : List Nat} {ts : TS1} {e : Option Nat} (h : z ∈ RES) (hx : Brk x) (hr : Lex (i + (lS z).length) (x :: R) ts e) : Lex i (lS z ++ x :: R) ((.word z, i) :: ts) e :=
  lex_tok (res_lexB h hx) (fun q => by obtain ⟨⟨a, h1, h2⟩, h3, h4⟩ := RES_facts _ h; rw [q] at h1; cases h1) hr
theorem lex_sign {k i : Nat} {R : List Nat} {ts : TS1} {e : Option Nat} (hk : k < 16) (h2 : k ≠ 2) (h3 : k ≠ 3) (hr : Lex (i + (lS (SIG.getD k "")).length) R ts e) : Lex i (lS (SIG.getD k "") ++ R) ((.sign (SIG.getD k ""), i) :: ts) e := by
  refine lex_tok (sign_lexA hk h2 h3) (fun q => ?_) hr
  have hs : ∀ g ∈ SIG, lS g ≠ [] := by decide +kernel
  exact hs _ (getD_mem (show k < SIG.length from hk)) q
end Al
namespace Al
open PySem PySem.Spec PyProof.Rows L2 NdefX PySem.W
/-! ### more tools: calls within a comprehension, paired lists, frames, loops' readings -/
theorem pe_calN {X : Cx} {x : Str} {p pos : Pos} {k : Nat} {ps : List Str} {sp : Sp} {e : Expr} {es : List Expr} {ta : TA} (G : Cal X.prog X.w X.K X.mg X.base k x ps sp) (hr : Room k X.A) (ha : PA X (e :: es) ta) (hg : Gl X x := by rfl)
    (hdb : (x == ("__debug__" : Str)) = false := by decide) (he : starEach (e :: es) X.env = (false, eval e X.env) :: starEach es X.env := by rfl) (hpl : (backTo pos (starEach es X.env)).any (·.1) = false := by rfl) :
    PE X (.Call (.Name x p) (e :: es) [] pos) (tCallS sp (fun _ => E0) ta) := by
  obtain ⟨f, fd, hm, hk, hb, F⟩ := G.ex
  refine pe_callS F hr hg hm hk hb (fun σ => ?_) ha hdb he hpl
  rintro _ _ _ _ _ _ ⟨_, _, _, _, _, _, _, _, _, _, _, _, z⟩
  exact z.elim
inductive All2 {α β : Type} (R : α → β → Prop) : List α → List β → Prop
  | nil : All2 R [] []
  | cons {a : α} {b : β} {as : List α} {bs : List β} : R a b → All2 R as bs → All2 R (a :: as) (b :: bs)
namespace All2
variable {α β : Type} {R S : α → β → Prop}
theorem len : ∀ {as : List α} {bs : List β}, All2 R as bs → as.length = bs.length
  | _, _, .nil => rfl
  | _, _, .cons _ t => congrArg (· + 1) t.len
theorem app : ∀ {as cs : List α} {bs ds : List β}, All2 R as bs → All2 R cs ds → All2 R (as ++ cs) (bs ++ ds)
  | _, _, _, _, .nil, h => h
  | _, _, _, _, .cons a b, h => .cons a (b.app h)
theorem mono (h : ∀ a b, R a b → S a b) : ∀ {as : List α} {bs : List β}, All2 R as bs → All2 S as bs
  | _, _, .nil => .nil
  | _, _, .cons a t => .cons (h _ _ a) (t.mono h)
theorem get : ∀ {as : List α} {bs : List β} {i : Nat} {b : β}, All2 R as bs → bs[i]? = some b → ∃ a, as[i]? = some a ∧ R a b
  | _, _, _, _, .nil, h => by simp at h
  | _, _, 0, _, .cons a _, h => by
    simp at h; subst h; exact ⟨_, rfl, a⟩
  | _, _, i + 1, _, .cons _ t, h => by
    obtain ⟨v, h1, h2⟩ := get (i := i) t (by simpa using h)
    exact ⟨v, by simpa using h1, h2⟩
theorem split {as : List α} {b : β} : ∀ {bs : List β}, All2 R as (bs ++ [b]) → ∃ cs a, as = cs ++ [a] ∧ All2 R cs bs ∧ R a b
  | [], h => by
    cases h with
    | cons a t => cases t; exact ⟨[], _, rfl, .nil, a⟩
  | c :: bs, h => by
    cases h with
    | cons a t =>
      obtain ⟨cs, a', rfl, h1, h2⟩ := split (bs := bs) t
      exact ⟨_ :: cs, a', rfl, .cons a h1, h2⟩
end All2
/-! rules with the written part named (within a comprehension) -/
section
variable {X : Cx} {K : Frag}
theorem ix_listK (h : X.K = K) : IxR X (rIxL K) := by subst h; exact ix_list
theorem ix_tupK (h : X.K = K) : IxR X (rIxT K) := by subst h; exact ix_tup
theorem op_in_seqK (h : X.K = K) : OpR X (compareOp .In) (rIn K false) := by subst h; exact op_in_seq
theorem op_notIn_seqK (h : X.K = K) : OpR X (compareOp .NotIn) (rIn K true) := by subst h; exact op_notIn_seq
theorem call_len_seqK (h : X.K = K) : CallR X (.builtin "len") (fun xs H Q => ∃ p ys, xs = [.ref p] ∧ (SqL K H p ys ∨ SqT K H p ys) ∧ Q (.int ys.length) H) := by subst h; exact call_len_seq
theorem pe_fldK {e : Expr} {ta : TE} {f : Str} {pos : Pos} (h : X.K = K) (he : PE X e ta) (hb : attributeBase e f X.env (eval e X.env) = eval e X.env) : PE X (.Attribute e f pos) (tFld K ta f) := by subst h; exact pe_fld he hb
end
/-! all but two lists stand -/
structure Fr (x y : Addr) (H H' : Hp) : Prop where
  fr : ∀ b u, b ≠ x → b ≠ y → H b = some u → H' b = some u
  kp : Keep H H'
theorem Fr.trans {x y : Addr} {H H1 H2 : Hp} (a : Fr x y H H1) (b : Fr x y H1 H2) : Fr x y H H2 := ⟨fun c u h1 h2 h => b.fr c u h1 h2 (a.fr c u h1 h2 h), a.kp.trans b.kp⟩
theorem Fr.same {x y : Addr} {H H' : Hp} (s : Same H H') : Fr x y H H' := ⟨fun b u _ _ h => s b u h, Same.keep s⟩
theorem Fr.new {x y p : Addr} {H : Hp} {o : HO} (h : H p = none) : Fr x y H (upd H p o) := .same (Same.new h)
theorem Fr.setx {x y : Addr} {H : Hp} {us : List V} {o : HO} (h : H x = some (.lst us)) : Fr x y H (upd H x o) := ⟨fun b u h1 _ hb => (upd_ne h1).trans hb, Keep.mut h fun xs z => nomatch z⟩
theorem Fr.sety {x y : Addr} {H : Hp} {us : List V} {o : HO} (h : H y = some (.lst us)) : Fr x y H (upd H y o) := ⟨fun b u _ h1 hb => (upd_ne h1).trans hb, Keep.mut h fun xs z => nomatch z⟩
section
variable {ta : TA} {tl : TE} {g : TG} {tb : TS} {D : Ends} {σ : L2.St} {H : Hp} {K : Frag}
def LoopW (J : It) (g : TG) (tb : TS) (D : Ends) (σ : L2.St) (H1 : Hp) : Prop := ∃ W : Nat → Nat → L2.St → Hp → Prop, (∃ m, W 0 m σ H1) ∧ ∀ i m σ H, W i m σ H →
  (J.stop i H ∧ D.nx σ H) ∨ (J.go i H ∧ ∃ N : L2.St → Hp → Prop, (∀ σ' H', N σ' H' → ∃ m', m' < m ∧ W (i + 1) m' σ' H') ∧ ∀ x H', J.yld i H x H' → g x σ H' fun σ2 H2 => tb { D with nx := N, ct := N, bk := D.nx } σ2 H2)
theorem r_rng1 (h : ta σ H fun vs H1 => ∃ j : Int, vs = [.int j] ∧ -(2 ^ 62) ≤ j ∧ j < 2 ^ 62 ∧ LoopW (Itr 0 j.toNat) g tb D σ H1) : tFor (iRng1 ta) g tb D σ H := h
theorem r_rng2 (h : ta σ H fun vs H1 => ∃ i j : Int, vs = [.int i, .int j] ∧ (-(2 ^ 62) ≤ i ∧ i < 2 ^ 62 ∧ -(2 ^ 62) ≤ j ∧ j < 2 ^ 62) ∧ LoopW (Itr i (j - i).toNat) g tb D σ H1) : tFor (iRng2 ta) g tb D σ H := h
theorem r_forL (h : tl σ H fun x H1 => ∃ a, x = .ref a ∧ (∃ xs, SqL K H1 a xs) ∧ LoopW (Itl K a) g tb D σ H1) : tFor (iList K tl) g tb D σ H := h
theorem r_forT (h : tl σ H fun x H1 => ∃ a, x = .ref a ∧ (∃ xs, SqT K H1 a xs) ∧ LoopW (Itt K a) g tb D σ H1) : tFor (iTup K tl) g tb D σ H := h
theorem r_gsub {to ti : TE} {t : TSet} {v : V} {Q : L2.St → Hp → Prop} (h : to σ H fun o H1 => ti σ H1 fun i H2 => t o i v H2 fun H3 => Q σ H3) : gSub to ti t v σ H Q := h
theorem r_cat {p q : Addr} {xs ys : List V} {Q : VK} (h1 : H p = some (.lst xs)) (h2 : H q = some (.lst ys)) (hl : xs.length + ys.length ≤ 1000000) (k : ∀ r, H r = none → Q (.ref r) (upd H r (.lst (xs ++ ys)))) : rCat (.ref p) (.ref q) H Q :=
  ⟨p, q, xs, ys, rfl, rfl, h1, h2, Nat.le_trans hl (by decide), k⟩
theorem r_setL {p : Addr} {xs : List V} {n : Nat} {v : V} {Q : Hp → Prop} (h : H p = some (.lst xs)) (hn : n < xs.length) (k : Q (upd H p (.lst (xs.set n v)))) : rSetL (.ref p) (.int (n : Int)) v H Q := by
  refine ⟨p, xs, _, n, rfl, rfl, h, ?_, k⟩
  unfold ixN
  rw [if_pos (by omega), if_pos (by omega)]
  simp
theorem r_dget {td ty : TE} {Q : VK} (h : td σ H fun x H1 => ty σ H1 fun y H2 => ∃ a v, x = .ref a ∧ DGet H2 a y (some v) ∧ Q v H2) : tDGet td ty σ H Q := h
theorem r_disp {trs : List (TE × TE)} {Q : VK} (h : ∀ p, H p = none → tPairs trs σ (upd H p (.dK [])) fun ps H2 => H2 p = some (.dK []) ∧ ∃ kvs : List (Key × V), ps = kvs.map (fun kv => (kV kv.1, kv.2)) ∧ kvs.length ≤ 15 ∧ Q (.ref p) (upd H2 p (.dK (mergeK [] kvs)))) : tDisp trs σ H Q := h
theorem r_pnil {Q : List (V × V) → Hp → Prop} (h : Q [] H) : tPairs [] σ H Q := h
theorem r_pcons {tk tv : TE} {r : List (TE × TE)} {Q : List (V × V) → Hp → Prop} (h : tk σ H fun x H1 => tv σ H1 fun y H2 => tPairs r σ H2 fun ps H3 => Q ((x, y) :: ps) H3) : tPairs ((tk, tv) :: r) σ H Q := h
/-- what a comprehension over J asks -/
def LcW (J : It) (g : TG) (tt : TT) (te : TE) (vs : List Nat) (σ : L2.St) (H1 : Hp) (D : Addr) (Qd : Hp → Prop) : Prop := ∃ W : Nat → Nat → Hp → Prop, (∃ m, W 0 m (upd H1 D (.lst []))) ∧ ∀ i m H, W i m H →
  (J.stop i H ∧ Qd H) ∨ (J.go i H ∧ ∃ Nx : Hp → Prop, (∀ H', Nx H' → ∃ m', m' < m ∧ W (i + 1) m' H') ∧ ∀ x H', J.yld i H x H' → g x (wipe σ vs) H' fun σ2 H2 => wipe σ2 vs = wipe σ vs ∧ tt σ2 H2 fun b H3 =>
    if b = true then te σ2 H3 fun y H4 => ∃ acc, H4 D = some (.lst acc) ∧ acc.length < sizeLine ∧ Nx (upd H4 D (.lst (acc ++ [y]))) else Nx H3)
theorem r_lcL {tt : TT} {te : TE} {vs : List Nat} {Q : VK} (h : tl σ H fun x H1 => ∃ a, x = .ref a ∧ (∃ xs, SqL K H1 a xs) ∧ ∀ D, H1 D = none → LcW (Itl K a) g tt te vs σ H1 D (fun H => Q (.ref D) H)) : tLc (iList K tl) g tt te vs σ H Q := h
theorem r_lcT {tt : TT} {te : TE} {vs : List Nat} {Q : VK} (h : tl σ H fun x H1 => ∃ a, x = .ref a ∧ (∃ xs, SqT K H1 a xs) ∧ ∀ D, H1 D = none → LcW (Itt K a) g tt te vs σ H1 D (fun H => Q (.ref D) H)) : tLc (iTup K tl) g tt te vs σ H Q := h
theorem r_lcR {tt : TT} {te : TE} {vs : List Nat} {Q : VK} (h : ta σ H fun vs' H1 => ∃ n : Int, vs' = [.int n] ∧ -(2 ^ 62) ≤ n ∧ n < 2 ^ 62 ∧ ∀ D, H1 D = none → LcW (Itr 0 n.toNat) g tt te vs σ H1 D (fun H => Q (.ref D) H)) : tLc (iRng1 ta) g tt te vs σ H Q := h
theorem r_yes {Q : Bool → Hp → Prop} (h : Q true H) : tYes σ H Q := h
theorem wipe1 (σ : L2.St) (j : Nat) (x : Option V) : wipe ((wipe σ [j]).set j x) [j] = wipe σ [j] := by
  show ((σ.set j none).set j x).set j none = σ.set j none
  rw [List.set_set, List.set_set]
/-- over a list, one name, no test -/
theorem lcw_list {a D : Addr} {xs : List V} {te : TE} {j : Nat} {H1 : Hp} {Qd : Hp → Prop} (Pv : Nat → Hp → Prop) (h0 : Pv 0 (upd H1 D (.lst []))) (hl : ∀ i H, i ≤ xs.length → Pv i H → SqL K H a xs)
    (hs : ∀ i x H, xs[i]? = some x → Pv i H → te ((wipe σ [j]).set j (some x)) H fun y H4 => ∃ acc, H4 D = some (.lst acc) ∧ acc.length < sizeLine ∧ Pv (i + 1) (upd H4 D (.lst (acc ++ [y]))))
    (hd : ∀ H, Pv xs.length H → Qd H) : LcW (Itl K a) (gName j) tYes te [j] σ H1 D Qd := by
  refine lc_list Pv h0 hl (fun i x H hx h => ?_) hd
  refine ⟨wipe1 σ j (some x), ?_⟩
  show tYes _ _ _
  refine r_yes ?_
  rw [if_pos rfl]
  exact hs i x H hx h
theorem lcw_range {D : Addr} {lo : Int} {n : Nat} {te : TE} {j : Nat} {H1 : Hp} {Qd : Hp → Prop} (Pv : Nat → Hp → Prop) (h0 : Pv 0 (upd H1 D (.lst [])))
    (hs : ∀ i H, i < n → Pv i H → te ((wipe σ [j]).set j (some (.int (lo + (i : Int))))) H fun y H4 => ∃ acc, H4 D = some (.lst acc) ∧ acc.length < sizeLine ∧ Pv (i + 1) (upd H4 D (.lst (acc ++ [y]))))
    (hd : ∀ H, Pv n H → Qd H) : LcW (Itr lo n) (gName j) tYes te [j] σ H1 D Qd := by
  refine lc_range Pv h0 (fun i H hx h => ?_) hd
  refine ⟨wipe1 σ j _, ?_⟩
  show tYes _ _ _
  refine r_yes ?_
  rw [if_pos rfl]
  exact hs i H hx h
theorem r_lenL {p : Addr} {xs : List V} {Q : VK} (h : SqL K H p xs) (k : Q (.int (xs.length : Int)) H) : ∃ (p' : Addr) (ys : List V), [V.ref p] = [.ref p'] ∧ (SqL K H p' ys ∨ SqT K H p' ys) ∧ Q (.int (ys.length : Int)) H := ⟨p, xs, rfl, .inl h, k⟩
end
end Al
namespace Al
open PySem PySem.Spec PyProof.Rows L2 NdefX PySem.W
/-! ### readers of pieces: what they give on their own tokens, and where a dead end follows a part of these -/
def hd (R : TS1) : Option Tk := R.head?.map (·.1)
/-- none of these stands ahead -/
def Free (bad : List Tk) (R : TS1) : Prop := ∀ t, hd R = some t → t ∉ bad
theorem Free.sub {b c : List Tk} {R : TS1} (h : Free c R) (hs : ∀ t ∈ b, t ∈ c) : Free b R := fun t e hb => h t e (hs t hb)
theorem Free.nil {b : List Tk} : Free b [] := fun t e => by cases e
theorem Free.cons {b : List Tk} {t : Tk} {i : Nat} {R : TS1} (h : t ∉ b) : Free b ((t, i) :: R) := fun u e => by cases e; exact h
theorem free_sees {b : List Tk} {R : TS1} {k v : Str} (h : Free b R) (t : Tk) (hm : t ∈ b) (hs : ∀ u : Tk, (decide (u.kind = k) && decide (u.txt = v)) = true → u = t) : seesB R k v = false := by
  cases R with
  | nil => rfl
  | cons x R =>
    cases hq : seesB (x :: R) k v with
    | false => rfl
    | true =>
      have hq : (decide (x.1.kind = k) && decide (x.1.txt = v)) = true := hq
      exact absurd hm (by rw [← hs _ hq]; exact h _ rfl)
theorem sign_of {u : Tk} {v : Str} (h : (decide (u.kind = "sign") && decide (u.txt = v)) = true) : u = .sign v := by
  rw [Bool.and_eq_true] at h
  have h1 := of_decide_eq_true h.1
  have h2 := of_decide_eq_true h.2
  cases u with
  | sign s => exact congrArg Tk.sign h2
  | word s => exact absurd h1 (show ¬ ("word" : Str) = "sign" by decide)
  | name s => exact absurd h1 (show ¬ ("name" : Str) = "sign" by decide)
  | num a b => exact absurd h1 (show ¬ ("number" : Str) = "sign" by decide)
theorem word_of {u : Tk} {v : Str} (h : (decide (u.kind = "word") && decide (u.txt = v)) = true) : u = .word v := by
  rw [Bool.and_eq_true] at h
  have h1 := of_decide_eq_true h.1
  have h2 := of_decide_eq_true h.2
  cases u with
  | word s => exact congrArg Tk.word h2
  | sign s => exact absurd h1 (show ¬ ("sign" : Str) = "word" by decide)
  | name s => exact absurd h1 (show ¬ ("name" : Str) = "word" by decide)
  | num a b => exact absurd h1 (show ¬ ("number" : Str) = "word" by decide)
theorem free_sign {b : List Tk} {R : TS1} {v : Str} (h : Free b R) (hm : Tk.sign v ∈ b) : seesB R "sign" v = false := free_sees h _ hm fun _ => sign_of
theorem free_word {b : List Tk} {R : TS1} {v : Str} (h : Free b R) (hm : Tk.word v ∈ b) : seesB R "word" v = false := free_sees h _ hm fun _ => word_of
/-- the end, or the word base -/
def Dead (D : TS1) : Prop := D = [] ∨ ∃ i C, D = (.word "base", i) :: C
theorem dead_sees {D : TS1} {k v : Str} (h : Dead D) (hb : seesB [(.word "base", 0)] k v = false) : seesB D k v = false := by
  rcases h with rfl | ⟨i, C, rfl⟩
  · rfl
  · exact hb
theorem dead_kind {D : TS1} {k : Str} (h : Dead D) (hb : kindB [(.word "base", 0)] k = false) : kindB D k = false := by
  rcases h with rfl | ⟨i, C, rfl⟩
  · rfl
  · exact hb
theorem Dead.free {D : TS1} {b : List Tk} (h : Dead D) (hb : Tk.word "base" ∉ b) : Free b D := by
  rcases h with rfl | ⟨i, C, rfl⟩
  · exact Free.nil
  · exact Free.cons hb
section
variable {α β : Type} {L : Nat} {k v : Str}
/-- refused at the dead end, or left there (s: refused) -/
def Res1 (L : Nat) (s : Bool) (D : TS1) (r : Option (Except PErr (α × TS1))) : Prop := r = some (.error (.mal (atP L D))) ∨ (s = false ∧ ∃ v, r = some (.ok (v, D)))
def Dd (L : Nat) (s : Bool) (p : Pr α) : Prop := ∀ D, Dead D → Res1 L s D (p D)
structure Rd (L : Nat) (s : Bool) (p : Pr α) (bad : List Tk) (T : TS1) (v : α) : Prop where
  nb : Tk.word "base" ∉ bad
  ok : ∀ R, Free bad R → p (T ++ R) = some (.ok (v, R))
  cut : ∀ A x B D, T = A ++ x :: B → Dead D → Res1 L s D (p (A ++ D))
theorem Res1.weak {s : Bool} {D : TS1} {r : Option (Except PErr (α × TS1))} (h : Res1 L s D r) : Res1 L false D r := h.elim .inl fun h => .inr ⟨rfl, h.2⟩
theorem Dd.weak {s : Bool} {p : Pr α} (h : Dd L s p) : Dd L false p := fun D hD => (h D hD).weak
theorem Rd.weak {s : Bool} {p : Pr α} {b : List Tk} {T : TS1} {v : α} (h : Rd L s p b T v) : Rd L false p b T v := ⟨h.nb, h.ok, fun A x B D e hD => (h.cut A x B D e hD).weak⟩
theorem Rd.mono {s : Bool} {p : Pr α} {b c : List Tk} {T : TS1} {v : α} (h : Rd L s p b T v) (hc : Tk.word "base" ∉ c) (hs : ∀ t ∈ b, t ∈ c) : Rd L s p c T v := ⟨hc, fun R hR => h.ok R (hR.sub hs), h.cut⟩
theorem Rd.dead {s : Bool} {p : Pr α} {b : List Tk} {t : Tk × Nat} {T : TS1} {v : α} (h : Rd L s p b (t :: T) v) : Dd L s p := fun D hD => h.cut [] t T D rfl hD
/-- one behind the other; hq: what the second does at a dead end, whatever the first gave -/
theorem Rd.bind {s1 s : Bool} {p : Pr α} {q : α → Pr β} {b c : List Tk} {T U : TS1} {v : α} {u : β} (h1 : Rd L s1 p b T v) (h2 : Rd L s (q v) c U u) (hq : s1 = false → ∀ v', Dd L s (q v'))
    (hf : ∀ R, Free c R → Free b (U ++ R)) : Rd L s (p >>= q) c (T ++ U) u := by
  refine ⟨h2.nb, fun R hR => ?_, fun A x B D e hD => ?_⟩
  · rw [List.append_assoc, e_ok (h1.ok (U ++ R) (hf R hR))]
    exact h2.ok R hR
  · rcases List.append_eq_append_iff.mp e with ⟨A2, ha, hb⟩ | ⟨B2, ha, hb⟩
    · have hFD : Free b (A2 ++ D) := by
        cases A2 with
        | nil => exact hD.free h1.nb
        | cons a A2 =>
          have h0 := hf [] Free.nil
          rw [hb] at h0
          exact fun t e => h0 t (by rw [← e]; rfl)
      rw [ha, List.append_assoc, e_ok (h1.ok (A2 ++ D) hFD)]
      exact h2.cut A2 x B D hb hD
    · cases B2 with
      | nil =>
        rw [List.append_nil] at ha
        have hb : U = x :: B := by simpa using hb.symm
        have e2 := e_ok (f := q) (h1.ok D (hD.free h1.nb))
        rw [← ha, e2]
        exact h2.cut [] x B D hb hD
      | cons y B2 =>
        rcases h1.cut A y B2 D (by rw [ha]) hD with h | ⟨hs, v', h⟩
        · rw [e_err h]; exact .inl rfl
        · rw [e_ok h]
          exact hq hs v' D hD
theorem Rd.pure {s : Bool} {b : List Tk} {v : α} (hb : Tk.word "base" ∉ b) : Rd L s (pure v : Pr α) b [] v := ⟨hb, fun R _ => rfl, fun A x B D e => by cases A <;> cases e⟩
theorem Dd.pure {v : α} : Dd L false (pure v : Pr α) := fun D _ => .inr ⟨rfl, v, rfl⟩
theorem Dd.bind {s1 s : Bool} {p : Pr α} {q : α → Pr β} (h1 : Dd L s1 p) (hq : s1 = false → ∀ v', Dd L s (q v')) : Dd L s (p >>= q) := fun D hD => by
  rcases h1 D hD with h | ⟨hs, v', h⟩
  · rw [e_err h]; exact .inl rfl
  · rw [e_ok h]; exact hq hs v' D hD
/-- an expected token -/
theorem rd_exp {t : Tk} {i : Nat} (h : seesB [(t, 0)] k v = true) (hb : seesB [(.word "base", 0)] k v = false) : Rd L true (pExp L k v) [] [(t, i)] () := by
  refine ⟨by simp, fun R _ => ?_, fun A x B D e hD => ?_⟩
  · have h' : seesB ((t, i) :: R) k v = true := h
    show (if seesB ((t, i) :: R) k v = true then _ else _) = _
    rw [if_pos h']; rfl
  · have hA : A = [] := by
      cases A with
      | nil => rfl
      | cons a A => cases A <;> cases e
    subst hA
    refine .inl ?_
    show (if seesB D k v = true then _ else _) = _
    rw [if_neg (by rw [dead_sees hD hb]; decide)]
    rfl
theorem dd_exp (hb : seesB [(.word "base", 0)] k v = false) : Dd L true (pExp L k v) := fun D hD => by
  refine .inl ?_
  show (if seesB D k v = true then _ else _) = _
  rw [if_neg (by rw [dead_sees hD hb]; decide)]
theorem rd_read {t : Tk} {i : Nat} (h : kindB [(t, 0)] k = true) (hb : kindB [(.word "base", 0)] k = false) : Rd L true (pRead L k) [] [(t, i)] t.val := by
  refine ⟨by simp, fun R _ => ?_, fun A x B D e hD => ?_⟩
  · have h' : kindB ((t, i) :: R) k = true := h
    show (if kindB ((t, i) :: R) k = true then _ else _) = _
    rw [if_pos h']; rfl
  · have hA : A = [] := by
      cases A with
      | nil => rfl
      | cons a A => cases A <;> cases e
    subst hA
    refine .inl ?_
    show (if kindB D k = true then _ else _) = _
    rw [if_neg (by rw [dead_kind hD hb]; decide)]
    rfl
theorem dd_read (hb : kindB [(.word "base", 0)] k = false) : Dd L true (pRead L k) := fun D hD => by
  refine .inl ?_
  show (if kindB D k = true then _ else _) = _
  rw [if_neg (by rw [dead_kind hD hb]; decide)]
theorem whole_dead {D : TS1} (hD : Dead D) (lim : Nat) : pWhole L lim D = some (.error (.mal (atP L D))) := by
  rcases hD with rfl | ⟨i, C, rfl⟩ <;> rfl
theorem rd_whole {a i lim : Nat} (h : a ≤ lim) : Rd L true (pWhole L lim) [] [(.num a 1, i)] (a : Int) := by
  refine ⟨by simp, fun R _ => ?_, fun A x B D e hD => ?_⟩
  · show (if (1 : Nat) ≠ 1 ∨ lim < a then _ else _) = _
    rw [if_neg (by omega)]
    rfl
  · have hA : A = [] := by
      cases A with
      | nil => rfl
      | cons a A => cases A <;> cases e
    subst hA
    exact .inl (whole_dead hD lim)
theorem dd_whole (lim : Nat) : Dd L true (pWhole L lim) := fun D hD => .inl (whole_dead hD lim)
section
variable {A B : Pr β} {s : Bool} {b : List Tk} {t : Tk} {i : Nat} {T : TS1} {u : β}
theorem rd_accT (h : seesB [(t, 0)] k v = true) (hb : seesB [(.word "base", 0)] k v = false) (h1 : Rd L s A b T u) (h2 : Dd L s B) : Rd L s (pAcc k v >>= fun c => if c = true then A else B) b ((t, i) :: T) u := by
  refine ⟨h1.nb, fun R hR => ?_, fun A' x B' D e hD => ?_⟩
  · rw [e_accT (ts := (t, i) :: T ++ R) h]
    exact h1.ok R hR
  · cases A' with
    | nil =>
      rw [e_accF (ts := [] ++ D) (dead_sees hD hb)]
      exact h2 D hD
    | cons a A' =>
      injection e with e1 e2
      subst e1
      rw [e_accT (ts := (t, i) :: A' ++ D) h]
      exact h1.cut A' x B' D e2 hD
theorem rd_accF (h : seesB [(t, 0)] k v = false) (hb : seesB [(.word "base", 0)] k v = false) (h1 : Rd L s B b ((t, i) :: T) u) : Rd L s (pAcc k v >>= fun c => if c = true then A else B) b ((t, i) :: T) u := by
  refine ⟨h1.nb, fun R hR => ?_, fun A' x B' D e hD => ?_⟩
  · rw [e_accF (ts := (t, i) :: T ++ R) h]
    exact h1.ok R hR
  · cases A' with
    | nil =>
      rw [e_accF (ts := [] ++ D) (dead_sees hD hb)]
      exact h1.cut [] x B' D e hD
    | cons a A' =>
      injection e with e1 e2
      subst e1
      rw [e_accF (ts := (t, i) :: A' ++ D) h]
      exact h1.cut ((t, i) :: A') x B' D (by rw [e2]; rfl) hD
theorem dd_acc (hb : seesB [(.word "base", 0)] k v = false) (h : Dd L s B) : Dd L s (pAcc k v >>= fun c => if c = true then A else B) := fun D hD => by
  rw [e_accF (dead_sees hD hb)]
  exact h D hD
theorem rd_seesT (h : seesB [(t, 0)] k v = true) (hb : seesB [(.word "base", 0)] k v = false) (h1 : Rd L s A b ((t, i) :: T) u) (h2 : Dd L s B) : Rd L s (pSees k v >>= fun c => if c = true then A else B) b ((t, i) :: T) u := by
  refine ⟨h1.nb, fun R hR => ?_, fun A' x B' D e hD => ?_⟩
  · rw [e_seesT (ts := (t, i) :: T ++ R) h]
    exact h1.ok R hR
  · cases A' with
    | nil =>
      rw [e_seesF (ts := [] ++ D) (dead_sees hD hb)]
      exact h2 D hD
    | cons a A' =>
      injection e with e1 e2
      subst e1
      rw [e_seesT (ts := (t, i) :: A' ++ D) h]
      exact h1.cut ((t, i) :: A') x B' D (by rw [e2]; rfl) hD
theorem rd_seesF (h : seesB [(t, 0)] k v = false) (hb : seesB [(.word "base", 0)] k v = false) (h1 : Rd L s B b ((t, i) :: T) u) : Rd L s (pSees k v >>= fun c => if c = true then A else B) b ((t, i) :: T) u := by
  refine ⟨h1.nb, fun R hR => ?_, fun A' x B' D e hD => ?_⟩
  · rw [e_seesF (ts := (t, i) :: T ++ R) h]
    exact h1.ok R hR
  · cases A' with
    | nil =>
      rw [e_seesF (ts := [] ++ D) (dead_sees hD hb)]
      exact h1.cut [] x B' D e hD
    | cons a A' =>
      injection e with e1 e2
      subst e1
      rw [e_seesF (ts := (t, i) :: A' ++ D) h]
      exact h1.cut ((t, i) :: A') x B' D (by rw [e2]; rfl) hD
/-- nothing of it stands there: it looks, and leaves it -/
theorem rd_seesN {v : Str} (h1 : Rd L s B b [] u) (hm : Tk.sign v ∈ b) : Rd L s (pSees "sign" v >>= fun c => if c = true then A else B) b [] u :=
  ⟨h1.nb, fun R hR => by
    show _ = _
    rw [List.nil_append, e_seesF (free_sign hR hm)]
    exact h1.ok R hR, fun A' x B' D e => by cases A' <;> cases e⟩
theorem rd_seesW {v : Str} (h1 : Rd L s B b [] u) (hm : Tk.word v ∈ b) : Rd L s (pSees "word" v >>= fun c => if c = true then A else B) b [] u :=
  ⟨h1.nb, fun R hR => by
    show _ = _
    rw [List.nil_append, e_seesF (free_word hR hm)]
    exact h1.ok R hR, fun A' x B' D e => by cases A' <;> cases e⟩
theorem rd_accN {v : Str} (h1 : Rd L s B b [] u) (hm : Tk.sign v ∈ b) : Rd L s (pAcc "sign" v >>= fun c => if c = true then A else B) b [] u :=
  ⟨h1.nb, fun R hR => by
    show _ = _
    rw [List.nil_append, e_accF (free_sign hR hm)]
    exact h1.ok R hR, fun A' x B' D e => by cases A' <;> cases e⟩
theorem rd_accW {v : Str} (h1 : Rd L s B b [] u) (hm : Tk.word v ∈ b) : Rd L s (pAcc "word" v >>= fun c => if c = true then A else B) b [] u :=
  ⟨h1.nb, fun R hR => by
    show _ = _
    rw [List.nil_append, e_accF (free_word hR hm)]
    exact h1.ok R hR, fun A' x B' D e => by cases A' <;> cases e⟩
theorem dd_sees (hb : seesB [(.word "base", 0)] k v = false) (h : Dd L s B) : Dd L s (pSees k v >>= fun c => if c = true then A else B) := fun D hD => by
  rw [e_seesF (dead_sees hD hb)]
  exact h D hD
theorem rd_kindT (h : kindB [(t, 0)] k = true) (hb : kindB [(.word "base", 0)] k = false) (h1 : Rd L s A b ((t, i) :: T) u) (h2 : Dd L s B) : Rd L s (pKind k >>= fun c => if c = true then A else B) b ((t, i) :: T) u := by
  refine ⟨h1.nb, fun R hR => ?_, fun A' x B' D e hD => ?_⟩
  · rw [e_kindT (ts := (t, i) :: T ++ R) h]
    exact h1.ok R hR
  · cases A' with
    | nil =>
      rw [e_kindF (ts := [] ++ D) (dead_kind hD hb)]
      exact h2 D hD
    | cons a A' =>
      injection e with e1 e2
      subst e1
      rw [e_kindT (ts := (t, i) :: A' ++ D) h]
      exact h1.cut ((t, i) :: A') x B' D (by rw [e2]; rfl) hD
theorem rd_kindF (h : kindB [(t, 0)] k = false) (hb : kindB [(.word "base", 0)] k = false) (h1 : Rd L s B b ((t, i) :: T) u) : Rd L s (pKind k >>= fun c => if c = true then A else B) b ((t, i) :: T) u := by
  refine ⟨h1.nb, fun R hR => ?_, fun A' x B' D e hD => ?_⟩
  · rw [e_kindF (ts := (t, i) :: T ++ R) h]
    exact h1.ok R hR
  · cases A' with
    | nil =>
      rw [e_kindF (ts := [] ++ D) (dead_kind hD hb)]
      exact h1.cut [] x B' D e hD
    | cons a A' =>
      injection e with e1 e2
      subst e1
      rw [e_kindF (ts := (t, i) :: A' ++ D) h]
      exact h1.cut ((t, i) :: A') x B' D (by rw [e2]; rfl) hD
theorem dd_kind (hb : kindB [(.word "base", 0)] k = false) (h : Dd L s B) : Dd L s (pKind k >>= fun c => if c = true then A else B) := fun D hD => by
  rw [e_kindF (dead_kind hD hb)]
  exact h D hD
end
/-- the place of the first token -/
theorem rd_at {s : Bool} {f : Nat → Pr β} {b : List Tk} {t : Tk} {i : Nat} {T : TS1} {u : β} (h : Rd L s (f i) b ((t, i) :: T) u) (hd : ∀ j, Dd L s (f j)) : Rd L s (pAt L >>= f) b ((t, i) :: T) u := by
  refine ⟨h.nb, fun R hR => ?_, fun A x B D e hD => ?_⟩
  · rw [e_at]; exact h.ok R hR
  · rw [e_at]
    cases A with
    | nil => exact hd _ D hD
    | cons a A =>
      injection e with e1 e2
      subst e1
      exact h.cut ((t, i) :: A) x B D (by rw [e2]; rfl) hD
theorem dd_at {s : Bool} {f : Nat → Pr β} (hd : ∀ j, Dd L s (f j)) : Dd L s (pAt L >>= f) := fun D hD => by
  rw [e_at]; exact hd _ D hD
theorem rd_deep {s : Bool} {f : Nat → Pr β} {b : List Tk} {n : Nat} {T : TS1} {u : β} (h : Rd L s (f n) b T u) : Rd L s (pDeep (n + 1) >>= f) b T u :=
  ⟨h.nb, fun R hR => by rw [e_deep]; exact h.ok R hR, fun A x B D e hD => by rw [e_deep]; exact h.cut A x B D e hD⟩
theorem dd_deep {s : Bool} {f : Nat → Pr β} {n : Nat} (h : Dd L s (f n)) : Dd L s (pDeep (n + 1) >>= f) := fun D hD => by
  rw [e_deep]; exact h D hD
end
end Al
namespace Al
open PySem PySem.Spec PyProof.Rows L2 NdefX PySem.W
/-! ### readers level by level -/
def Bd : Nat → List Tk
  | 0 => [.sign "(", .sign "[", .sign "^"]
  | 1 => [.sign "(", .sign "[", .sign "^", .sign "*", .sign "/"]
  | 2 => [.sign "(", .sign "[", .sign "^", .sign "*", .sign "/", .sign "+", .sign "-"]
  | 3 => [.sign "(", .sign "[", .sign "^", .sign "*", .sign "/", .sign "+", .sign "-", .sign "<", .sign "<=", .sign "=="]
  | 4 => [.sign "(", .sign "[", .sign "^", .sign "*", .sign "/", .sign "+", .sign "-", .sign "<", .sign "<=", .sign "==", .word "and"]
  | _ => [.sign "(", .sign "[", .sign "^", .sign "*", .sign "/", .sign "+", .sign "-", .sign "<", .sign "<=", .sign "==", .word "and", .word "or"]
theorem bd_base (f : Nat) (hf : f ≤ 5) : Tk.word "base" ∉ Bd f := by
  have : ∀ f ≤ 5, Tk.word "base" ∉ Bd f := by decide +kernel
  exact this f hf
theorem bd_sub (f : Nat) (hf : f < 5) : ∀ t ∈ Bd f, t ∈ Bd (f + 1) := by
  have : ∀ f < 5, ∀ t ∈ Bd f, t ∈ Bd (f + 1) := by decide +kernel
  exact this f hf
section
variable {L n : Nat} {s : Bool} {T : TS1} {v : PyData}
theorem powL_nil : Rd L s (pPowL L n v) (Bd 0) [] v := by
  rw [pPowL.eq_def]
  exact rd_seesN (Rd.pure (bd_base 0 (by decide))) (by decide)
theorem facL_nil : Rd L s (pFacL L n v) (Bd 1) [] v := by
  rw [pFacL.eq_def]
  exact rd_seesN (rd_seesN (Rd.pure (bd_base 1 (by decide))) (by decide)) (by decide)
theorem termL_nil : Rd L s (pTermL L n v) (Bd 2) [] v := by
  rw [pTermL.eq_def]
  exact rd_seesN (rd_seesN (Rd.pure (bd_base 2 (by decide))) (by decide)) (by decide)
/-- nothing there: whatever the place is asked for -/
theorem rd_atN {β : Type} {f : Nat → Pr β} {b : List Tk} {u : β} (hb : Tk.word "base" ∉ b) (h : ∀ j, Rd L s (f j) b [] u) : Rd L s (pAt L >>= f) b [] u :=
  ⟨hb, fun R hR => by rw [e_at]; exact (h _).ok R hR, fun A x B D e => by cases A <;> cases e⟩
theorem cmp_nil : Rd L s (pCmp L n v cmps) (Bd 3) [] v := by
  unfold cmps
  rw [pCmp.eq_def]
  refine rd_atN (bd_base 3 (by decide)) fun j => rd_accN ?_ (by decide)
  rw [pCmp.eq_def]
  refine rd_atN (bd_base 3 (by decide)) fun j => rd_accN ?_ (by decide)
  rw [pCmp.eq_def]
  refine rd_atN (bd_base 3 (by decide)) fun j => rd_accN ?_ (by decide)
  rw [pCmp.eq_def]
  exact Rd.pure (bd_base 3 (by decide))
theorem bothL_nil : Rd L s (pBothL L n v) (Bd 4) [] v := by
  rw [pBothL.eq_def]
  exact rd_seesW (Rd.pure (bd_base 4 (by decide))) (by decide)
theorem orL_nil {j : Nat} : Rd L s (pOrL L n j v) (Bd 5) [] v := by
  rw [pOrL.eq_def]
  exact rd_seesW (Rd.pure (bd_base 5 (by decide))) (by decide)
/-! at a dead end -/
theorem powL_dd : Dd L false (pPowL L n v) := by
  rw [pPowL.eq_def]
  exact dd_sees (by decide +kernel) Dd.pure
theorem facL_dd : Dd L false (pFacL L n v) := by
  rw [pFacL.eq_def]
  exact dd_sees (by decide +kernel) (dd_sees (by decide +kernel) Dd.pure)
theorem termL_dd : Dd L false (pTermL L n v) := by
  rw [pTermL.eq_def]
  exact dd_sees (by decide +kernel) (dd_sees (by decide +kernel) Dd.pure)
theorem cmp_dd : Dd L false (pCmp L n v cmps) := by
  unfold cmps
  rw [pCmp.eq_def]
  refine dd_at fun j => dd_acc (by decide +kernel) ?_
  rw [pCmp.eq_def]
  refine dd_at fun j => dd_acc (by decide +kernel) ?_
  rw [pCmp.eq_def]
  refine dd_at fun j => dd_acc (by decide +kernel) ?_
  rw [pCmp.eq_def]
  exact Dd.pure
theorem bothL_dd : Dd L false (pBothL L n v) := by
  rw [pBothL.eq_def]
  exact dd_sees (by decide +kernel) Dd.pure
theorem orL_dd {j : Nat} : Dd L false (pOrL L n j v) := by
  rw [pOrL.eq_def]
  exact dd_sees (by decide +kernel) Dd.pure
/-! nothing can be read at a dead end -/
theorem prim_dd : Dd L true (pPrim L n) := by
  rw [pPrim.eq_def]
  refine dd_at fun j => dd_acc (by decide +kernel) (dd_acc (by decide +kernel) (dd_acc (by decide +kernel) (dd_acc (by decide +kernel) (dd_kind (by decide +kernel) ?_))))
  exact Dd.bind (dd_read (by decide +kernel)) (fun h => by cases h)
theorem powers_dd : Dd L true (pPowers L n) := by
  unfold pPowers
  exact Dd.bind prim_dd (fun h => by cases h)
theorem factors_dd : Dd L true (pFactors L n) := by
  unfold pFactors
  exact Dd.bind powers_dd (fun h => by cases h)
theorem terms_dd : Dd L true (pTerms L n) := by
  unfold pTerms
  exact Dd.bind factors_dd (fun h => by cases h)
theorem plain_dd : Dd L true (pPlain L n) := by
  rw [pPlain.eq_def]
  exact dd_at fun j => dd_acc (by decide +kernel) (Dd.bind terms_dd (fun h => by cases h))
theorem both_dd : Dd L true (pBoth L n) := by
  unfold pBoth
  exact Dd.bind plain_dd (fun h => by cases h)
theorem expr_dd : Dd L true (pExpr L n) := by
  rw [pExpr.eq_def]
  exact dd_at fun j => dd_acc (by decide +kernel) (dd_acc (by decide +kernel) (Dd.bind both_dd (fun h => by cases h)))
/-! from the powers up -/
/-- the first token is none of the words that a level looks at -/
def First (T : TS1) : Prop := ∃ t i R, T = (t, i) :: R ∧ t ≠ .word "if" ∧ t ≠ .word "let" ∧ t ≠ .word "not"
theorem not_word {t : Tk} {w : Str} (h : t ≠ .word w) : seesB [(t, 0)] "word" w = false := by
  cases q : seesB [(t, 0)] "word" w with
  | false => rfl
  | true => exact absurd (word_of q) h
theorem First.app {T : TS1} (h : First T) (U : TS1) : First (T ++ U) := by
  obtain ⟨t, i, R, rfl, h⟩ := h
  exact ⟨t, i, R ++ U, rfl, h⟩
theorem sub_free {b c : List Tk} (h : ∀ t ∈ b, t ∈ c) : ∀ R, Free c R → Free b ([] ++ R) := fun R hR => hR.sub h
theorem up0 (h : Rd L s (pPrim L n) (Bd 0) T v) : Rd L s (PP L n 0) (Bd 0) T v := by
  show Rd L s (pPowers L n) (Bd 0) T v
  unfold pPowers
  rw [← List.append_nil T]
  exact h.bind powL_nil (fun hs v' => by subst hs; exact powL_dd) (sub_free fun _ h => h)
theorem up1 (h : Rd L s (PP L n 0) (Bd 0) T v) : Rd L s (PP L n 1) (Bd 1) T v := by
  show Rd L s (pFactors L n) (Bd 1) T v
  unfold pFactors
  rw [← List.append_nil T]
  exact Rd.bind (p := pPowers L n) h facL_nil (fun hs v' => by subst hs; exact facL_dd) (sub_free (bd_sub 0 (by decide)))
theorem up2 (h : Rd L s (PP L n 1) (Bd 1) T v) : Rd L s (PP L n 2) (Bd 2) T v := by
  show Rd L s (pTerms L n) (Bd 2) T v
  unfold pTerms
  rw [← List.append_nil T]
  exact Rd.bind (p := pFactors L n) h termL_nil (fun hs v' => by subst hs; exact termL_dd) (sub_free (bd_sub 1 (by decide)))
theorem up3 (hT : First T) (h : Rd L s (PP L n 2) (Bd 2) T v) : Rd L s (PP L n 3) (Bd 3) T v := by
  obtain ⟨t, i, R, rfl, h1, h2, h3⟩ := hT
  show Rd L s (pPlain L n) (Bd 3) _ v
  rw [pPlain.eq_def]
  have dd : ∀ a, s = false → Dd L s (pCmp L n a cmps) := fun a hs => by subst hs; exact cmp_dd
  refine rd_at (rd_accF (not_word h3) (by decide +kernel) ?_) fun j => ?_
  · rw [← List.append_nil ((t, i) :: R)]
    exact Rd.bind (p := pTerms L n) h cmp_nil (fun hs v' => dd v' hs) (sub_free (bd_sub 2 (by decide)))
  · exact dd_acc (by decide +kernel) (Dd.bind terms_dd (fun h => by cases h))
theorem up4 (h : Rd L s (PP L n 3) (Bd 3) T v) : Rd L s (PP L n 4) (Bd 4) T v := by
  show Rd L s (pBoth L n) (Bd 4) T v
  unfold pBoth
  rw [← List.append_nil T]
  exact Rd.bind (p := pPlain L n) h bothL_nil (fun hs v' => by subst hs; exact bothL_dd) (sub_free (bd_sub 3 (by decide)))
theorem up5 (hT : First T) (h : Rd L s (PP L n 4) (Bd 4) T v) : Rd L s (PP L n 5) (Bd 5) T v := by
  obtain ⟨t, i, R, rfl, h1, h2, h3⟩ := hT
  show Rd L s (pExpr L n) (Bd 5) _ v
  rw [pExpr.eq_def]
  refine rd_at (rd_accF (not_word h1) (by decide +kernel) (rd_accF (not_word h2) (by decide +kernel) ?_)) fun j => ?_
  · rw [← List.append_nil ((t, i) :: R)]
    exact Rd.bind (p := pBoth L n) h orL_nil (fun hs v' => by subst hs; exact orL_dd) (sub_free (bd_sub 4 (by decide)))
  · exact dd_acc (by decide +kernel) (dd_acc (by decide +kernel) (Dd.bind both_dd (fun h => by cases h)))
theorem up_to (hT : First T) : ∀ (k f : Nat), f + k = 5 → Rd L s (PP L n f) (Bd f) T v → Rd L s (PP L n 5) (Bd 5) T v
  | 0, f, e, h => by
    have : f = 5 := by omega
    subst this
    exact h
  | k + 1, f, e, h => by
    refine up_to hT k (f + 1) (by omega) ?_
    obtain rfl | rfl | rfl | rfl | rfl : f = 0 ∨ f = 1 ∨ f = 2 ∨ f = 3 ∨ f = 4 := by omega
    · exact up1 h
    · exact up2 h
    · exact up3 hT h
    · exact up4 h
    · exact up5 hT h
end
end Al
namespace Al
open PySem PySem.Spec PyProof.Rows L2 NdefX PySem.W
/-! ### k01: pieces of a text, trees, their texts -/
inductive Pc where
  | sp | nl
  | word (z : Str)
  | name (z : Str)
  | num (w : List Nat) (a b : Nat)
  | sign (k : Nat)
def Pc.w : Pc → List Nat
  | .sp => [32]
  | .nl => [10]
  | .word z => lS z
  | .name z => lS z
  | .num w _ _ => w
  | .sign k => lS (SIG.getD k "")
def Pc.t : Pc → Option Tk
  | .sp => none
  | .nl => none
  | .word z => some (.word z)
  | .name z => some (.name z)
  | .num _ a b => some (.num a b)
  | .sign k => some (.sign (SIG.getD k ""))
def ren : List Pc → List Nat
  | [] => []
  | p :: ps => p.w ++ ren ps
def tks : Nat → List Pc → TS1
  | _, [] => []
  | i, p :: ps => match p.t with
    | some t => (t, i) :: tks (i + p.w.length) ps
    | none => tks (i + p.w.length) ps
def plen (ps : List Pc) : Nat := (ren ps).length
theorem ren_app : ∀ p q : List Pc, ren (p ++ q) = ren p ++ ren q
  | [], q => rfl
  | x :: p, q => by
    show x.w ++ ren (p ++ q) = (x.w ++ ren p) ++ ren q
    rw [ren_app p q, List.append_assoc]
theorem tks_app : ∀ (p q : List Pc) (i : Nat), tks i (p ++ q) = tks i p ++ tks (i + plen p) q
  | [], q, i => rfl
  | x :: p, q, i => by
    have e : plen (x :: p) = x.w.length + plen p := List.length_append
    rw [e, ← Nat.add_assoc]
    have ih := tks_app p q (i + x.w.length)
    show (match x.t with | some t => (t, i) :: tks (i + x.w.length) (p ++ q) | none => tks (i + x.w.length) (p ++ q)) = (match x.t with | some t => (t, i) :: tks (i + x.w.length) p | none => tks (i + x.w.length) p) ++ _
    rw [ih]
    cases x.t <;> rfl
/-- a whole number, with its sign -/
def iPc (p : Int) : List Pc := if p < 0 then [.sign 5, .num (numS p.natAbs) p.natAbs 1] else [.num (numS p.natAbs) p.natAbs 1]
abbrev Un : Type := List (Str × Int)
def ePc (p : Int) : List Pc := if p = 1 then [] else .sign 8 :: iPc p
def uIn : Un → List Pc
  | [] => []
  | [(z, p)] => .name z :: ePc p
  | (z, p) :: r => .name z :: (ePc p ++ .sp :: uIn r)
def uPc (u : Un) : List Pc := .sign 14 :: (uIn u ++ [.sign 15])
def uIt : Un → Nat → List PyData
  | [], _ => []
  | (z, p) :: r, j => .tuple [.str z, .int p, .int (j : Int)] :: uIt r (j + plen (.name z :: ePc p) + 1)
def Op2.pc : Op2 → Pc
  | .or => .word "or" | .and => .word "and" | .lt => .sign 3 | .le => .sign 0 | .eq => .sign 1 | .add => .sign 4 | .sub => .sign 5 | .mul => .sign 6 | .div => .sign 7
def numW : List (List Nat) := [lS "5", lS "2.5", lS "0", lS "999999", lS "0.1234"]
def numA : List Nat := [5, 25, 0, 999999, 1234]
def numB : List Nat := [1, 10, 1, 1, 10000]
def nPc (k : Nat) : Pc := .num (numW.getD k []) (numA.getD k 0) (numB.getD k 1)
inductive Ex where
  | num (k : Nat) (u : Un)
  | bool (b : Bool)
  | var (x : Str)
  | call0 (x : Str)
  | call1 (x : Str) (a : Ex)
  | call2 (x : Str) (a b : Ex)
  | iter (x : Str) (c : Nat) (a : Ex)
  | pow (a : Ex) (k : Int)
  | not (a : Ex)
  | ite (c a b : Ex)
  | lett (x : Str) (a b : Ex)
  | op (o : Op2) (a b : Ex)
def LP : Pc := .sign 12
def RP : Pc := .sign 13
def Ex.pcs : Ex → List Pc
  | .num k u => nPc k :: (if u = [] then [] else .sp :: uPc u)
  | .bool b => [.word (if b = true then "true" else "false")]
  | .var x => [.name x]
  | .call0 x => [.name x, LP, RP]
  | .call1 x a => .name x :: LP :: (a.pcs ++ [RP])
  | .call2 x a b => .name x :: LP :: (a.pcs ++ .sign 9 :: .sp :: (b.pcs ++ [RP]))
  | .iter x c a => .word "iterate" :: .sp :: .name x :: .sp :: .num (numS c) c 1 :: .sp :: .word "from" :: .sp :: LP :: (a.pcs ++ [RP])
  | .pow a k => LP :: (a.pcs ++ RP :: .sign 8 :: iPc k)
  | .not a => LP :: .word "not" :: .sp :: LP :: (a.pcs ++ [RP, RP])
  | .ite c a b => LP :: .word "if" :: .sp :: (c.pcs ++ .sp :: .word "then" :: .sp :: (a.pcs ++ .sp :: .word "else" :: .sp :: (b.pcs ++ [RP])))
  | .lett x a b => LP :: .word "let" :: .sp :: .name x :: .sp :: .sign 2 :: .sp :: (a.pcs ++ .sp :: .word "in" :: .sp :: (b.pcs ++ [RP]))
  | .op o a b => LP :: LP :: (a.pcs ++ RP :: .sp :: o.pc :: .sp :: LP :: (b.pcs ++ [RP, RP]))
def Ex.tree : Ex → Nat → PyData
  | .num k u, i => .tuple [.str "number", .tuple [.int (numA.getD k 0 : Nat), .int (numB.getD k 1 : Nat)], .tuple (uIt u (i + (numW.getD k []).length + 2)), .int (i : Int)]
  | .bool b, _ => .tuple [.str "bool", .bool b]
  | .var x, i => .tuple [.str "var", .str x, .int (i : Int)]
  | .call0 x, i => .tuple [.str "call", .str x, .tuple [], .int (i : Int)]
  | .call1 x a, i => .tuple [.str "call", .str x, .tuple [a.tree (i + (lS x).length + 1)], .int (i : Int)]
  | .call2 x a b, i => .tuple [.str "call", .str x, .tuple [a.tree (i + (lS x).length + 1), b.tree (i + (lS x).length + 1 + plen a.pcs + 2)], .int (i : Int)]
  | .iter x c a, i => .tuple [.str "iterate", .str x, .int (c : Int), a.tree (i + 8 + (lS x).length + 1 + (numS c).length + 7), .int (i : Int)]
  | .pow a k, i => .tuple [.str "power", a.tree (i + 1), .int k, .int ((i + 1 + plen a.pcs + 1 : Nat) : Int)]
  | .not a, i => .tuple [.str "not", a.tree (i + 6), .int ((i + 1 : Nat) : Int)]
  | .ite c a b, i => .tuple [.str "if", c.tree (i + 4), a.tree (i + 4 + plen c.pcs + 6), b.tree (i + 4 + plen c.pcs + 6 + plen a.pcs + 6), .int ((i + 1 : Nat) : Int)]
  | .lett x a b, i => .tuple [.str "let", .str x, a.tree (i + 5 + (lS x).length + 3), b.tree (i + 5 + (lS x).length + 3 + plen a.pcs + 4), .int ((i + 1 : Nat) : Int)]
  | .op o a b, i => .tuple [.str o.head, a.tree (i + 2), b.tree (i + 2 + plen a.pcs + 2 + (lS o.txt).length + 2), .int ((i + 2 + plen a.pcs + 2 : Nat) : Int)]
def Ex.dep : Ex → Nat
  | .num _ _ => 0
  | .bool _ => 0
  | .var _ => 0
  | .call0 _ => 1
  | .call1 _ a => 1 + a.dep
  | .call2 _ a b => 1 + max a.dep b.dep
  | .iter _ _ a => 1 + a.dep
  | .pow a _ => 1 + a.dep
  | .not a => 1 + a.dep
  | .ite c a b => 1 + max c.dep (max a.dep b.dep)
  | .lett _ a b => 1 + max a.dep b.dep
  | .op _ a b => 1 + max a.dep b.dep
/-- what the law draws: powers up to 9, counts up to 20 -/
def uOk (u : Un) : Prop := ∀ q ∈ u, q.2.natAbs ≤ 9
def Ex.ok : Ex → Prop
  | .num k u => k < 5 ∧ uOk u
  | .bool _ => True
  | .var _ => True
  | .call0 _ => True
  | .call1 _ a => a.ok
  | .call2 _ a b => a.ok ∧ b.ok
  | .iter _ c a => c ≤ 20 ∧ a.ok
  | .pow a k => k.natAbs ≤ 9 ∧ a.ok
  | .not a => a.ok
  | .ite c a b => c.ok ∧ a.ok ∧ b.ok
  | .lett _ a b => a.ok ∧ b.ok
  | .op _ a b => a.ok ∧ b.ok
/-! ### parts read -/
section
variable {L n : Nat} {s : Bool} {α β : Type}
theorem free0 {U : TS1} {c : List Tk} : ∀ R, Free c R → Free [] (U ++ R) := fun R _ t _ h => by cases h
theorem rd_readC {t : Tk} {i : Nat} {U : TS1} {k : Str} {q : PyData → Pr β} {c : List Tk} {u : β} (h : kindB [(t, 0)] k = true) (hb : kindB [(.word "base", 0)] k = false) (h2 : Rd L s (q t.val) c U u) : Rd L s (pRead L k >>= q) c ((t, i) :: U) u :=
  Rd.bind (T := [(t, i)]) (rd_read h hb) h2 (fun h => by cases h) free0
theorem rd_expC {t : Tk} {i : Nat} {U : TS1} {k v : Str} {q : Unit → Pr β} {c : List Tk} {u : β} (h : seesB [(t, 0)] k v = true) (hb : seesB [(.word "base", 0)] k v = false) (h2 : Rd L s (q ()) c U u) : Rd L s (pExp L k v >>= q) c ((t, i) :: U) u :=
  Rd.bind (T := [(t, i)]) (rd_exp h hb) h2 (fun h => by cases h) free0
theorem rd_wholeC {a i lim : Nat} {U : TS1} {q : Int → Pr β} {c : List Tk} {u : β} (h : a ≤ lim) (h2 : Rd L s (q a) c U u) : Rd L s (pWhole L lim >>= q) c ((.num a 1, i) :: U) u :=
  Rd.bind (T := [(.num a 1, i)]) (rd_whole h) h2 (fun h => by cases h) free0
theorem tks_iPc_neg {p : Int} (h : p < 0) (i : Nat) : tks i (iPc p) = [(.sign "-", i), (.num p.natAbs 1, i + 1)] := by
  unfold iPc
  rw [if_pos h]
  rfl
theorem tks_iPc_pos {p : Int} (h : ¬ p < 0) (i : Nat) : tks i (iPc p) = [(.num p.natAbs 1, i)] := by
  unfold iPc
  rw [if_neg h]
  rfl
theorem power_dd : Dd L true (pPower L) := by
  unfold pPower
  exact dd_acc (by decide +kernel) (dd_whole 9)
theorem rd_power {p : Int} (hp : p.natAbs ≤ 9) (i : Nat) : Rd L true (pPower L) [] (tks i (iPc p)) p := by
  unfold pPower
  by_cases h : p < 0
  · rw [tks_iPc_neg h]
    have e : p = -((p.natAbs : Nat) : Int) := by omega
    refine rd_accT (by decide +kernel) (by decide +kernel) (rd_wholeC hp ?_) (dd_whole 9)
    rw [← e]
    exact Rd.pure (by simp)
  · rw [tks_iPc_pos h]
    have e : ((p.natAbs : Nat) : Int) = p := by omega
    have hw := rd_whole (L := L) (i := i) hp
    rw [e] at hw
    exact rd_accF (by rfl) (by decide +kernel) hw
theorem prodL_dd {acc : List PyData} : Dd L true (pProdL L acc) := by
  rw [pProdL.eq_def]
  exact dd_acc (by decide +kernel) (dd_at fun j => Dd.bind (dd_read (by decide +kernel)) (fun h => by cases h))
theorem name_kind (z : Str) : kindB [(Tk.name z, 0)] "name" = true := rfl
theorem rd_prodL : ∀ (u : Un) (acc : List PyData) (i : Nat), uOk u → Rd L true (pProdL L acc) [] (tks i (uIn u ++ [.sign 15])) (.tuple (acc ++ uIt u i))
  | [], acc, i, _ => by
    show Rd L true (pProdL L acc) [] [(.sign "]", i)] (.tuple (acc ++ []))
    rw [List.append_nil, pProdL.eq_def]
    exact rd_accT (by decide +kernel) (by decide +kernel) (Rd.pure (by simp)) (dd_at fun j => Dd.bind (dd_read (by decide +kernel)) (fun h => by cases h))
  | (z, p) :: r, acc, i, hu => by
    have hp : p.natAbs ≤ 9 := hu (z, p) List.mem_cons_self
    have ih := fun acc i => rd_prodL r acc i fun q hq => hu q (List.mem_cons_of_mem _ hq)
    -- behind the power
    have rest : ∃ U, tks i (uIn ((z, p) :: r) ++ [.sign 15]) = (.name z, i) :: (tks (i + (lS z).length) (ePc p) ++ U) ∧ (∀ acc, Rd L true (pProdL L acc) [] U (.tuple (acc ++ uIt r (i + plen (.name z :: ePc p) + 1)))) ∧ ∃ t j V, U = (t, j) :: V ∧ t ≠ .sign "^" := by
      have el : plen (.name z :: ePc p) = (lS z).length + plen (ePc p) := List.length_append
      cases r with
      | nil =>
        refine ⟨[(.sign "]", i + (lS z).length + plen (ePc p))], ?_, fun acc => ?_, _, _, _, rfl, by decide⟩
        · show (Tk.name z, i) :: tks (i + (lS z).length) (ePc p ++ [.sign 15]) = _
          rw [tks_app]; rfl
        · exact ih acc (i + (lS z).length + plen (ePc p))
      | cons y r =>
        refine ⟨tks (i + plen (.name z :: ePc p) + 1) (uIn (y :: r) ++ [.sign 15]), ?_, fun acc => ih acc _, ?_⟩
        · show (Tk.name z, i) :: tks (i + (lS z).length) ((ePc p ++ .sp :: uIn (y :: r)) ++ [.sign 15]) = _
          rw [List.append_assoc, tks_app, el, ← Nat.add_assoc]
          rfl
        · obtain ⟨z2, p2⟩ := y
          cases r with
          | nil => exact ⟨_, _, _, rfl, by simp⟩
          | cons y2 r => exact ⟨_, _, _, rfl, by simp⟩
    obtain ⟨U, e, hU, t, j, V, eU, ht⟩ := rest
    rw [e, pProdL.eq_def]
    have evu : uIt ((z, p) :: r) i = .tuple [.str z, .int p, .int (i : Int)] :: uIt r (i + plen (.name z :: ePc p) + 1) := rfl
    rw [evu]
    have assoc : ∀ x, acc ++ x :: uIt r (i + plen (.name z :: ePc p) + 1) = (acc ++ [x]) ++ uIt r (i + plen (.name z :: ePc p) + 1) := fun x => by simp
    rw [assoc]
    refine rd_accF (by rfl) (by decide +kernel) (rd_at (rd_readC rfl (by decide +kernel) ?_) fun j => Dd.bind (dd_read (by decide +kernel)) (fun h => by cases h))
    by_cases h1 : p = 1
    · subst h1
      have : tks (i + (lS z).length) (ePc 1) = [] := rfl
      rw [this, List.nil_append, eU]
      refine rd_accF ?_ (by decide +kernel) (by rw [← eU]; exact hU _)
      cases q : seesB [(t, 0)] "sign" "^" with
      | false => rfl
      | true => exact absurd (sign_of q) ht
    · have : tks (i + (lS z).length) (ePc p) = (.sign "^", i + (lS z).length) :: tks (i + (lS z).length + 1) (iPc p) := by
        unfold ePc
        rw [if_neg h1]
        rfl
      rw [this, List.cons_append]
      exact rd_accT (by decide +kernel) (by decide +kernel) (Rd.bind (rd_power hp _) (hU _) (fun h => by cases h) free0) prodL_dd
theorem rd_prod {u : Un} (hu : uOk u) (i : Nat) : Rd L true (pProd L) [] (tks i (uPc u)) (.tuple (uIt u (i + 1))) := by
  unfold pProd
  exact rd_expC (t := .sign "[") (by decide +kernel) (by decide +kernel) (rd_prodL u [] (i + 1) hu)
theorem prod_dd : Dd L true (pProd L) := by
  unfold pProd
  exact Dd.bind (dd_exp (by decide +kernel)) (fun h => by cases h)
end
end Al
namespace Al
open PySem PySem.Spec PyProof.Rows L2 NdefX PySem.W
/-! ### k01: expressions read -/
section
variable {L n : Nat} {s : Bool} {α β : Type}
theorem tl5 {q : PyData → Pr PyData} : Dd L false (pRead L "name" >>= q) := (Dd.bind (s := true) (dd_read (by decide +kernel)) (fun h => by cases h)).weak
theorem tl4 {A : Pr PyData} {q : PyData → Pr PyData} : Dd L false (pKind "number" >>= fun c => if c = true then A else pRead L "name" >>= q) := dd_kind (by decide +kernel) tl5
theorem tl3 {A A1 : Pr PyData} {q : PyData → Pr PyData} : Dd L false (pAcc "word" "iterate" >>= fun c => if c = true then A1 else pKind "number" >>= fun c => if c = true then A else pRead L "name" >>= q) := dd_acc (by decide +kernel) tl4
theorem tl2 {A A1 A2 : Pr PyData} {q : PyData → Pr PyData} : Dd L false (pAcc "sign" "(" >>= fun c => if c = true then A2 else pAcc "word" "iterate" >>= fun c => if c = true then A1 else pKind "number" >>= fun c => if c = true then A else pRead L "name" >>= q) := dd_acc (by decide +kernel) tl3
theorem tl1 {A A1 A2 A3 : Pr PyData} {q : PyData → Pr PyData} : Dd L false (pAcc "word" "false" >>= fun c => if c = true then A3 else pAcc "sign" "(" >>= fun c => if c = true then A2 else pAcc "word" "iterate" >>= fun c => if c = true then A1 else pKind "number" >>= fun c => if c = true then A else pRead L "name" >>= q) := dd_acc (by decide +kernel) tl2
theorem tl0 {A A1 A2 A3 A4 : Pr PyData} {q : PyData → Pr PyData} : Dd L false (pAcc "word" "true" >>= fun c => if c = true then A4 else pAcc "word" "false" >>= fun c => if c = true then A3 else pAcc "sign" "(" >>= fun c => if c = true then A2 else pAcc "word" "iterate" >>= fun c => if c = true then A1 else pKind "number" >>= fun c => if c = true then A else pRead L "name" >>= q) := dd_acc (by decide +kernel) tl1
theorem b0 : Tk.word "base" ∉ Bd 0 := bd_base 0 (by decide)
theorem Rd.one {p : Pr α} {q : α → Pr β} {c : List Tk} {T : TS1} {v : α} {u : β} {s1 s : Bool} (h1 : Rd L s1 p [] T v) (h2 : Rd L s (q v) c [] u) (hq : s1 = false → ∀ v', Dd L s (q v')) : Rd L s (p >>= q) c T u := by
  have := h1.bind h2 hq free0
  rw [List.append_nil] at this
  exact this
theorem xp_bool (b : Bool) (i : Nat) : Rd L false (pPrim L n) (Bd 0) (tks i (Ex.bool b).pcs) ((Ex.bool b).tree i) := by
  rw [pPrim.eq_def]
  cases b with
  | true => exact rd_at (t := .word "true") (rd_accT (by decide +kernel) (by decide +kernel) (Rd.pure b0) tl1) fun j => tl0
  | false => exact rd_at (t := .word "false") (rd_accF (by decide +kernel) (by decide +kernel) (rd_accT (by decide +kernel) (by decide +kernel) (Rd.pure b0) tl2)) fun j => tl0
theorem xp_name {x : Str} {i : Nat} {U : TS1} {v : PyData} (h : Rd L false (pSees "sign" "(" >>= fun b => if b = true then pCall L n >>= fun u => pure (.tuple [.str "call", .str x, u, .int (i : Int)]) else pure (.tuple [.str "var", .str x, .int (i : Int)])) (Bd 0) U v) :
    Rd L false (pPrim L n) (Bd 0) ((.name x, i) :: U) v := by
  rw [pPrim.eq_def]
  exact rd_at (t := .name x) (rd_accF rfl (by decide +kernel) (rd_accF rfl (by decide +kernel) (rd_accF rfl (by decide +kernel) (rd_accF rfl (by decide +kernel) (rd_kindF rfl (by decide +kernel)
    (rd_readC rfl (by decide +kernel) h)))))) fun j => tl0
theorem xp_var (x : Str) (i : Nat) : Rd L false (pPrim L n) (Bd 0) (tks i (Ex.var x).pcs) ((Ex.var x).tree i) := xp_name (rd_seesN (Rd.pure b0) (by decide))
theorem xp_num {k : Nat} {u : Un} (hu : uOk u) (i : Nat) : Rd L false (pPrim L n) (Bd 0) (tks i (Ex.num k u).pcs) ((Ex.num k u).tree i) := by
  rw [pPrim.eq_def]
  by_cases h : u = []
  · subst h
    exact rd_at (t := .num (numA.getD k 0) (numB.getD k 1)) (rd_accF rfl (by decide +kernel) (rd_accF rfl (by decide +kernel) (rd_accF rfl (by decide +kernel) (rd_accF rfl (by decide +kernel) (rd_kindT rfl (by decide +kernel)
      (rd_readC rfl (by decide +kernel) (rd_seesN (Rd.pure b0) (by decide))) tl5))))) fun j => tl0
  · have e : tks i (Ex.num k u).pcs = (.num (numA.getD k 0) (numB.getD k 1), i) :: tks (i + (numW.getD k []).length + 1) (uPc u) := by
      show tks i (nPc k :: (if u = [] then [] else .sp :: uPc u)) = _
      rw [if_neg h]
      rfl
    have eb : tks (i + (numW.getD k []).length + 1) (uPc u) = (.sign "[", i + (numW.getD k []).length + 1) :: tks (i + (numW.getD k []).length + 2) (uIn u ++ [.sign 15]) := rfl
    have hp := rd_prod (L := L) hu (i + (numW.getD k []).length + 1)
    rw [e]
    refine rd_at (rd_accF rfl (by decide +kernel) (rd_accF rfl (by decide +kernel) (rd_accF rfl (by decide +kernel) (rd_accF rfl (by decide +kernel) (rd_kindT rfl (by decide +kernel)
      (rd_readC rfl (by decide +kernel) ?_) tl5))))) fun j => tl0
    rw [eb] at hp ⊢
    exact rd_seesT (by decide +kernel) (by decide +kernel) (hp.one (Rd.pure b0) (fun h => by cases h)) Dd.pure
/-- an expression in parentheses -/
theorem xp_parenN {T : TS1} {v : PyData} {i j : Nat} (h : Rd L false (pExpr L n) (Bd 5) T v) : Rd L false (pPrim L (n + 1)) [] ((.sign "(", i) :: (T ++ [(.sign ")", j)])) v := by
  rw [pPrim.eq_def]
  refine rd_at (t := .sign "(") (rd_accF (by decide +kernel) (by decide +kernel) (rd_accF (by decide +kernel) (by decide +kernel) (rd_accT (by decide +kernel) (by decide +kernel) (rd_deep ?_) tl3))) fun j => tl0
  refine (h.bind (U := [(.sign ")", j)]) (rd_expC (by decide +kernel) (by decide +kernel) (Rd.pure (by simp))) (fun _ v' => Dd.bind (dd_exp (by decide +kernel)) (fun h => by cases h)) fun R _ => Free.cons (by decide +kernel))
theorem xp_paren {T : TS1} {v : PyData} {i j : Nat} (h : Rd L false (pExpr L n) (Bd 5) T v) : Rd L false (pPrim L (n + 1)) (Bd 0) ((.sign "(", i) :: (T ++ [(.sign ")", j)])) v := (xp_parenN h).mono b0 fun t h => by cases h
/-- two operands and an operator between them, level by level -/
theorem xp_facL {p : Op2} {a b : PyData} {T : TS1} {j : Nat} (hp : p.tier = 4) (h : Rd L false (pPowers L n) (Bd 0) T b) : Rd L false (pFacL L (n + 1) a) (Bd 1) ((p.tk, j) :: T) (.tuple [.str p.head, a, b, .int (j : Int)]) := by
  have rest : ∀ hd : PyData, Rd L false (pPowers L n >>= fun b => pFacL L n (.tuple [hd, a, b, .int (j : Int)])) (Bd 1) T (.tuple [hd, a, b, .int (j : Int)]) := fun hd => by
    have := h.bind (q := fun b => pFacL L n (.tuple [hd, a, b, .int (j : Int)])) (facL_nil (s := false)) (fun _ v' => facL_dd) (sub_free (bd_sub 0 (by decide)))
    rw [List.append_nil] at this
    exact this
  rw [pFacL.eq_def]
  cases p <;> (simp only [Op2.tier] at hp) <;> try omega
  · exact rd_seesT (by decide +kernel) (by decide +kernel) (rd_at (rd_readC rfl (by decide +kernel) (rd_deep (rest _))) fun j => (Dd.bind (s := true) (dd_read (by decide +kernel)) (fun h => by cases h)).weak) (dd_sees (by decide +kernel) Dd.pure)
  · exact rd_seesF (by decide +kernel) (by decide +kernel) (rd_seesT (by decide +kernel) (by decide +kernel) (rd_at (rd_readC rfl (by decide +kernel) (rd_deep (rest _))) fun j => (Dd.bind (s := true) (dd_read (by decide +kernel)) (fun h => by cases h)).weak) Dd.pure)
theorem xp_termL {p : Op2} {a b : PyData} {T : TS1} {j : Nat} (hp : p.tier = 3) (h : Rd L false (pFactors L n) (Bd 1) T b) : Rd L false (pTermL L (n + 1) a) (Bd 2) ((p.tk, j) :: T) (.tuple [.str p.head, a, b, .int (j : Int)]) := by
  have rest : ∀ hd : PyData, Rd L false (pFactors L n >>= fun b => pTermL L n (.tuple [hd, a, b, .int (j : Int)])) (Bd 2) T (.tuple [hd, a, b, .int (j : Int)]) := fun hd => by
    have := h.bind (q := fun b => pTermL L n (.tuple [hd, a, b, .int (j : Int)])) (termL_nil (s := false)) (fun _ v' => termL_dd) (sub_free (bd_sub 1 (by decide)))
    rw [List.append_nil] at this
    exact this
  rw [pTermL.eq_def]
  cases p <;> (simp only [Op2.tier] at hp) <;> try omega
  · exact rd_seesT (by decide +kernel) (by decide +kernel) (rd_at (rd_readC rfl (by decide +kernel) (rd_deep (rest _))) fun j => (Dd.bind (s := true) (dd_read (by decide +kernel)) (fun h => by cases h)).weak) (dd_sees (by decide +kernel) Dd.pure)
  · exact rd_seesF (by decide +kernel) (by decide +kernel) (rd_seesT (by decide +kernel) (by decide +kernel) (rd_at (rd_readC rfl (by decide +kernel) (rd_deep (rest _))) fun j => (Dd.bind (s := true) (dd_read (by decide +kernel)) (fun h => by cases h)).weak) Dd.pure)
theorem xp_cmp {p : Op2} {a b : PyData} {T : TS1} {j : Nat} (hp : p.tier = 2) (h : Rd L false (pTerms L n) (Bd 2) T b) : Rd L false (pCmp L (n + 1) a cmps) (Bd 3) ((p.tk, j) :: T) (.tuple [.str p.head, a, b, .int (j : Int)]) := by
  have rest : ∀ hd : PyData, Rd L false (pTerms L n >>= fun b => (pure (PyData.tuple [hd, a, b, .int (j : Int)]) : Pr PyData)) (Bd 3) T (PyData.tuple [hd, a, b, .int (j : Int)]) := fun hd => by
    have := h.bind (q := fun b => (pure (PyData.tuple [hd, a, b, .int (j : Int)]) : Pr PyData)) (Rd.pure (s := false) (bd_base 3 (by decide))) (fun _ v' => Dd.pure) (sub_free (bd_sub 2 (by decide)))
    rw [List.append_nil] at this
    exact this
  have d3 : Dd L false (pCmp L (n + 1) a []) := by rw [pCmp.eq_def]; exact Dd.pure
  have d2 : Dd L false (pCmp L (n + 1) a [("==", "eq")]) := by
    rw [pCmp.eq_def]; exact dd_at fun j => dd_acc (by decide +kernel) d3
  have d1 : Dd L false (pCmp L (n + 1) a [("<=", "le"), ("==", "eq")]) := by
    rw [pCmp.eq_def]; exact dd_at fun j => dd_acc (by decide +kernel) d2
  have d0 : Dd L false (pCmp L (n + 1) a cmps) := cmp_dd
  unfold cmps at d0 ⊢
  cases p <;> (simp only [Op2.tier] at hp) <;> try omega
  · rw [pCmp.eq_def]
    exact rd_at (rd_accT (by decide +kernel) (by decide +kernel) (rd_deep (rest _)) d1) fun j => dd_acc (by decide +kernel) d1
  · rw [pCmp.eq_def]
    refine rd_at (rd_accF (by decide +kernel) (by decide +kernel) ?_) fun j => dd_acc (by decide +kernel) d1
    rw [pCmp.eq_def]
    exact rd_at (rd_accT (by decide +kernel) (by decide +kernel) (rd_deep (rest _)) d2) fun j => dd_acc (by decide +kernel) d2
  · rw [pCmp.eq_def]
    refine rd_at (rd_accF (by decide +kernel) (by decide +kernel) ?_) fun j => dd_acc (by decide +kernel) d1
    rw [pCmp.eq_def]
    refine rd_at (rd_accF (by decide +kernel) (by decide +kernel) ?_) fun j => dd_acc (by decide +kernel) d2
    rw [pCmp.eq_def]
    exact rd_at (rd_accT (by decide +kernel) (by decide +kernel) (rd_deep (rest _)) d3) fun j => dd_acc (by decide +kernel) d3
theorem xp_bothL {p : Op2} {a b : PyData} {T : TS1} {j : Nat} (hp : p.tier = 1) (h : Rd L false (pPlain L n) (Bd 3) T b) : Rd L false (pBothL L (n + 1) a) (Bd 4) ((p.tk, j) :: T) (.tuple [.str p.head, a, b, .int (j : Int)]) := by
  rw [pBothL.eq_def]
  cases p <;> (simp only [Op2.tier] at hp) <;> try omega
  have := h.bind (q := fun b => pBothL L n (.tuple [.str "and", a, b, .int (j : Int)])) (bothL_nil (s := false)) (fun _ v' => bothL_dd) (sub_free (bd_sub 3 (by decide)))
  rw [List.append_nil] at this
  exact rd_seesT (by decide +kernel) (by decide +kernel) (rd_at (rd_expC (by decide +kernel) (by decide +kernel) (rd_deep this)) fun j => (Dd.bind (s := true) (dd_exp (by decide +kernel)) (fun h => by cases h)).weak) Dd.pure
theorem xp_orL {p : Op2} {a b : PyData} {T : TS1} {j m : Nat} (hp : p.tier = 0) (h : Rd L false (pBoth L n) (Bd 4) T b) : Rd L false (pOrL L (n + 1) m a) (Bd 5) ((p.tk, j) :: T) (.tuple [.str p.head, a, b, .int (j : Int)]) := by
  rw [pOrL.eq_def]
  cases p <;> (simp only [Op2.tier] at hp) <;> try omega
  have := h.bind (q := fun b => pOrL L n m (.tuple [.str "or", a, b, .int (j : Int)])) (orL_nil (s := false)) (fun _ v' => orL_dd) (sub_free (bd_sub 4 (by decide)))
  rw [List.append_nil] at this
  exact rd_seesT (by decide +kernel) (by decide +kernel) (rd_at (rd_expC (by decide +kernel) (by decide +kernel) (rd_deep this)) fun j => (Dd.bind (s := true) (dd_exp (by decide +kernel)) (fun h => by cases h)).weak) Dd.pure
theorem op_free (p : Op2) (f : Nat) (hp : p.tier + f = 4) : p.tk ∉ Bd f := by
  have : ∀ f ≤ 4, ∀ p ∈ ([.or, .and, .lt, .le, .eq, .add, .sub, .mul, .div] : List Op2), p.tier + f = 4 → p.tk ∉ Bd f := by decide +kernel
  exact this f (by omega) p (by cases p <;> simp) hp
/-- operand, operator, operand -/
theorem xp_chain {p : Op2} {a b : PyData} {T U : TS1} {j : Nat} (hT : First T) (hU : First U) (ha : Rd L false (PP L (n + 1) 0) (Bd 0) T a) (hb : Rd L false (PP L n 0) (Bd 0) U b) :
    Rd L false (pExpr L (n + 1)) (Bd 5) (T ++ (p.tk, j) :: U) (.tuple [.str p.head, a, b, .int (j : Int)]) := by
  have hTU : First (T ++ (p.tk, j) :: U) := hT.app _
  have tu : ∀ f, p.tier + f = 4 → ∀ R, Free (Bd (f + 1)) R → Free (Bd f) ((p.tk, j) :: U ++ R) := fun f hf R _ => Free.cons (op_free p f hf)
  have a1 := up1 ha
  have a2 := up2 a1
  have a3 := up3 hT a2
  have a4 := up4 a3
  have b1 := up1 hb
  have b2 := up2 b1
  have b3 := up3 hU b2
  have b4 := up4 b3
  show Rd L false (PP L (n + 1) 5) (Bd 5) _ _
  have ht : p.tier = 0 ∨ p.tier = 1 ∨ p.tier = 2 ∨ p.tier = 3 ∨ p.tier = 4 := by cases p <;> simp [Op2.tier]
  obtain ⟨t, i, V, rfl, h1, h2, h3⟩ := hT
  rcases ht with ht | ht | ht | ht | ht
  · show Rd L false (pExpr L (n + 1)) (Bd 5) _ _
    rw [pExpr.eq_def, List.cons_append]
    refine rd_at (rd_accF (not_word h1) (by decide +kernel) (rd_accF (not_word h2) (by decide +kernel) ?_)) fun j => dd_acc (by decide +kernel) (dd_acc (by decide +kernel) (Dd.bind (s := true) both_dd (fun h => by cases h)).weak)
    rw [← List.cons_append]
    exact Rd.bind (p := pBoth L (n + 1)) a4 (xp_orL ht b4) (fun _ v' => orL_dd) (tu 4 (by omega))
  · refine up_to hTU 1 4 rfl ?_
    show Rd L false (pBoth L (n + 1)) (Bd 4) _ _
    unfold pBoth
    exact Rd.bind (p := pPlain L (n + 1)) a3 (xp_bothL ht b3) (fun _ v' => bothL_dd) (tu 3 (by omega))
  · refine up_to hTU 2 3 rfl ?_
    show Rd L false (pPlain L (n + 1)) (Bd 3) _ _
    rw [pPlain.eq_def, List.cons_append]
    refine rd_at (rd_accF (not_word h3) (by decide +kernel) ?_) fun j => dd_acc (by decide +kernel) (Dd.bind (s := true) terms_dd (fun h => by cases h)).weak
    rw [← List.cons_append]
    exact Rd.bind (p := pTerms L (n + 1)) a2 (xp_cmp ht b2) (fun _ v' => cmp_dd) (tu 2 (by omega))
  · refine up_to hTU 3 2 rfl ?_
    show Rd L false (pTerms L (n + 1)) (Bd 2) _ _
    unfold pTerms
    exact Rd.bind (p := pFactors L (n + 1)) a1 (xp_termL ht b1) (fun _ v' => termL_dd) (tu 1 (by omega))
  · refine up_to hTU 4 1 rfl ?_
    show Rd L false (pFactors L (n + 1)) (Bd 1) _ _
    unfold pFactors
    exact Rd.bind (p := pPowers L (n + 1)) ha (xp_facL ht hb) (fun _ v' => facL_dd) (tu 0 (by omega))
end
end Al
namespace Al
open PySem PySem.Spec PyProof.Rows L2 NdefX PySem.W
/-! ### k01: every tree read -/
theorem tks_op (o : Op2) (j : Nat) (r : List Pc) : tks j (o.pc :: r) = (o.tk, j) :: tks (j + (lS o.txt).length) r := by cases o <;> rfl
theorem first_ex (e : Ex) (i : Nat) : First (tks i e.pcs) := by
  cases e with
  | num k u => exact ⟨_, _, _, rfl, by simp, by simp, by simp⟩
  | bool b => cases b <;> exact ⟨_, _, _, rfl, by decide, by decide, by decide⟩
  | var x => exact ⟨_, _, _, rfl, by simp, by simp, by simp⟩
  | call0 x => exact ⟨_, _, _, rfl, by simp, by simp, by simp⟩
  | call1 x a => exact ⟨_, _, _, rfl, by simp, by simp, by simp⟩
  | call2 x a b => exact ⟨_, _, _, rfl, by simp, by simp, by simp⟩
  | iter x c a => exact ⟨_, _, _, rfl, by decide, by decide, by decide⟩
  | pow a k => exact ⟨_, _, _, rfl, by decide, by decide, by decide⟩
  | not a => exact ⟨_, _, _, rfl, by decide, by decide, by decide⟩
  | ite c a b => exact ⟨_, _, _, rfl, by decide, by decide, by decide⟩
  | lett x a b => exact ⟨_, _, _, rfl, by decide, by decide, by decide⟩
  | op o a b => exact ⟨_, _, _, rfl, by decide, by decide, by decide⟩
theorem first_par (i : Nat) (T : TS1) : First ((.sign "(", i) :: T) := ⟨_, _, _, rfl, by decide, by decide, by decide⟩
section
variable {L n : Nat}
theorem xe_of {e : Ex} {i : Nat} (h : Rd L false (PP L n 0) (Bd 0) (tks i e.pcs) (e.tree i)) : Rd L false (pExpr L n) (Bd 5) (tks i e.pcs) (e.tree i) := up_to (first_ex e i) 5 0 rfl h
/-- an expression in parentheses as powers -/
theorem xq_paren {T : TS1} {v : PyData} {i j : Nat} (h : Rd L false (pExpr L n) (Bd 5) T v) : Rd L false (PP L (n + 1) 0) (Bd 0) ((.sign "(", i) :: (T ++ [(.sign ")", j)])) v := up0 (xp_paren h)
theorem exp_dd1 {k v : Str} {β : Type} {q : Unit → Pr β} {s : Bool} (hb : seesB [(.word "base", 0)] k v = false) : Dd L s (pExp L k v >>= q) := fun D hD => by
  have h : Dd L true (pExp L k v >>= q) := Dd.bind (s := true) (dd_exp hb) (fun h => by cases h)
  rcases h D hD with h | ⟨h, _⟩
  · exact .inl h
  · cases h
theorem call_rd0 {x : Str} {i : Nat} (hn : 1 ≤ n) : Rd L false (pPrim L n) (Bd 0) (tks i (Ex.call0 x).pcs) ((Ex.call0 x).tree i) := by
  obtain ⟨m, rfl⟩ : ∃ m, n = m + 1 := ⟨n - 1, by omega⟩
  refine xp_name (U := [(.sign "(", i + (lS x).length), (.sign ")", i + (lS x).length + 1)]) (rd_seesT (by decide +kernel) (by decide +kernel) ?_ Dd.pure)
  have hc : Rd L false (pCall L (m + 1)) [] [(.sign "(", i + (lS x).length), (.sign ")", i + (lS x).length + 1)] (.tuple []) := by
    rw [pCall.eq_def]
    exact rd_expC (by decide +kernel) (by decide +kernel) (rd_accT (by decide +kernel) (by decide +kernel) (Rd.pure (by simp)) (dd_deep (Dd.bind (s := true) expr_dd (fun h => by cases h)).weak))
  exact hc.one (Rd.pure b0) fun _ _ => Dd.pure
theorem args_end {acc : List PyData} {j : Nat} : Rd L false (pArgs L n acc) [] [(.sign ")", j)] (.tuple acc) := by
  rw [pArgs.eq_def]
  exact rd_accF (by decide +kernel) (by decide +kernel) (rd_expC (by decide +kernel) (by decide +kernel) (Rd.pure (by simp)))
theorem args_dd {acc : List PyData} : Dd L false (pArgs L n acc) := by
  rw [pArgs.eq_def]
  exact dd_acc (by decide +kernel) (exp_dd1 (by decide +kernel))
theorem args_more {acc : List PyData} {T U : TS1} {v u : PyData} {j : Nat} (h : Rd L false (pExpr L n) (Bd 5) T v) (hU : ∀ R, Free (Bd 5) (U ++ R)) (h2 : Rd L false (pArgs L (n + 1) (acc ++ [v])) [] U u) : Rd L false (pArgs L (n + 1) acc) [] ((.sign ",", j) :: (T ++ U)) u := by
  rw [pArgs.eq_def]
  exact rd_accT (by decide +kernel) (by decide +kernel) (rd_deep (h.bind h2 (fun _ v' => args_dd) fun R _ => hU R)) (exp_dd1 (by decide +kernel))
theorem call_rd {x : Str} {i : Nat} {T U : TS1} {v : PyData} {vs : List PyData} (hT : ∃ t j V, T = (t, j) :: V ∧ t ≠ .sign ")") (h : Rd L false (pExpr L n) (Bd 5) T v) (hU : ∀ R, Free (Bd 5) (U ++ R)) (h2 : Rd L false (pArgs L (n + 1) [v]) [] U (.tuple vs)) :
    Rd L false (pPrim L (n + 1)) (Bd 0) ((.name x, i) :: (.sign "(", i + (lS x).length) :: (T ++ U)) (.tuple [.str "call", .str x, .tuple vs, .int (i : Int)]) := by
  refine xp_name (rd_seesT (by decide +kernel) (by decide +kernel) ?_ Dd.pure)
  have hc : Rd L false (pCall L (n + 1)) [] ((.sign "(", i + (lS x).length) :: (T ++ U)) (.tuple vs) := by
    rw [pCall.eq_def]
    obtain ⟨t, j, V, rfl, ht⟩ := hT
    refine rd_expC (by decide +kernel) (by decide +kernel) (rd_accF ?_ (by decide +kernel) (rd_deep ?_))
    · cases q : seesB [(t, 0)] "sign" ")" with
      | false => rfl
      | true => exact absurd (sign_of q) ht
    · exact h.bind h2 (fun _ v' => args_dd) fun R _ => hU R
  exact hc.one (Rd.pure b0) fun _ _ => Dd.pure
theorem par_free {j : Nat} {R : TS1} : Free (Bd 5) ((.sign ")", j) :: R) := Free.cons (by decide +kernel)
theorem first_rp {e : Ex} {i : Nat} : ∃ t j V, tks i e.pcs = (t, j) :: V ∧ t ≠ .sign ")" := by
  cases e with
  | num k u => exact ⟨_, _, _, rfl, by simp⟩
  | bool b => cases b <;> exact ⟨_, _, _, rfl, by simp⟩
  | var x => exact ⟨_, _, _, rfl, by simp⟩
  | call0 x => exact ⟨_, _, _, rfl, by simp⟩
  | call1 x a => exact ⟨_, _, _, rfl, by simp⟩
  | call2 x a b => exact ⟨_, _, _, rfl, by simp⟩
  | iter x c a => exact ⟨_, _, _, rfl, by simp⟩
  | pow a k => exact ⟨_, _, _, rfl, by decide⟩
  | not a => exact ⟨_, _, _, rfl, by decide⟩
  | ite c a b => exact ⟨_, _, _, rfl, by decide⟩
  | lett x a b => exact ⟨_, _, _, rfl, by decide⟩
  | op o a b => exact ⟨_, _, _, rfl, by decide⟩
/-- word-opened forms within parentheses -/
theorem ex_if {i : Nat} {C T U : TS1} {c v u : PyData} {j1 j2 : Nat} (hc : Rd L false (pExpr L n) (Bd 5) C c) (h1 : Rd L false (pExpr L n) (Bd 5) T v) (h2 : Rd L false (pExpr L n) (Bd 5) U u) :
    Rd L false (pExpr L (n + 1)) (Bd 5) ((.word "if", i) :: (C ++ (.word "then", j1) :: (T ++ (.word "else", j2) :: U))) (.tuple [.str "if", c, v, u, .int (i : Int)]) := by
  rw [pExpr.eq_def]
  refine rd_at (rd_accT (by decide +kernel) (by decide +kernel) (rd_deep ?_) (dd_acc (by decide +kernel) (Dd.bind (s := true) both_dd (fun h => by cases h)).weak)) fun j => dd_acc (by decide +kernel) (dd_acc (by decide +kernel) (Dd.bind (s := true) both_dd (fun h => by cases h)).weak)
  refine hc.bind (rd_expC (by decide +kernel) (by decide +kernel) (rd_deep ?_)) (fun _ v' => exp_dd1 (by decide +kernel)) fun R _ => Free.cons (by decide +kernel)
  refine h1.bind (rd_expC (by decide +kernel) (by decide +kernel) (rd_deep ?_)) (fun _ v' => exp_dd1 (by decide +kernel)) fun R _ => Free.cons (by decide +kernel)
  have := h2.bind (q := fun b => (pure (PyData.tuple [.str "if", c, v, b, .int (i : Int)]) : Pr PyData)) (Rd.pure (s := false) (bd_base 5 (by decide))) (fun _ v' => Dd.pure) (sub_free fun _ h => h)
  rw [List.append_nil] at this
  exact this
theorem ex_let {i : Nat} {x : Str} {T U : TS1} {v u : PyData} {j0 j1 j2 : Nat} (h1 : Rd L false (pExpr L n) (Bd 5) T v) (h2 : Rd L false (pExpr L n) (Bd 5) U u) :
    Rd L false (pExpr L (n + 1)) (Bd 5) ((.word "let", i) :: (.name x, j0) :: (.sign "=", j1) :: (T ++ (.word "in", j2) :: U)) (.tuple [.str "let", .str x, v, u, .int (i : Int)]) := by
  rw [pExpr.eq_def]
  refine rd_at (rd_accF (by decide +kernel) (by decide +kernel) (rd_accT (by decide +kernel) (by decide +kernel) ?_ (Dd.bind (s := true) both_dd (fun h => by cases h)).weak)) fun j => dd_acc (by decide +kernel) (dd_acc (by decide +kernel) (Dd.bind (s := true) both_dd (fun h => by cases h)).weak)
  refine rd_readC rfl (by decide +kernel) (rd_expC (by decide +kernel) (by decide +kernel) (rd_deep ?_))
  refine h1.bind (rd_expC (by decide +kernel) (by decide +kernel) (rd_deep ?_)) (fun _ v' => exp_dd1 (by decide +kernel)) fun R _ => Free.cons (by decide +kernel)
  have := h2.bind (q := fun b => (pure (PyData.tuple [.str "let", .str x, v, b, .int (i : Int)]) : Pr PyData)) (Rd.pure (s := false) (bd_base 5 (by decide))) (fun _ v' => Dd.pure) (sub_free fun _ h => h)
  rw [List.append_nil] at this
  exact this
theorem ex_not {i : Nat} {T : TS1} {v : PyData} (h : Rd L false (PP L n 3) (Bd 3) T v) : Rd L false (PP L (n + 1) 3) (Bd 3) ((.word "not", i) :: T) (.tuple [.str "not", v, .int (i : Int)]) := by
  show Rd L false (pPlain L (n + 1)) (Bd 3) _ _
  rw [pPlain.eq_def]
  refine rd_at (rd_accT (by decide +kernel) (by decide +kernel) (rd_deep ?_) (Dd.bind (s := true) terms_dd (fun h => by cases h)).weak) fun j => dd_acc (by decide +kernel) (Dd.bind (s := true) terms_dd (fun h => by cases h)).weak
  have := Rd.bind (p := pPlain L n) h (q := fun a => (pure (PyData.tuple [.str "not", a, .int (i : Int)]) : Pr PyData)) (Rd.pure (s := false) (bd_base 3 (by decide))) (fun _ v' => Dd.pure) (sub_free fun _ h => h)
  rw [List.append_nil] at this
  exact this
theorem both_word {T : TS1} {v : PyData} {i : Nat} (h : Rd L false (PP L n 3) (Bd 3) ((.word "not", i) :: T) v) : Rd L false (pExpr L n) (Bd 5) ((.word "not", i) :: T) v := by
  have h4 := up4 h
  show Rd L false (pExpr L n) (Bd 5) _ v
  rw [pExpr.eq_def]
  refine rd_at (rd_accF (by decide +kernel) (by decide +kernel) (rd_accF (by decide +kernel) (by decide +kernel) ?_)) fun j => dd_acc (by decide +kernel) (dd_acc (by decide +kernel) (Dd.bind (s := true) both_dd (fun h => by cases h)).weak)
  have := Rd.bind (p := pBoth L n) h4 (q := fun a => pOrL L n i a) (orL_nil (s := false)) (fun _ v' => orL_dd) (sub_free (bd_sub 4 (by decide)))
  rw [List.append_nil] at this
  exact this
theorem xp_iter {x : Str} {c i j0 j1 j2 : Nat} {T : TS1} {v : PyData} (hc : c ≤ 20) (h : Rd L false (pPrim L n) (Bd 0) T v) : Rd L false (pPrim L (n + 1)) (Bd 0) ((.word "iterate", i) :: (.name x, j0) :: (.num c 1, j1) :: (.word "from", j2) :: T) (.tuple [.str "iterate", .str x, .int (c : Int), v, .int (i : Int)]) := by
  rw [pPrim.eq_def]
  refine rd_at (rd_accF (by decide +kernel) (by decide +kernel) (rd_accF (by decide +kernel) (by decide +kernel) (rd_accF (by decide +kernel) (by decide +kernel) (rd_accT (by decide +kernel) (by decide +kernel) ?_ tl4)))) fun j => tl0
  refine rd_readC rfl (by decide +kernel) (rd_wholeC hc (rd_expC (by decide +kernel) (by decide +kernel) (rd_deep ?_)))
  have := h.bind (q := fun a => (pure (PyData.tuple [.str "iterate", .str x, .int (c : Int), a, .int (i : Int)]) : Pr PyData)) (Rd.pure (s := false) b0) (fun _ v' => Dd.pure) (sub_free fun _ h => h)
  rw [List.append_nil] at this
  exact this
theorem xp_pow {T : TS1} {v : PyData} {k : Int} {j : Nat} (hk : k.natAbs ≤ 9) (h : Rd L false (pPrim L (n + 1)) [] T v) : Rd L false (PP L (n + 1) 0) (Bd 0) (T ++ (.sign "^", j) :: tks (j + 1) (iPc k)) (.tuple [.str "power", v, .int k, .int (j : Int)]) := by
  show Rd L false (pPowers L (n + 1)) (Bd 0) _ _
  unfold pPowers
  have hr : Rd L false (pPowL L (n + 1) v) (Bd 0) ((.sign "^", j) :: tks (j + 1) (iPc k)) (.tuple [.str "power", v, .int k, .int (j : Int)]) := by
    rw [pPowL.eq_def]
    refine rd_seesT (by decide +kernel) (by decide +kernel) (rd_at (rd_expC (by decide +kernel) (by decide +kernel) (rd_deep ?_)) fun j => exp_dd1 (by decide +kernel)) Dd.pure
    exact (rd_power hk (j + 1)).one powL_nil (fun h => by cases h)
  exact h.bind hr (fun _ v' => powL_dd) free0
/-- a tree is read from its text -/
theorem ex_read : ∀ (e : Ex) (n i : Nat), e.ok → 3 * e.dep ≤ n → Rd L false (PP L n 0) (Bd 0) (tks i e.pcs) (e.tree i)
  | .num k u, n, i, ho, _ => up0 (xp_num ho.2 i)
  | .bool b, n, i, _, _ => up0 (xp_bool b i)
  | .var x, n, i, _, _ => up0 (xp_var x i)
  | .call0 x, n, i, _, hn => up0 (call_rd0 (by have : 3 * 1 ≤ n := hn; omega))
  | .call1 x a, n, i, ho, hn => by
    have hn : 3 * (1 + a.dep) ≤ n := hn
    obtain ⟨m, rfl⟩ : ∃ m, n = m + 1 := ⟨n - 1, by omega⟩
    have ha := xe_of (ex_read a m (i + (lS x).length + 1) ho (by omega))
    have e : tks i (Ex.call1 x a).pcs = (.name x, i) :: (.sign "(", i + (lS x).length) :: (tks (i + (lS x).length + 1) a.pcs ++ [(.sign ")", i + (lS x).length + 1 + plen a.pcs)]) := by
      show (Tk.name x, i) :: (Tk.sign "(", i + (lS x).length) :: tks (i + (lS x).length + 1) (a.pcs ++ [RP]) = _
      rw [tks_app]
      rfl
    rw [e]
    exact up0 (call_rd first_rp ha (fun R => par_free) args_end)
  | .call2 x a b, n, i, ho, hn => by
    have hn : 3 * (1 + max a.dep b.dep) ≤ n := hn
    obtain ⟨m, rfl⟩ : ∃ m, n = m + 1 := ⟨n - 1, by omega⟩
    have ha := xe_of (ex_read a m (i + (lS x).length + 1) ho.1 (by omega))
    have hb := xe_of (ex_read b m (i + (lS x).length + 1 + plen a.pcs + 2) ho.2 (by omega))
    have e : tks i (Ex.call2 x a b).pcs = (.name x, i) :: (.sign "(", i + (lS x).length) :: (tks (i + (lS x).length + 1) a.pcs ++ (.sign ",", i + (lS x).length + 1 + plen a.pcs) :: (tks (i + (lS x).length + 1 + plen a.pcs + 2) b.pcs ++ [(.sign ")", i + (lS x).length + 1 + plen a.pcs + 2 + plen b.pcs)])) := by
      show (Tk.name x, i) :: (Tk.sign "(", i + (lS x).length) :: tks (i + (lS x).length + 1) (a.pcs ++ .sign 9 :: .sp :: (b.pcs ++ [RP])) = _
      rw [tks_app]
      show _ :: _ :: (_ ++ (Tk.sign ",", _) :: tks (i + (lS x).length + 1 + plen a.pcs + 2) (b.pcs ++ [RP])) = _
      rw [tks_app]
      rfl
    rw [e]
    exact up0 (call_rd first_rp ha (fun R => Free.cons (by decide +kernel)) (args_more hb (fun R => par_free) args_end))
  | .iter x c a, n, i, ho, hn => by
    have hn : 3 * (1 + a.dep) ≤ n := hn
    obtain ⟨m, rfl⟩ : ∃ m, n = m + 2 := ⟨n - 2, by omega⟩
    have ha := xp_paren (j := i + 8 + (lS x).length + 1 + (numS c).length + 7 + plen a.pcs) (i := i + 8 + (lS x).length + 1 + (numS c).length + 6) (xe_of (ex_read a m (i + 8 + (lS x).length + 1 + (numS c).length + 7) ho.2 (by omega)))
    have e : tks i (Ex.iter x c a).pcs = (.word "iterate", i) :: (.name x, i + 8) :: (.num c 1, i + 8 + (lS x).length + 1) :: (.word "from", i + 8 + (lS x).length + 1 + (numS c).length + 1) :: (.sign "(", i + 8 + (lS x).length + 1 + (numS c).length + 6) :: (tks (i + 8 + (lS x).length + 1 + (numS c).length + 7) a.pcs ++ [(.sign ")", i + 8 + (lS x).length + 1 + (numS c).length + 7 + plen a.pcs)]) := by
      show (Tk.word "iterate", i) :: (Tk.name x, i + 8) :: (Tk.num c 1, i + 8 + (lS x).length + 1) :: (Tk.word "from", _) :: (Tk.sign "(", _) :: tks (i + 8 + (lS x).length + 1 + (numS c).length + 7) (a.pcs ++ [RP]) = _
      rw [tks_app]
      rfl
    rw [e]
    exact up0 (xp_iter ho.1 ha)
  | .pow a k, n, i, ho, hn => by
    have hn : 3 * (1 + a.dep) ≤ n := hn
    obtain ⟨m, rfl⟩ : ∃ m, n = m + 1 := ⟨n - 1, by omega⟩
    have ha := xp_parenN (j := i + 1 + plen a.pcs) (i := i) (xe_of (ex_read a m (i + 1) ho.2 (by omega)))
    have e : tks i (Ex.pow a k).pcs = ((.sign "(", i) :: (tks (i + 1) a.pcs ++ [(.sign ")", i + 1 + plen a.pcs)])) ++ (.sign "^", i + 1 + plen a.pcs + 1) :: tks (i + 1 + plen a.pcs + 1 + 1) (iPc k) := by
      show (Tk.sign "(", i) :: tks (i + 1) (a.pcs ++ RP :: .sign 8 :: iPc k) = _
      rw [tks_app]
      simp only [List.append_assoc, List.cons_append, List.nil_append]
      rfl
    rw [e]
    exact xp_pow ho.1 ha
  | .not a, n, i, ho, hn => by
    have hn : 3 * (1 + a.dep) ≤ n := hn
    obtain ⟨m, rfl⟩ : ∃ m, n = m + 3 := ⟨n - 3, by omega⟩
    have ha := xq_paren (j := i + 6 + plen a.pcs) (i := i + 5) (xe_of (ex_read a m (i + 6) ho (by omega)))
    have h3 := up3 (first_par _ _) (up2 (up1 ha))
    have h5 := both_word (ex_not (i := i + 1) h3)
    have e : tks i (Ex.not a).pcs = (.sign "(", i) :: (((.word "not", i + 1) :: (.sign "(", i + 5) :: (tks (i + 6) a.pcs ++ [(.sign ")", i + 6 + plen a.pcs)])) ++ [(.sign ")", i + 6 + plen a.pcs + 1)]) := by
      show (Tk.sign "(", i) :: (Tk.word "not", i + 1) :: (Tk.sign "(", i + 5) :: tks (i + 6) (a.pcs ++ [RP, RP]) = _
      rw [tks_app]
      simp only [List.append_assoc, List.cons_append, List.nil_append]
      rfl
    rw [e]
    exact xq_paren h5
  | .ite c a b, n, i, ho, hn => by
    have hn : 3 * (1 + max c.dep (max a.dep b.dep)) ≤ n := hn
    obtain ⟨m, rfl⟩ : ∃ m, n = m + 2 := ⟨n - 2, by omega⟩
    have hc := xe_of (ex_read c m (i + 4) ho.1 (by omega))
    have ha := xe_of (ex_read a m (i + 4 + plen c.pcs + 6) ho.2.1 (by omega))
    have hb := xe_of (ex_read b m (i + 4 + plen c.pcs + 6 + plen a.pcs + 6) ho.2.2 (by omega))
    have e : tks i (Ex.ite c a b).pcs = (.sign "(", i) :: (((.word "if", i + 1) :: (tks (i + 4) c.pcs ++ (.word "then", i + 4 + plen c.pcs + 1) :: (tks (i + 4 + plen c.pcs + 6) a.pcs ++ (.word "else", i + 4 + plen c.pcs + 6 + plen a.pcs + 1) :: tks (i + 4 + plen c.pcs + 6 + plen a.pcs + 6) b.pcs))) ++ [(.sign ")", i + 4 + plen c.pcs + 6 + plen a.pcs + 6 + plen b.pcs)]) := by
      show (Tk.sign "(", i) :: (Tk.word "if", i + 1) :: tks (i + 4) (c.pcs ++ .sp :: .word "then" :: .sp :: (a.pcs ++ .sp :: .word "else" :: .sp :: (b.pcs ++ [RP]))) = _
      rw [tks_app]
      show _ :: _ :: (_ ++ (Tk.word "then", _) :: tks (i + 4 + plen c.pcs + 6) (a.pcs ++ .sp :: .word "else" :: .sp :: (b.pcs ++ [RP]))) = _
      rw [tks_app]
      show _ :: _ :: (_ ++ (Tk.word "then", _) :: (_ ++ (Tk.word "else", _) :: tks (i + 4 + plen c.pcs + 6 + plen a.pcs + 6) (b.pcs ++ [RP]))) = _
      rw [tks_app]
      simp only [List.append_assoc, List.cons_append, List.nil_append]
      rfl
    rw [e]
    exact xq_paren (ex_if hc ha hb)
  | .lett x a b, n, i, ho, hn => by
    have hn : 3 * (1 + max a.dep b.dep) ≤ n := hn
    obtain ⟨m, rfl⟩ : ∃ m, n = m + 2 := ⟨n - 2, by omega⟩
    have ha := xe_of (ex_read a m (i + 5 + (lS x).length + 3) ho.1 (by omega))
    have hb := xe_of (ex_read b m (i + 5 + (lS x).length + 3 + plen a.pcs + 4) ho.2 (by omega))
    have e : tks i (Ex.lett x a b).pcs = (.sign "(", i) :: (((.word "let", i + 1) :: (.name x, i + 5) :: (.sign "=", i + 5 + (lS x).length + 1) :: (tks (i + 5 + (lS x).length + 3) a.pcs ++ (.word "in", i + 5 + (lS x).length + 3 + plen a.pcs + 1) :: tks (i + 5 + (lS x).length + 3 + plen a.pcs + 4) b.pcs)) ++ [(.sign ")", i + 5 + (lS x).length + 3 + plen a.pcs + 4 + plen b.pcs)]) := by
      show (Tk.sign "(", i) :: (Tk.word "let", i + 1) :: (Tk.name x, i + 5) :: (Tk.sign "=", _) :: tks (i + 5 + (lS x).length + 3) (a.pcs ++ .sp :: .word "in" :: .sp :: (b.pcs ++ [RP])) = _
      rw [tks_app]
      show _ :: _ :: _ :: _ :: (_ ++ (Tk.word "in", _) :: tks (i + 5 + (lS x).length + 3 + plen a.pcs + 4) (b.pcs ++ [RP])) = _
      rw [tks_app]
      simp only [List.append_assoc, List.cons_append, List.nil_append]
      rfl
    rw [e]
    exact xq_paren (ex_let ha hb)
  | .op o a b, n, i, ho, hn => by
    have hn : 3 * (1 + max a.dep b.dep) ≤ n := hn
    obtain ⟨m, rfl⟩ : ∃ m, n = m + 3 := ⟨n - 3, by omega⟩
    have ha := xq_paren (j := i + 2 + plen a.pcs) (i := i + 1) (xe_of (ex_read a (m + 1) (i + 2) ho.1 (by omega)))
    have hb := xq_paren (j := i + 2 + plen a.pcs + 2 + (lS o.txt).length + 2 + plen b.pcs) (i := i + 2 + plen a.pcs + 2 + (lS o.txt).length + 1) (xe_of (ex_read b m (i + 2 + plen a.pcs + 2 + (lS o.txt).length + 2) ho.2 (by omega)))
    have h := xp_chain (j := i + 2 + plen a.pcs + 2) (p := o) (first_par _ _) (first_par _ _) ha hb
    have e : tks i (Ex.op o a b).pcs = (.sign "(", i) :: ((((.sign "(", i + 1) :: (tks (i + 2) a.pcs ++ [(.sign ")", i + 2 + plen a.pcs)])) ++ (o.tk, i + 2 + plen a.pcs + 2) :: ((.sign "(", i + 2 + plen a.pcs + 2 + (lS o.txt).length + 1) :: (tks (i + 2 + plen a.pcs + 2 + (lS o.txt).length + 2) b.pcs ++ [(.sign ")", i + 2 + plen a.pcs + 2 + (lS o.txt).length + 2 + plen b.pcs)]))) ++ [(.sign ")", i + 2 + plen a.pcs + 2 + (lS o.txt).length + 2 + plen b.pcs + 1)]) := by
      show (Tk.sign "(", i) :: (Tk.sign "(", i + 1) :: tks (i + 2) (a.pcs ++ RP :: .sp :: o.pc :: .sp :: LP :: (b.pcs ++ [RP, RP])) = _
      rw [tks_app]
      show _ :: _ :: (_ ++ (Tk.sign ")", _) :: tks (i + 2 + plen a.pcs + 2) (o.pc :: .sp :: LP :: (b.pcs ++ [RP, RP]))) = _
      rw [tks_op]
      show _ :: _ :: (_ ++ (Tk.sign ")", _) :: (o.tk, _) :: (Tk.sign "(", _) :: tks (i + 2 + plen a.pcs + 2 + (lS o.txt).length + 2) (b.pcs ++ [RP, RP])) = _
      rw [tks_app]
      simp only [List.append_assoc, List.cons_append, List.nil_append]
      rfl
    rw [e]
    exact xq_paren h
end
end Al
namespace Al
open PySem PySem.Spec PyProof.Rows L2 NdefX PySem.W
/-! ### k01: lines and programs read -/
abbrev Pm : Type := Str × Option Un
inductive Ln where
  | base
  | unit (u : Un)
  | fn (ps : List Pm) (t : Option Un) (e : Ex)
  | shw (e : Ex) (t : Option Un)
/-- a product behind a colon -/
def oPc : Option Un → List Pc
  | none => []
  | some u => .sign 11 :: .sp :: uPc u
def pmPc (p : Pm) : List Pc := .name p.1 :: oPc p.2
def pmsPc : List Pm → List Pc
  | [] => []
  | [p] => pmPc p
  | p :: r => pmPc p ++ .sign 9 :: .sp :: pmsPc r
def inPc : Option Un → List Pc
  | none => []
  | some u => .sp :: .word "in" :: .sp :: uPc u
def Ln.pcs : Ln → List Pc
  | .base => [.word "base", .sp, .name "m", .sign 10]
  | .unit u => .word "unit" :: .sp :: .name "km" :: .sp :: .sign 2 :: .sp :: nPc 1 :: .sp :: (uPc u ++ [.sign 10])
  | .fn ps t e => .word "fun" :: .sp :: .name "f" :: LP :: (pmsPc ps ++ RP :: (oPc t ++ .sp :: .sign 2 :: .sp :: (e.pcs ++ [.sign 10])))
  | .shw e t => .word "show" :: .sp :: (e.pcs ++ (inPc t ++ [.sign 10]))
def oTr (t : Option Un) (j : Nat) : PyData := match t with
  | none => .none
  | some u => .tuple (uIt u j)
def pmIt : List Pm → Nat → List PyData
  | [], _ => []
  | p :: r, j => .tuple [.str p.1, oTr p.2 (j + (lS p.1).length + 3)] :: pmIt r (j + plen (pmPc p) + 2)
def Ln.tree : Ln → Nat → PyData
  | .base, i => .tuple [.str "base", .str "m", .int (i : Int)]
  | .unit u, i => .tuple [.str "unit", .str "km", .tuple [.int 25, .int 10], .tuple (uIt u (i + 15)), .int (i : Int)]
  | .fn ps t e, i => .tuple [.str "fun", .str "f", .tuple (pmIt ps (i + 6)), oTr t (i + 6 + plen (pmsPc ps) + 4), e.tree (i + 6 + plen (pmsPc ps) + 1 + plen (oPc t) + 3), .int (i : Int)]
  | .shw e t, i => .tuple [.str "show", e.tree (i + 5), oTr t (i + 5 + plen e.pcs + 5), .int (i : Int)]
def oOk : Option Un → Prop
  | none => True
  | some u => uOk u
def Ln.ok : Ln → Prop
  | .base => True
  | .unit u => uOk u
  | .fn ps t e => (∀ p ∈ ps, oOk p.2) ∧ oOk t ∧ e.ok ∧ e.dep ≤ 7
  | .shw e t => e.ok ∧ e.dep ≤ 7 ∧ oOk t
section
variable {L n : Nat} {s : Bool} {α β : Type}
theorem semi_rd {v : PyData} {j : Nat} : Rd L true (pSemi L v) [] [(.sign ";", j)] v := by
  unfold pSemi
  exact rd_expC (by decide +kernel) (by decide +kernel) (Rd.pure (by simp))
theorem semi_dd {v : PyData} : Dd L true (pSemi L v) := by
  unfold pSemi
  exact Dd.bind (dd_exp (by decide +kernel)) (fun h => by cases h)
/-- a product that may be told -/
def pOpt (L : Nat) (k v : Str) : Pr PyData := pAcc k v >>= fun b => if b = true then pProd L else pure .none
theorem opt_dd {k v : Str} (hb : seesB [(.word "base", 0)] k v = false) : Dd L false (pOpt L k v) := dd_acc hb Dd.pure
theorem opt_none {v : Str} : Rd L false (pOpt L "sign" v) [.sign v] [] .none := rd_accN (Rd.pure (by simp)) (by simp)
theorem opt_noneW {v : Str} (hv : v ≠ "base") : Rd L false (pOpt L "word" v) [.word v] [] .none := rd_accW (Rd.pure (by simp; exact fun h => hv h.symm)) (by simp)
theorem opt_some {k v : Str} {t : Tk} {u : Un} {i j : Nat} (hu : uOk u) (h : seesB [(t, 0)] k v = true) (hb : seesB [(.word "base", 0)] k v = false) : Rd L false (pOpt L k v) [] ((t, i) :: tks j (uPc u)) (.tuple (uIt u (j + 1))) :=
  rd_accT h hb (rd_prod hu j).weak Dd.pure
/-- parameters -/
theorem parL_dd {acc : List PyData} : Dd L true (pParL L acc) := by
  rw [pParL.eq_def]
  exact Dd.bind (dd_read (by decide +kernel)) (fun h => by cases h)
theorem rd_pms : ∀ (ps : List Pm) (acc : List PyData) (i : Nat), ps ≠ [] → (∀ p ∈ ps, oOk p.2) → Rd L true (pParL L acc) [] (tks i (pmsPc ps ++ [RP])) (.tuple (acc ++ pmIt ps i))
  | [], _, _, h, _ => absurd rfl h
  | p :: r, acc, i, _, hp => by
    obtain ⟨x, t⟩ := p
    have ht : oOk t := hp (x, t) List.mem_cons_self
    have ih := fun h acc i => rd_pms r acc i h fun q hq => hp q (List.mem_cons_of_mem _ hq)
    let tr := oTr t (i + (lS x).length + 3)
    -- what stands behind the product
    have rest : ∃ U, tks i (pmsPc ((x, t) :: r) ++ [RP]) = (.name x, i) :: (tks (i + (lS x).length) (oPc t) ++ U) ∧ (∃ k j V, U = (k, j) :: V ∧ k ≠ .sign ":") ∧
        Rd L true (pAcc "sign" "," >>= fun b => if b = true then pParL L (acc ++ [.tuple [.str x, tr]]) else pExp L "sign" ")" >>= fun _ => pure (.tuple (acc ++ [.tuple [.str x, tr]]))) [] U (.tuple (acc ++ pmIt ((x, t) :: r) i)) := by
      have el : plen (pmPc (x, t)) = (lS x).length + plen (oPc t) := List.length_append
      cases r with
      | nil =>
        refine ⟨[(.sign ")", i + (lS x).length + plen (oPc t))], ?_, ⟨_, _, _, rfl, by decide⟩, ?_⟩
        · show (Tk.name x, i) :: tks (i + (lS x).length) (oPc t ++ [RP]) = _
          rw [tks_app]; rfl
        · exact rd_accF (by decide +kernel) (by decide +kernel) (rd_expC (by decide +kernel) (by decide +kernel) (Rd.pure (by simp)))
      | cons y r =>
        refine ⟨(.sign ",", i + (lS x).length + plen (oPc t)) :: tks (i + plen (pmPc (x, t)) + 2) (pmsPc (y :: r) ++ [RP]), ?_, ⟨_, _, _, rfl, by decide⟩, ?_⟩
        · show (Tk.name x, i) :: tks (i + (lS x).length) ((oPc t ++ .sign 9 :: .sp :: pmsPc (y :: r)) ++ [RP]) = _
          rw [List.append_assoc, tks_app, el, ← Nat.add_assoc]
          rfl
        · have h := ih (by simp) (acc ++ [.tuple [.str x, tr]]) (i + plen (pmPc (x, t)) + 2)
          have ev : (acc ++ [.tuple [.str x, tr]]) ++ pmIt (y :: r) (i + plen (pmPc (x, t)) + 2) = acc ++ pmIt ((x, t) :: y :: r) i := by simp [pmIt, tr]
          rw [ev] at h
          exact rd_accT (by decide +kernel) (by decide +kernel) h ((exp_dd1 (by decide +kernel)))
    obtain ⟨U, e, ⟨k, j, V, eU, hk⟩, hU⟩ := rest
    rw [e, pParL.eq_def]
    refine rd_readC rfl (by decide +kernel) ?_
    have hdd : ∀ v', Dd L true (pAcc "sign" "," >>= fun b => if b = true then pParL L (acc ++ [.tuple [.str x, v']]) else pExp L "sign" ")" >>= fun _ => pure (.tuple (acc ++ [.tuple [.str x, v']]))) := fun v' => dd_acc (by decide +kernel) (exp_dd1 (by decide +kernel))
    have hfree : ∀ R, Free [] R → Free [Tk.sign ":"] (U ++ R) := fun R _ => by
      rw [eU]
      exact Free.cons (by simp; exact hk)
    cases t with
    | none => exact (opt_none (L := L) (v := ":")).bind hU (fun _ v' => hdd v') hfree
    | some u => exact (opt_some (L := L) (k := "sign") (v := ":") (t := .sign ":") ht (by decide +kernel) (by decide +kernel)).bind hU (fun _ v' => hdd v') free0
theorem rd_pars {ps : List Pm} (hp : ∀ p ∈ ps, oOk p.2) (i : Nat) : Rd L true (pPars L) [] (tks i (LP :: (pmsPc ps ++ [RP]))) (.tuple (pmIt ps (i + 1))) := by
  unfold pPars
  refine rd_expC (t := .sign "(") (by decide +kernel) (by decide +kernel) ?_
  cases ps with
  | nil => exact rd_accT (by decide +kernel) (by decide +kernel) (Rd.pure (by simp)) parL_dd
  | cons p r =>
    have h := rd_pms (L := L) (p :: r) [] (i + 1) (by simp) hp
    have e : ∃ j V, tks (i + 1) (pmsPc (p :: r) ++ [RP]) = (.name p.1, j) :: V := by
      cases r with
      | nil => exact ⟨_, _, rfl⟩
      | cons q r => exact ⟨_, _, rfl⟩
    obtain ⟨j, V, e⟩ := e
    rw [e] at h
    show Rd L true _ [] (tks (i + 1) (pmsPc (p :: r) ++ [RP])) _
    rw [e]
    exact rd_accF rfl (by decide +kernel) h
end
end Al
namespace Al
open PySem PySem.Spec PyProof.Rows L2 NdefX PySem.W
/-! ### k01: lines and programs read, to the end -/
structure RdL (L : Nat) (T : TS1) (v : PyData) : Prop where
  ok : ∀ R, pLine L (T ++ R) = some (.ok (v, R))
  cut : ∀ A x B D, A ≠ [] → T = A ++ x :: B → Dead D → pLine L (A ++ D) = some (.error (.mal (atP L D)))
section
variable {L : Nat}
theorem rdL_of {t : Tk} {i : Nat} {T : TS1} {body : Pr PyData} {v : PyData} (h : ∀ X, pLine L ((t, i) :: X) = body X) (hb : Rd L true body [] T v) : RdL L ((t, i) :: T) v := by
  refine ⟨fun R => ?_, fun A x B D hA e hD => ?_⟩
  · rw [List.cons_append, h]
    exact hb.ok R fun t _ h => by cases h
  · cases A with
    | nil => exact absurd rfl hA
    | cons a A =>
      injection e with e1 e2
      subst e1
      rw [List.cons_append, h]
      rcases hb.cut A x B D e2 hD with h | ⟨h, _⟩
      · exact h
      · cases h
theorem pcs_base (i : Nat) : RdL L (tks i Ln.base.pcs) (Ln.base.tree i) := by
  refine rdL_of (t := .word "base") (T := [(.name "m", i + 5), (.sign ";", i + 6)]) (body := pRead L "name" >>= fun name => pSemi L (.tuple [.str "base", name, .int (i : Int)])) (fun X => ?_) (rd_readC rfl (by decide +kernel) semi_rd)
  unfold pLine
  rw [e_at, e_accT (by rfl)]
  rfl
theorem pcs_unit {u : Un} (hu : uOk u) (i : Nat) : RdL L (tks i (Ln.unit u).pcs) ((Ln.unit u).tree i) := by
  have e : tks i (Ln.unit u).pcs = (.word "unit", i) :: (.name "km", i + 5) :: (.sign "=", i + 8) :: (.num 25 10, i + 10) :: (tks (i + 14) (uPc u) ++ [(.sign ";", i + 14 + plen (uPc u))]) := by
    show (Tk.word "unit", i) :: (Tk.name "km", i + 5) :: (Tk.sign "=", i + 8) :: (Tk.num 25 10, i + 10) :: tks (i + 14) (uPc u ++ [.sign 10]) = _
    rw [tks_app]
    rfl
  rw [e]
  refine rdL_of (body := pRead L "name" >>= fun name => pExp L "sign" "=" >>= fun _ => pRead L "number" >>= fun v => pProd L >>= fun u => pSemi L (.tuple [.str "unit", name, v, u, .int (i : Int)])) (fun X => ?_) ?_
  · unfold pLine
    rw [e_at, e_accF (by rfl), e_accT (by rfl)]
    rfl
  · exact rd_readC rfl (by decide +kernel) (rd_expC (by decide +kernel) (by decide +kernel) (rd_readC rfl (by decide +kernel) ((rd_prod hu (i + 14)).bind semi_rd (fun h => by cases h) free0)))
theorem pcs_fn {ps : List Pm} {t : Option Un} {e : Ex} (hp : ∀ p ∈ ps, oOk p.2) (ht : oOk t) (he : e.ok) (hd : e.dep ≤ 7) (i : Nat) : RdL L (tks i (Ln.fn ps t e).pcs) ((Ln.fn ps t e).tree i) := by
  generalize hj : i + 6 + plen (pmsPc ps) + 1 = j
  have hx := xe_of (ex_read (L := L) e 23 (j + plen (oPc t) + 3) he (by omega))
  have e0 : tks i (Ln.fn ps t e).pcs = (.word "fun", i) :: (.name "f", i + 4) :: (tks (i + 5) (LP :: (pmsPc ps ++ [RP])) ++ (tks j (oPc t) ++ (.sign "=", j + plen (oPc t) + 1) :: (tks (j + plen (oPc t) + 3) e.pcs ++ [(.sign ";", j + plen (oPc t) + 3 + plen e.pcs)]))) := by
    have e1 : (Ln.fn ps t e).pcs = .word "fun" :: .sp :: .name "f" :: ((LP :: (pmsPc ps ++ [RP])) ++ (oPc t ++ .sp :: .sign 2 :: .sp :: (e.pcs ++ [.sign 10]))) := by simp [Ln.pcs]
    rw [e1]
    show (Tk.word "fun", i) :: (Tk.name "f", i + 4) :: tks (i + 5) ((LP :: (pmsPc ps ++ [RP])) ++ (oPc t ++ .sp :: .sign 2 :: .sp :: (e.pcs ++ [.sign 10]))) = _
    have el : i + 5 + plen (LP :: (pmsPc ps ++ [RP])) = j := by
      have : plen (LP :: (pmsPc ps ++ [RP])) = 1 + (plen (pmsPc ps) + 1) := by
        show (ren (LP :: (pmsPc ps ++ [RP]))).length = _
        show (LP.w ++ ren (pmsPc ps ++ [RP])).length = _
        rw [List.length_append, ren_app, List.length_append]
        rfl
      omega
    rw [tks_app, tks_app, el]
    show _ :: _ :: (_ ++ (_ ++ (Tk.sign "=", _) :: tks (j + plen (oPc t) + 3) (e.pcs ++ [.sign 10]))) = _
    rw [tks_app]
    rfl
  rw [e0]
  have hpars := rd_pars (L := L) hp (i + 5)
  refine rdL_of (body := pRead L "name" >>= fun name => pPars L >>= fun ps => pOpt L "sign" ":" >>= fun u => pExp L "sign" "=" >>= fun _ => pExpr L 23 >>= fun e => pSemi L (.tuple [.str "fun", name, ps, u, e, .int (i : Int)])) (fun X => ?_) ?_
  · unfold pLine
    rw [e_at, e_accF (by rfl), e_accF (by rfl), e_accT (by rfl)]
    rfl
  · refine rd_readC rfl (by decide +kernel) (hpars.bind ?_ (fun h => by cases h) free0)
    have tail : ∀ u, Rd L true (pExp L "sign" "=" >>= fun _ => pExpr L 23 >>= fun e => pSemi L (.tuple [.str "fun", .str "f", .tuple (pmIt ps (i + 5 + 1)), u, e, .int (i : Int)])) [] ((.sign "=", j + plen (oPc t) + 1) :: (tks (j + plen (oPc t) + 3) e.pcs ++ [(.sign ";", j + plen (oPc t) + 3 + plen e.pcs)])) (.tuple [.str "fun", .str "f", .tuple (pmIt ps (i + 5 + 1)), u, e.tree (j + plen (oPc t) + 3), .int (i : Int)]) := fun u =>
      rd_expC (by decide +kernel) (by decide +kernel) (hx.bind semi_rd (fun _ v' => semi_dd) fun R _ => Free.cons (by decide +kernel))
    cases t with
    | none => 
      have h := (opt_none (L := L) (v := ":")).bind (q := fun u => pExp L "sign" "=" >>= fun _ => pExpr L 23 >>= fun e => pSemi L (.tuple [.str "fun", .str "f", .tuple (pmIt ps (i + 5 + 1)), u, e, .int (i : Int)])) (tail .none) (fun _ v' => exp_dd1 (by decide +kernel)) fun R _ => Free.cons (by decide +kernel)
      subst hj
      exact h
    | some u =>
      have h := (opt_some (L := L) (k := "sign") (v := ":") (t := .sign ":") (i := j) (j := j + 2) ht (by decide +kernel) (by decide +kernel)).bind (q := fun u => pExp L "sign" "=" >>= fun _ => pExpr L 23 >>= fun e => pSemi L (.tuple [.str "fun", .str "f", .tuple (pmIt ps (i + 5 + 1)), u, e, .int (i : Int)])) (tail _) (fun _ v' => exp_dd1 (by decide +kernel)) free0
      subst hj
      exact h
theorem pcs_shw {e : Ex} {t : Option Un} (he : e.ok) (hd : e.dep ≤ 7) (ht : oOk t) (i : Nat) : RdL L (tks i (Ln.shw e t).pcs) ((Ln.shw e t).tree i) := by
  have hx := xe_of (ex_read (L := L) e 23 (i + 5) he (by omega))
  have e0 : tks i (Ln.shw e t).pcs = (.word "show", i) :: (tks (i + 5) e.pcs ++ (tks (i + 5 + plen e.pcs) (inPc t) ++ [(.sign ";", i + 5 + plen e.pcs + plen (inPc t))])) := by
    show (Tk.word "show", i) :: tks (i + 5) (e.pcs ++ (inPc t ++ [.sign 10])) = _
    rw [tks_app, tks_app]
    rfl
  rw [e0]
  refine rdL_of (body := pExpr L 23 >>= fun e => pOpt L "word" "in" >>= fun u => pSemi L (.tuple [.str "show", e, u, .int (i : Int)])) (fun X => ?_) ?_
  · unfold pLine
    rw [e_at, e_accF (by rfl), e_accF (by rfl), e_accF (by rfl), e_exp (by rfl)]
    rfl
  · have dd : ∀ v', Dd L true (pOpt L "word" "in" >>= fun u => pSemi L (.tuple [.str "show", v', u, .int (i : Int)])) := fun v' => Dd.bind (opt_dd (by decide +kernel)) (fun _ _ => semi_dd)
    cases t with
    | none => exact hx.bind ((opt_noneW (L := L) (v := "in") (by decide)).bind semi_rd (fun _ _ => semi_dd) fun R _ => Free.cons (by decide +kernel)) (fun _ v' => dd v') fun R _ => Free.cons (by decide +kernel)
    | some u =>
      have ho := opt_some (L := L) (k := "word") (v := "in") (t := .word "in") (u := u) (i := i + 5 + plen e.pcs + 1) (j := i + 5 + plen e.pcs + 4) ht (by decide +kernel) (by decide +kernel)
      exact hx.bind (ho.bind semi_rd (fun _ _ => semi_dd) free0) (fun _ v' => dd v') fun R _ => Free.cons (by decide +kernel)
theorem ln_read (l : Ln) (hl : l.ok) (i : Nat) : RdL L (tks i l.pcs) (l.tree i) := by
  cases l with
  | base => exact pcs_base i
  | unit u => exact pcs_unit hl i
  | fn ps t e => exact pcs_fn hl.1 hl.2.1 hl.2.2.1 hl.2.2.2 i
  | shw e t => exact pcs_shw hl.1 hl.2.1 hl.2.2 i
def starts : List Tk := [.word "base", .word "unit", .word "fun", .word "show"]
theorem ln_first (l : Ln) (i : Nat) : ∃ t T, tks i l.pcs = (t, i) :: T ∧ t ∈ starts := by
  cases l with
  | base => exact ⟨_, _, rfl, by decide⟩
  | unit u => exact ⟨_, _, rfl, by decide⟩
  | fn ps t e => exact ⟨_, _, rfl, by decide⟩
  | shw e t => exact ⟨_, _, rfl, by decide⟩
def pgPc : List Ln → List Pc
  | [] => []
  | [l] => l.pcs
  | l :: r => l.pcs ++ .nl :: .sp :: pgPc r
def pgT : List Ln → Nat → List PyData
  | [], _ => []
  | l :: r, i => l.tree i :: pgT r (i + plen l.pcs + 2)
theorem pg_tks (l : Ln) (r : List Ln) (i : Nat) : tks i (pgPc (l :: r)) = tks i l.pcs ++ tks (i + plen l.pcs + 2) (pgPc r) := by
  cases r with
  | nil =>
    show tks i l.pcs = tks i l.pcs ++ []
    rw [List.append_nil]
  | cons y r =>
    show tks i (l.pcs ++ .nl :: .sp :: pgPc (y :: r)) = _
    rw [tks_app]
    rfl
theorem e_end {ts : TS1} : pEnd ts = some (.ok (ts.isEmpty, ts)) := rfl
theorem pg_read : ∀ (ls : List Ln) (acc : List PyData) (i : Nat), (∀ l ∈ ls, l.ok) → pLines L acc (tks i (pgPc ls)) = some (.ok (acc ++ pgT ls i, []))
  | [], acc, i, _ => by
    rw [pLines.eq_def, e_ok e_end]
    show (some (Except.ok (acc, [])) : Option (Except PErr (List PyData × TS1))) = some (Except.ok (acc ++ [], []))
    rw [List.append_nil]
  | l :: r, acc, i, h => by
    rw [pg_tks, pLines.eq_def, e_ok e_end]
    obtain ⟨t, T, e, _⟩ := ln_first l i
    have hne : (tks i l.pcs ++ tks (i + plen l.pcs + 2) (pgPc r)).isEmpty = false := by rw [e] <;> rfl
    rw [hne]
    show (pLine L >>= fun l => pLines L (acc ++ [l])) _ = _
    rw [e_ok ((ln_read l (h l List.mem_cons_self) i).ok _), pg_read r _ _ fun x hx => h x (List.mem_cons_of_mem _ hx)]
    simp [pgT]
theorem pg_cut : ∀ (ls : List Ln) (acc : List PyData) (i : Nat), (∀ l ∈ ls, l.ok) → ∀ A x B D, tks i (pgPc ls) = A ++ x :: B → x.1 ∉ starts → Dead D → pLines L acc (A ++ D) = some (.error (.mal (atP L D)))
  | [], acc, i, _, A, x, B, D, e, _, _ => by
    have e : [] = A ++ x :: B := e
    cases A <;> cases e
  | l :: r, acc, i, h, A, x, B, D, e, hx, hD => by
    have hl := ln_read (L := L) l (h l List.mem_cons_self) i
    obtain ⟨t, T, eT, ht⟩ := ln_first l i
    have hA : A ≠ [] := by
      intro hA
      subst hA
      rw [pg_tks, eT] at e
      injection e with e1 _
      rw [← e1] at hx
      exact hx ht
    have hne : (A ++ D).isEmpty = false := by
      cases A with
      | nil => exact absurd rfl hA
      | cons a A => rfl
    rw [pLines.eq_def, e_ok e_end, hne]
    show (pLine L >>= fun l => pLines L (acc ++ [l])) _ = _
    rw [pg_tks] at e
    rcases List.append_eq_append_iff.mp e with ⟨A2, ha, hb⟩ | ⟨B2, ha, hb⟩
    · rw [ha, List.append_assoc, e_ok (hl.ok (A2 ++ D))]
      exact pg_cut r _ _ (fun y hy => h y (List.mem_cons_of_mem _ hy)) A2 x B D hb hx hD
    · cases B2 with
      | nil =>
        rw [List.append_nil] at ha
        have hb : tks (i + plen l.pcs + 2) (pgPc r) = [] ++ x :: B := by simpa using hb.symm
        rw [← ha]
        rw [e_ok (hl.ok D)]
        exact pg_cut r _ _ (fun y hy => h y (List.mem_cons_of_mem _ hy)) [] x B D hb hx hD
      | cons y B2 => rw [e_err (hl.cut A y B2 D hA ha hD)]
/-- parentheses alone -/
theorem deep_ok : ∀ (d n i : Nat), d ≤ n → Rd L false (pExpr L n) (Bd 5) (tks i (List.replicate d LP ++ .word "true" :: List.replicate d RP)) (.tuple [.str "bool", .bool true])
  | 0, n, i, _ => xe_of (e := .bool true) (up0 (xp_bool true i))
  | d + 1, n, i, h => by
    obtain ⟨m, rfl⟩ : ∃ m, n = m + 1 := ⟨n - 1, by omega⟩
    have ih := deep_ok d m (i + 1) (by omega)
    have e : tks i (List.replicate (d + 1) LP ++ .word "true" :: List.replicate (d + 1) RP) = (.sign "(", i) :: (tks (i + 1) (List.replicate d LP ++ .word "true" :: List.replicate d RP) ++ [(.sign ")", i + 1 + plen (List.replicate d LP ++ .word "true" :: List.replicate d RP))]) := by
      have e1 : List.replicate (d + 1) LP ++ .word "true" :: List.replicate (d + 1) RP = LP :: ((List.replicate d LP ++ .word "true" :: List.replicate d RP) ++ [RP]) := by
        rw [List.replicate_succ, List.replicate_succ']
        simp
      rw [e1]
      show (Tk.sign "(", i) :: tks (i + 1) ((List.replicate d LP ++ .word "true" :: List.replicate d RP) ++ [RP]) = _
      rw [tks_app]
      rfl
    rw [e]
    exact up_to (first_par _ _) 5 0 rfl (xq_paren ih)
theorem deep_over : ∀ (d n i : Nat) (R : TS1), n < d → pExpr L n (tks i (List.replicate d LP) ++ R) = some (.error .over)
  | 0, n, i, R, h => by omega
  | d + 1, n, i, R, h => by
    have e : tks i (List.replicate (d + 1) LP) ++ R = (.sign "(", i) :: (tks (i + 1) (List.replicate d LP) ++ R) := rfl
    rw [e]
    have hp : pPrim L n ((.sign "(", i) :: (tks (i + 1) (List.replicate d LP) ++ R)) = some (.error .over) := by
      rw [pPrim.eq_def, e_at, e_accF (by rfl), e_accF (by rfl), e_accT (by rfl)]
      cases n with
      | zero => exact e_deep0
      | succ n =>
        rw [e_deep]
        exact e_err (deep_over d n (i + 1) R (by omega))
    have h0 : pPowers L n ((.sign "(", i) :: (tks (i + 1) (List.replicate d LP) ++ R)) = some (.error .over) := by unfold pPowers; exact e_err hp
    have h1 : pFactors L n ((.sign "(", i) :: (tks (i + 1) (List.replicate d LP) ++ R)) = some (.error .over) := by unfold pFactors; exact e_err h0
    have h2 : pTerms L n ((.sign "(", i) :: (tks (i + 1) (List.replicate d LP) ++ R)) = some (.error .over) := by unfold pTerms; exact e_err h1
    have h3 : pPlain L n ((.sign "(", i) :: (tks (i + 1) (List.replicate d LP) ++ R)) = some (.error .over) := by
      rw [pPlain.eq_def, e_at, e_accF (by rfl)]; exact e_err h2
    have h4 : pBoth L n ((.sign "(", i) :: (tks (i + 1) (List.replicate d LP) ++ R)) = some (.error .over) := by unfold pBoth; exact e_err h3
    rw [pExpr.eq_def, e_at, e_accF (by rfl), e_accF (by rfl)]
    exact e_err h4
end
end Al
namespace Al
open PySem PySem.Spec PyProof.Rows L2 NdefX PySem.W
/-! ### k01: pieces and their tokens in the text -/
def Pc.good : Pc → Prop
  | .sp => True
  | .nl => True
  | .word z => z ∈ RES ∧ tok1 (lS z) = some (.word z, (lS z).length)
  | .name z => nameOk z = true ∧ tok1 (lS z) = some (.name z, (lS z).length)
  | .num w a b => w ≠ [] ∧ tok1 w = some (.num a b, w.length) ∧ ∀ x R, Brk x → tok1 (w ++ x :: R) = some (.num a b, w.length)
  | .sign k => k < 16
/-- what may stand behind: nothing (none) or a sign of the text -/
def Pc.fol : Pc → Option Nat → Prop
  | .sp, _ => True
  | .nl, _ => True
  | .word _, c => ∀ x, c = some x → Brk x
  | .name _, c => ∀ x, c = some x → Brk x
  | .num _ _ _, c => ∀ x, c = some x → Brk x
  | .sign k, c => k = 2 ∨ k = 3 → c = some 32
theorem Pc.w_ne {p : Pc} (h : p.good) : p.w ≠ [] := by
  cases p with
  | sp => intro h; cases h
  | nl => intro h; cases h
  | word z =>
    intro q
    obtain ⟨⟨a, h1, h2⟩, _⟩ := RES_facts _ h.1
    have q : lS z = [] := q
    rw [q] at h1; cases h1
  | name z =>
    intro q
    have q : lS z = [] := q
    have h := h.1
    unfold nameOk at h
    rw [q] at h; cases h
  | num w a b => exact h.1
  | sign k =>
    have hs : ∀ g ∈ SIG, lS g ≠ [] := by decide +kernel
    exact hs _ (getD_mem (show k < SIG.length from h))
def fc : List Pc → Option Nat → Option Nat
  | [], x => x
  | p :: ps, x => match p.w with
    | [] => fc ps x
    | c :: _ => some c
def LexOk : List Pc → Option Nat → Prop
  | [], _ => True
  | p :: ps, x => p.good ∧ p.fol (fc ps x) ∧ LexOk ps x
theorem fc_ren : ∀ (ps : List Pc) (R : List Nat), (ren ps ++ R).head? = fc ps R.head?
  | [], R => rfl
  | p :: ps, R => by
    show ((p.w ++ ren ps) ++ R).head? = _
    unfold fc
    cases h : p.w with
    | nil => rw [List.nil_append]; exact fc_ren ps R
    | cons c w => rfl
theorem tok_piece {p : Pc} {t : Tk} {R : List Nat} (hg : p.good) (ht : p.t = some t) (hf : p.fol R.head?) : tok1 (p.w ++ R) = some (t, p.w.length) := by
  cases p with
  | sp => cases ht
  | nl => cases ht
  | word z =>
    cases ht
    cases R with
    | nil => rw [List.append_nil]; exact hg.2
    | cons x R => exact res_lexB hg.1 (hf x rfl)
  | name z =>
    cases ht
    cases R with
    | nil => rw [List.append_nil]; exact hg.2
    | cons x R => exact name_lexB hg.1 (hf x rfl)
  | num w a b =>
    cases ht
    cases R with
    | nil => rw [List.append_nil]; exact hg.2.1
    | cons x R => exact hg.2.2 x R (hf x rfl)
  | sign k =>
    cases ht
    by_cases h : k = 2 ∨ k = 3
    · have hx := hf h
      cases R with
      | nil => cases hx
      | cons x R =>
        have : x = 32 := Option.some.inj hx
        subst this
        exact sign_lex hg (.inl rfl)
    · exact sign_lexA hg (fun e => h (.inl e)) (fun e => h (.inr e))
theorem lex_pcs : ∀ (ps : List Pc) {i : Nat} {R : List Nat} {ts : TS1} {e : Option Nat}, LexOk ps R.head? → Lex (i + plen ps) R ts e → Lex i (ren ps ++ R) (tks i ps ++ ts) e
  | [], i, R, ts, e, _, h => h
  | p :: ps, i, R, ts, e, hl, h => by
    obtain ⟨h1, h2, h3⟩ := hl
    have el : plen (p :: ps) = p.w.length + plen ps := List.length_append
    rw [el, ← Nat.add_assoc] at h
    have ih := lex_pcs ps h3 h
    have er : ren (p :: ps) ++ R = p.w ++ (ren ps ++ R) := List.append_assoc ..
    rw [er]
    rw [← fc_ren] at h2
    cases ht : p.t with
    | none =>
      have e2 : tks i (p :: ps) = tks (i + p.w.length) ps := by
        show (match p.t with | some t => (t, i) :: tks (i + p.w.length) ps | none => tks (i + p.w.length) ps) = _
        rw [ht]
      rw [e2]
      cases p with
      | sp => exact .sp rfl ih
      | nl => exact .sp rfl ih
      | word z => cases ht
      | name z => cases ht
      | num w a b => cases ht
      | sign k => cases ht
    | some t =>
      have e2 : tks i (p :: ps) = (t, i) :: tks (i + p.w.length) ps := by
        show (match p.t with | some t => (t, i) :: tks (i + p.w.length) ps | none => tks (i + p.w.length) ps) = _
        rw [ht]
      rw [e2]
      exact lex_tok (tok_piece h1 ht h2) (Pc.w_ne h1) ih
theorem lexOk_app : ∀ (p q : List Pc) (x : Option Nat), LexOk (p ++ q) x ↔ LexOk p (fc q x) ∧ LexOk q x
  | [], q, x => by simp [LexOk]
  | a :: p, q, x => by
    have ih := lexOk_app p q x
    have ef : fc (p ++ q) x = fc p (fc q x) := by
      clear ih
      induction p with
      | nil => rfl
      | cons b p ih =>
        show (match b.w with | [] => fc (p ++ q) x | c :: _ => some c) = (match b.w with | [] => fc p (fc q x) | c :: _ => some c)
        cases b.w with
        | nil => exact ih
        | cons c w => rfl
    show (a.good ∧ a.fol (fc (p ++ q) x) ∧ LexOk (p ++ q) x) ↔ (a.good ∧ a.fol (fc p (fc q x)) ∧ LexOk p (fc q x)) ∧ LexOk q x
    rw [ih, ef]
    constructor
    · rintro ⟨a, b, c, d⟩; exact ⟨⟨a, b, c⟩, d⟩
    · rintro ⟨⟨a, b, c⟩, d⟩; exact ⟨a, b, c, d⟩
/-- a blank may stand behind whatever was well before -/
theorem lexOk_blank : ∀ (p : List Pc) (x : Option Nat), LexOk p x → LexOk p (some 32)
  | [], _, _ => trivial
  | a :: p, x, ⟨h1, h2, h3⟩ => by
    refine ⟨h1, ?_, lexOk_blank p x h3⟩
    have b32 : Brk 32 := brk_of (by decide)
    cases p with
    | nil =>
      show a.fol (some 32)
      cases a with
      | sp => trivial
      | nl => trivial
      | word z => exact fun y hy => by cases hy; exact b32
      | name z => exact fun y hy => by cases hy; exact b32
      | num w a b => exact fun y hy => by cases hy; exact b32
      | sign k => exact fun _ => rfl
    | cons b p =>
      have e : fc (b :: p) x = fc (b :: p) (some 32) := by
        have hb : b.good := h3.1
        unfold fc
        cases hw : b.w with
        | nil => exact absurd hw (Pc.w_ne hb)
        | cons c w => rfl
      rw [← e]
      exact h2
/-- the pieces ahead of a token -/
theorem tks_split : ∀ (ps : List Pc) (i : Nat) (A : TS1) (x : Tk × Nat) (B : TS1), tks i ps = A ++ x :: B → ∃ p1 q p2, ps = p1 ++ q :: p2 ∧ q.t = some x.1 ∧ x.2 = i + plen p1 ∧ tks i p1 = A
  | [], i, A, x, B, h => by
    have h : [] = A ++ x :: B := h
    cases A <;> cases h
  | p :: ps, i, A, x, B, h => by
    have e : tks i (p :: ps) = (match p.t with | some t => (t, i) :: tks (i + p.w.length) ps | none => tks (i + p.w.length) ps) := rfl
    have el : ∀ p1, plen (p :: p1) = p.w.length + plen p1 := fun p1 => List.length_append
    cases ht : p.t with
    | none =>
      rw [e, ht] at h
      obtain ⟨p1, q, p2, h1, h2, h3, h4⟩ := tks_split ps _ A x B h
      refine ⟨p :: p1, q, p2, by rw [h1]; rfl, h2, by rw [el, h3]; omega, ?_⟩
      show (match p.t with | some t => (t, i) :: tks (i + p.w.length) p1 | none => tks (i + p.w.length) p1) = A
      rw [ht]
      exact h4
    | some t =>
      rw [e, ht] at h
      cases A with
      | nil =>
        injection h with h1 h2
        exact ⟨[], p, ps, rfl, by rw [ht, ← h1], by rw [← h1]; rfl, rfl⟩
      | cons a A =>
        injection h with h1 h2
        obtain ⟨p1, q, p2, g1, g2, g3, g4⟩ := tks_split ps _ A x B h2
        refine ⟨p :: p1, q, p2, by rw [g1]; rfl, g2, by rw [el, g3]; omega, ?_⟩
        show (match p.t with | some t => (t, i) :: tks (i + p.w.length) p1 | none => tks (i + p.w.length) p1) = a :: A
        rw [ht, ← h1]
        exact congrArg _ g4
/-! ### the law's pieces are well -/
theorem num_good (c : Nat) (hc : c ≤ 20) : (Pc.num (numS c) c 1).good := by
  have h : ∀ c ≤ 20, digV (numS c) = c ∧ (numS c).length ≤ 6 ∧ tok1 (numS c) = some (.num c 1, (numS c).length) := by decide +kernel
  obtain ⟨h1, h2, h3⟩ := h c hc
  refine ⟨numS_ne c, h3, fun x R hx => ?_⟩
  have := int_lexB (R := R) (numS_ne c) (numS_digits c) h2 hx
  rw [h1] at this
  exact this
theorem nPc_good (k : Nat) (hk : k < 5) : (nPc k).good := by
  have two : ∀ (sh pt : List Nat), sh ≠ [] → (∀ a ∈ sh, isDigit a = true) → (∀ a ∈ pt, isDigit a = true) → sh.length ≤ 6 → pt.length ≤ 4 → ∀ x R, Brk x → tok1 ((sh ++ (if pt = [] then [] else [46]) ++ pt) ++ x :: R) = some (.num (digV (sh ++ pt)) (10 ^ pt.length), (sh ++ (if pt = [] then [] else [46]) ++ pt).length) :=
    fun sh pt h0 h1 h2 h3 h4 x R hx => num_lexB h0 h1 h2 h3 h4 hx
  match k, hk with
  | 0, _ => exact ⟨by decide +kernel, by decide +kernel, fun x R hx => two (lS "5") [] (by decide +kernel) (by decide +kernel) (by decide +kernel) (by decide +kernel) (by decide +kernel) x R hx⟩
  | 1, _ => exact ⟨by decide +kernel, by decide +kernel, fun x R hx => two (lS "2") (lS "5") (by decide +kernel) (by decide +kernel) (by decide +kernel) (by decide +kernel) (by decide +kernel) x R hx⟩
  | 2, _ => exact ⟨by decide +kernel, by decide +kernel, fun x R hx => two (lS "0") [] (by decide +kernel) (by decide +kernel) (by decide +kernel) (by decide +kernel) (by decide +kernel) x R hx⟩
  | 3, _ => exact ⟨by decide +kernel, by decide +kernel, fun x R hx => two (lS "999999") [] (by decide +kernel) (by decide +kernel) (by decide +kernel) (by decide +kernel) (by decide +kernel) x R hx⟩
  | 4, _ => exact ⟨by decide +kernel, by decide +kernel, fun x R hx => two (lS "0") (lS "1234") (by decide +kernel) (by decide +kernel) (by decide +kernel) (by decide +kernel) (by decide +kernel) x R hx⟩
  | k + 5, h => omega
theorem word_good {z : Str} (h : z ∈ RES) : (Pc.word z).good := by
  have : ∀ z ∈ RES, tok1 (lS z) = some (.word z, (lS z).length) := by decide +kernel
  exact ⟨h, this z h⟩
def NMS : List Str := ["x", "y_1", "Q", "m", "kg", "u2", "km", "f", "y"]
theorem name_good {z : Str} (h : z ∈ NMS) : (Pc.name z).good := by
  have : ∀ z ∈ NMS, nameOk z = true ∧ tok1 (lS z) = some (.name z, (lS z).length) := by decide +kernel
  exact this z h
end Al
namespace Al
open PySem PySem.Spec PyProof.Rows L2 NdefX PySem.W
/-! ### k01: the law's texts are well, and read as they should -/
def uNm (u : Un) : Prop := ∀ q ∈ u, q.1 ∈ NMS
def Ex.nm : Ex → Prop
  | .num _ u => uNm u
  | .bool _ => True
  | .var x => x ∈ NMS
  | .call0 x => x ∈ NMS
  | .call1 x a => x ∈ NMS ∧ a.nm
  | .call2 x a b => x ∈ NMS ∧ a.nm ∧ b.nm
  | .iter x _ a => x ∈ NMS ∧ a.nm
  | .pow a _ => a.nm
  | .not a => a.nm
  | .ite c a b => c.nm ∧ a.nm ∧ b.nm
  | .lett x a b => x ∈ NMS ∧ a.nm ∧ b.nm
  | .op _ a b => a.nm ∧ b.nm
def oNm : Option Un → Prop
  | none => True
  | some u => uNm u
def Ln.nm : Ln → Prop
  | .base => True
  | .unit u => uNm u
  | .fn ps t e => (∀ p ∈ ps, p.1 ∈ NMS ∧ oNm p.2) ∧ oNm t ∧ e.nm
  | .shw e t => e.nm ∧ oNm t
def BrkO (x : Option Nat) : Prop := ∀ c, x = some c → Brk c
theorem brkO {c : Nat} (h : (!inName c && (!isDigit c && !decide (c = 46))) = true) : BrkO (some c) := fun y hy => by cases hy; exact brk_of h
theorem sg {k : Nat} (hk : k < 16) (h2 : k ≠ 2) (h3 : k ≠ 3) {ps : List Pc} {x : Option Nat} (h : LexOk ps x) : LexOk (.sign k :: ps) x := ⟨hk, fun h => by omega, h⟩
theorem spc {ps : List Pc} {x : Option Nat} (h : LexOk ps x) : LexOk (.sp :: ps) x := ⟨trivial, trivial, h⟩
theorem wdc {z : Str} (hz : z ∈ RES) {ps : List Pc} {x : Option Nat} (hf : BrkO (fc ps x)) (h : LexOk ps x) : LexOk (.word z :: ps) x := ⟨word_good hz, hf, h⟩
theorem nmc {z : Str} (hz : z ∈ NMS) {ps : List Pc} {x : Option Nat} (hf : BrkO (fc ps x)) (h : LexOk ps x) : LexOk (.name z :: ps) x := ⟨name_good hz, hf, h⟩
theorem fc_sp {ps : List Pc} {x : Option Nat} : BrkO (fc (.sp :: ps) x) := brkO (c := 32) (by decide)
theorem fc_rp {ps : List Pc} {x : Option Nat} : BrkO (fc (RP :: ps) x) := brkO (c := 41) (by decide)
theorem fc_lp {ps : List Pc} {x : Option Nat} : BrkO (fc (LP :: ps) x) := brkO (c := 40) (by decide)
theorem fc_semi {ps : List Pc} {x : Option Nat} : BrkO (fc (.sign 10 :: ps) x) := brkO (c := 59) (by decide)
theorem fc_rb {ps : List Pc} {x : Option Nat} : BrkO (fc (.sign 15 :: ps) x) := brkO (c := 93) (by decide)
theorem fc_comma {ps : List Pc} {x : Option Nat} : BrkO (fc (.sign 9 :: ps) x) := brkO (c := 44) (by decide)
theorem fc_colon {ps : List Pc} {x : Option Nat} : BrkO (fc (.sign 11 :: ps) x) := brkO (c := 58) (by decide)
theorem fc_hat {ps : List Pc} {x : Option Nat} : BrkO (fc (.sign 8 :: ps) x) := brkO (c := 94) (by decide)
theorem iPc_lex {p : Int} (hp : p.natAbs ≤ 20) {ps : List Pc} {x : Option Nat} (hf : BrkO (fc ps x)) (h : LexOk ps x) : LexOk (iPc p ++ ps) x := by
  unfold iPc
  split
  · exact sg (k := 5) (by decide) (by decide) (by decide) ⟨num_good _ hp, hf, h⟩
  · exact ⟨num_good _ hp, hf, h⟩
theorem ePc_lex {p : Int} (hp : p.natAbs ≤ 9) {ps : List Pc} {x : Option Nat} (hf : BrkO (fc ps x)) (h : LexOk ps x) : LexOk (ePc p ++ ps) x ∧ BrkO (fc (ePc p ++ ps) x) := by
  unfold ePc
  split
  · exact ⟨h, hf⟩
  · exact ⟨sg (k := 8) (by decide) (by decide) (by decide) (iPc_lex (by omega) hf h), fc_hat⟩
theorem uIn_lex : ∀ (u : Un), uOk u → uNm u → ∀ {ps : List Pc} {x : Option Nat}, BrkO (fc ps x) → LexOk ps x → LexOk (uIn u ++ ps) x
  | [], _, _, ps, x, _, h => h
  | [(z, p)], ho, hn, ps, x, hf, h => by
    obtain ⟨h1, h2⟩ := ePc_lex (ho (z, p) (by simp)) hf h
    exact nmc (hn (z, p) (by simp)) h2 h1
  | (z, p) :: y :: r, ho, hn, ps, x, hf, h => by
    have ih := uIn_lex (y :: r) (fun q hq => ho q (List.mem_cons_of_mem _ hq)) (fun q hq => hn q (List.mem_cons_of_mem _ hq)) hf h
    obtain ⟨h1, h2⟩ := ePc_lex (p := p) (ho (z, p) (by simp)) fc_sp (spc ih)
    have e : uIn ((z, p) :: y :: r) ++ ps = .name z :: (ePc p ++ .sp :: (uIn (y :: r) ++ ps)) := by simp [uIn]
    rw [e]
    exact nmc (hn (z, p) (by simp)) h2 h1
theorem uPc_lex {u : Un} (ho : uOk u) (hn : uNm u) {ps : List Pc} {x : Option Nat} (h : LexOk ps x) : LexOk (uPc u ++ ps) x := by
  have e : uPc u ++ ps = .sign 14 :: (uIn u ++ .sign 15 :: ps) := by simp [uPc]
  rw [e]
  exact sg (by decide) (by decide) (by decide) (uIn_lex u ho hn fc_rb (sg (by decide) (by decide) (by decide) h))
theorem op_lex2 (o : Op2) {ps : List Pc} {x : Option Nat} (h : LexOk ps x) : LexOk (o.pc :: .sp :: ps) x := by
  have hs := spc h
  cases o with
  | or => exact wdc (by decide +kernel) fc_sp hs
  | and => exact wdc (by decide +kernel) fc_sp hs
  | lt => exact ⟨by show 3 < 16; decide, fun _ => rfl, hs⟩
  | le => exact sg (by decide) (by decide) (by decide) hs
  | eq => exact sg (by decide) (by decide) (by decide) hs
  | add => exact sg (by decide) (by decide) (by decide) hs
  | sub => exact sg (by decide) (by decide) (by decide) hs
  | mul => exact sg (by decide) (by decide) (by decide) hs
  | div => exact sg (by decide) (by decide) (by decide) hs
theorem lp_lex {ps : List Pc} {x : Option Nat} (h : LexOk ps x) : LexOk (LP :: ps) x := sg (by decide) (by decide) (by decide) h
theorem rp_lex {ps : List Pc} {x : Option Nat} (h : LexOk ps x) : LexOk (RP :: ps) x := sg (by decide) (by decide) (by decide) h
theorem ex_lex : ∀ (e : Ex), e.ok → e.nm → ∀ {ps : List Pc} {x : Option Nat}, BrkO (fc ps x) → LexOk ps x → LexOk (e.pcs ++ ps) x
  | .num k u, ho, hn, ps, x, hf, h => by
    show LexOk (nPc k :: ((if u = [] then [] else .sp :: uPc u) ++ ps)) x
    split
    · exact ⟨nPc_good k ho.1, hf, h⟩
    · exact ⟨nPc_good k ho.1, fc_sp, spc (uPc_lex ho.2 hn h)⟩
  | .bool b, _, _, ps, x, hf, h => by
    cases b
    · exact wdc (by decide +kernel) hf h
    · exact wdc (by decide +kernel) hf h
  | .var z, _, hn, ps, x, hf, h => nmc hn hf h
  | .call0 z, _, hn, ps, x, hf, h => nmc hn fc_lp (lp_lex (rp_lex h))
  | .call1 z a, ho, hn, ps, x, hf, h => by
    have := ex_lex a ho hn.2 fc_rp (rp_lex h)
    have e : (Ex.call1 z a).pcs ++ ps = .name z :: LP :: (a.pcs ++ RP :: ps) := by simp [Ex.pcs]
    rw [e]
    exact nmc hn.1 fc_lp (lp_lex this)
  | .call2 z a b, ho, hn, ps, x, hf, h => by
    have hb := ex_lex b ho.2 hn.2.2 fc_rp (rp_lex h)
    have ha := ex_lex a ho.1 hn.2.1 fc_comma (sg (k := 9) (by decide) (by decide) (by decide) (spc hb))
    have e : (Ex.call2 z a b).pcs ++ ps = .name z :: LP :: (a.pcs ++ .sign 9 :: .sp :: (b.pcs ++ RP :: ps)) := by simp [Ex.pcs]
    rw [e]
    exact nmc hn.1 fc_lp (lp_lex ha)
  | .iter z c a, ho, hn, ps, x, hf, h => by
    have ha := ex_lex a ho.2 hn.2 fc_rp (rp_lex h)
    have e : (Ex.iter z c a).pcs ++ ps = .word "iterate" :: .sp :: .name z :: .sp :: .num (numS c) c 1 :: .sp :: .word "from" :: .sp :: LP :: (a.pcs ++ RP :: ps) := by simp [Ex.pcs]
    rw [e]
    exact wdc (by decide +kernel) fc_sp (spc (nmc hn.1 fc_sp (spc ⟨num_good c ho.1, fc_sp, spc (wdc (by decide +kernel) fc_sp (spc (lp_lex ha)))⟩)))
  | .pow a k, ho, hn, ps, x, hf, h => by
    have ha := ex_lex a ho.2 hn fc_rp (rp_lex (sg (k := 8) (by decide) (by decide) (by decide) (iPc_lex (p := k) (by have := ho.1; omega) hf h)))
    have e : (Ex.pow a k).pcs ++ ps = LP :: (a.pcs ++ RP :: .sign 8 :: (iPc k ++ ps)) := by simp [Ex.pcs]
    rw [e]
    exact lp_lex ha
  | .not a, ho, hn, ps, x, hf, h => by
    have ha := ex_lex a ho hn fc_rp (rp_lex (rp_lex h))
    have e : (Ex.not a).pcs ++ ps = LP :: .word "not" :: .sp :: LP :: (a.pcs ++ RP :: RP :: ps) := by simp [Ex.pcs]
    rw [e]
    exact lp_lex (wdc (by decide +kernel) fc_sp (spc (lp_lex ha)))
  | .ite c a b, ho, hn, ps, x, hf, h => by
    have hb := ex_lex b ho.2.2 hn.2.2 fc_rp (rp_lex h)
    have ha := ex_lex a ho.2.1 hn.2.1 fc_sp (spc (wdc (z := "else") (by decide +kernel) fc_sp (spc hb)))
    have hc := ex_lex c ho.1 hn.1 fc_sp (spc (wdc (z := "then") (by decide +kernel) fc_sp (spc ha)))
    have e : (Ex.ite c a b).pcs ++ ps = LP :: .word "if" :: .sp :: (c.pcs ++ .sp :: .word "then" :: .sp :: (a.pcs ++ .sp :: .word "else" :: .sp :: (b.pcs ++ RP :: ps))) := by simp [Ex.pcs]
    rw [e]
    exact lp_lex (wdc (by decide +kernel) fc_sp (spc hc))
  | .lett z a b, ho, hn, ps, x, hf, h => by
    have hb := ex_lex b ho.2 hn.2.2 fc_rp (rp_lex h)
    have ha := ex_lex a ho.1 hn.2.1 fc_sp (spc (wdc (z := "in") (by decide +kernel) fc_sp (spc hb)))
    have e : (Ex.lett z a b).pcs ++ ps = LP :: .word "let" :: .sp :: .name z :: .sp :: .sign 2 :: .sp :: (a.pcs ++ .sp :: .word "in" :: .sp :: (b.pcs ++ RP :: ps)) := by simp [Ex.pcs]
    rw [e]
    exact lp_lex (wdc (by decide +kernel) fc_sp (spc (nmc hn.1 fc_sp (spc ⟨by show 2 < 16; decide, fun _ => rfl, spc ha⟩))))
  | .op o a b, ho, hn, ps, x, hf, h => by
    have hb := ex_lex b ho.2 hn.2 fc_rp (rp_lex (rp_lex h))
    have ha := ex_lex a ho.1 hn.1 fc_rp (rp_lex (spc (op_lex2 o (lp_lex hb))))
    have e : (Ex.op o a b).pcs ++ ps = LP :: LP :: (a.pcs ++ RP :: .sp :: o.pc :: .sp :: LP :: (b.pcs ++ RP :: RP :: ps)) := by simp [Ex.pcs]
    rw [e]
    exact lp_lex (lp_lex ha)
theorem oPc_lex {t : Option Un} (ho : oOk t) (hn : oNm t) {ps : List Pc} {x : Option Nat} (hf : BrkO (fc ps x)) (h : LexOk ps x) : LexOk (oPc t ++ ps) x ∧ BrkO (fc (oPc t ++ ps) x) := by
  cases t with
  | none => exact ⟨h, hf⟩
  | some u =>
    have e : oPc (some u) ++ ps = .sign 11 :: .sp :: (uPc u ++ ps) := rfl
    rw [e]
    exact ⟨sg (by decide) (by decide) (by decide) (spc (uPc_lex ho hn h)), fc_colon⟩
theorem pms_lex : ∀ (l : List Pm), (∀ p ∈ l, oOk p.2) → (∀ p ∈ l, p.1 ∈ NMS ∧ oNm p.2) → ∀ {ps : List Pc} {x : Option Nat}, BrkO (fc ps x) → LexOk ps x → LexOk (pmsPc l ++ ps) x
  | [], _, _, ps, x, _, h => h
  | [p], ho, hn, ps, x, hf, h => by
    obtain ⟨h1, h2⟩ := oPc_lex (ho p (by simp)) (hn p (by simp)).2 hf h
    exact nmc (hn p (by simp)).1 h2 h1
  | p :: y :: r, ho, hn, ps, x, hf, h => by
    have ih := pms_lex (y :: r) (fun q hq => ho q (List.mem_cons_of_mem _ hq)) (fun q hq => hn q (List.mem_cons_of_mem _ hq)) hf h
    obtain ⟨h1, h2⟩ := oPc_lex (ho p (by simp)) (hn p (by simp)).2 fc_comma (sg (k := 9) (by decide) (by decide) (by decide) (spc ih))
    have e : pmsPc (p :: y :: r) ++ ps = .name p.1 :: (oPc p.2 ++ .sign 9 :: .sp :: (pmsPc (y :: r) ++ ps)) := by simp [pmsPc, pmPc]
    rw [e]
    exact nmc (hn p (by simp)).1 h2 h1
theorem ln_lex (l : Ln) (ho : l.ok) (hn : l.nm) {ps : List Pc} {x : Option Nat} (h : LexOk ps x) : LexOk (l.pcs ++ ps) x := by
  have hs : LexOk (.sign 10 :: ps) x := sg (by decide) (by decide) (by decide) h
  cases l with
  | base => exact wdc (by decide +kernel) fc_sp (spc (nmc (by decide +kernel) fc_semi hs))
  | unit u =>
    have e : (Ln.unit u).pcs ++ ps = .word "unit" :: .sp :: .name "km" :: .sp :: .sign 2 :: .sp :: nPc 1 :: .sp :: (uPc u ++ .sign 10 :: ps) := by simp [Ln.pcs]
    rw [e]
    exact wdc (by decide +kernel) fc_sp (spc (nmc (by decide +kernel) fc_sp (spc ⟨by show 2 < 16; decide, fun _ => rfl, spc ⟨nPc_good 1 (by decide), fc_sp, spc (uPc_lex ho hn hs)⟩⟩)))
  | fn pms t e =>
    have he := ex_lex e ho.2.2.1 hn.2.2 fc_semi hs
    obtain ⟨h1, h2⟩ := oPc_lex ho.2.1 hn.2.1 fc_sp (spc (ps := .sign 2 :: .sp :: (e.pcs ++ .sign 10 :: ps)) ⟨by show 2 < 16; decide, fun _ => rfl, spc he⟩)
    have h3 := pms_lex pms ho.1 hn.1 fc_rp (rp_lex h1)
    have e2 : (Ln.fn pms t e).pcs ++ ps = .word "fun" :: .sp :: .name "f" :: LP :: (pmsPc pms ++ RP :: (oPc t ++ .sp :: .sign 2 :: .sp :: (e.pcs ++ .sign 10 :: ps))) := by simp [Ln.pcs]
    rw [e2]
    exact wdc (by decide +kernel) fc_sp (spc (nmc (by decide +kernel) fc_lp (lp_lex h3)))
  | shw e t =>
    have ht : LexOk (inPc t ++ .sign 10 :: ps) x ∧ BrkO (fc (inPc t ++ .sign 10 :: ps) x) := by
      cases t with
      | none => exact ⟨hs, fc_semi⟩
      | some u => exact ⟨spc (wdc (z := "in") (by decide +kernel) fc_sp (spc (uPc_lex ho.2.2 hn.2 hs))), fc_sp⟩
    have he := ex_lex e ho.1 hn.1 ht.2 ht.1
    have e2 : (Ln.shw e t).pcs ++ ps = .word "show" :: .sp :: (e.pcs ++ (inPc t ++ .sign 10 :: ps)) := by simp [Ln.pcs]
    rw [e2]
    exact wdc (by decide +kernel) fc_sp (spc he)
theorem pg_lex : ∀ (ls : List Ln), (∀ l ∈ ls, l.ok) → (∀ l ∈ ls, l.nm) → ∀ x, LexOk (pgPc ls) x
  | [], _, _, _ => trivial
  | [l], ho, hn, x => by
    have := ln_lex l (ho l (by simp)) (hn l (by simp)) (ps := []) (x := x) trivial
    rw [List.append_nil] at this
    exact this
  | l :: y :: r, ho, hn, x => ln_lex l (ho l (by simp)) (hn l (by simp)) ⟨trivial, trivial, spc (pg_lex (y :: r) (fun q hq => ho q (List.mem_cons_of_mem _ hq)) (fun q hq => hn q (List.mem_cons_of_mem _ hq)) x)⟩
/-! ### what the law asks of parse -/
section
variable {ls : List Ln} (ho : ∀ l ∈ ls, l.ok) (hn : ∀ l ∈ ls, l.nm)
include ho hn
theorem k1_text : Lex 0 (ren (pgPc ls)) (tks 0 (pgPc ls)) none := by
  have := lex_pcs (pgPc ls) (i := 0) (R := []) (ts := []) (e := none) (pg_lex ls ho hn none) .nil
  rw [List.append_nil, List.append_nil] at this
  exact this
theorem k1_base {A : TS1} {x : Tk × Nat} {B : TS1} (h : tks 0 (pgPc ls) = A ++ x :: B) (hx : x.1 ∉ starts) : x.2 ≤ (ren (pgPc ls)).length ∧
    ∃ ts, Lex 0 ((ren (pgPc ls)).take x.2 ++ lS " base " ++ (ren (pgPc ls)).drop x.2) ts none ∧ ∀ L, pLines L [] ts = some (.error (.mal (x.2 + 1))) := by
  obtain ⟨p1, q, p2, h1, h2, h3, h4⟩ := tks_split _ _ _ _ _ h
  have hr : ren (pgPc ls) = ren p1 ++ ren (q :: p2) := by rw [h1, ren_app]
  have hl : x.2 = (ren p1).length := by rw [h3, Nat.zero_add]; rfl
  have htake : (ren (pgPc ls)).take x.2 = ren p1 := by rw [hr, hl, List.take_left]
  have hdrop : (ren (pgPc ls)).drop x.2 = ren (q :: p2) := by rw [hr, hl, List.drop_left]
  have hlo := pg_lex ls ho hn none
  rw [h1, lexOk_app] at hlo
  refine ⟨by rw [hr, hl, List.length_append]; omega, A ++ (.word "base", x.2 + 1) :: tks (x.2 + 6) (q :: p2), ?_, fun L => ?_⟩
  · rw [htake, hdrop]
    have hl2 : LexOk (p1 ++ .sp :: .word "base" :: .sp :: q :: p2) none := by
      rw [lexOk_app]
      exact ⟨lexOk_blank p1 _ hlo.1, spc (wdc (by decide +kernel) fc_sp (spc hlo.2))⟩
    have := lex_pcs (p1 ++ .sp :: .word "base" :: .sp :: q :: p2) (i := 0) (R := []) (ts := []) (e := none) hl2 .nil
    rw [List.append_nil, List.append_nil, tks_app, h4] at this
    have e1 : ren (p1 ++ .sp :: .word "base" :: .sp :: q :: p2) = ren p1 ++ lS " base " ++ ren (q :: p2) := by
      rw [ren_app, List.append_assoc]
      rfl
    have e2 : tks (0 + plen p1) (.sp :: .word "base" :: .sp :: q :: p2) = (.word "base", x.2 + 1) :: tks (x.2 + 6) (q :: p2) := by
      rw [← h3]
      rfl
    rw [e1, e2] at this
    exact this
  · exact pg_cut ls [] 0 ho A x B _ h hx (.inr ⟨_, _, rfl⟩)
theorem k1_end (hne : ls ≠ []) : ∃ ts, Lex 0 ((ren (pgPc ls)).take ((ren (pgPc ls)).length - 1)) ts none ∧ pLines ((ren (pgPc ls)).length - 1) [] ts = some (.error (.mal ((ren (pgPc ls)).length - 1))) := by
  have hlast : ∀ ls : List Ln, ls ≠ [] → ∃ ps, pgPc ls = ps ++ [.sign 10] := by
    intro ls
    induction ls with
    | nil => intro h; exact absurd rfl h
    | cons l r ih =>
      intro _
      cases r with
      | nil =>
        cases l with
        | base => exact ⟨[.word "base", .sp, .name "m"], rfl⟩
        | unit u => exact ⟨.word "unit" :: .sp :: .name "km" :: .sp :: .sign 2 :: .sp :: nPc 1 :: .sp :: uPc u, rfl⟩
        | fn ps t e => exact ⟨.word "fun" :: .sp :: .name "f" :: LP :: (pmsPc ps ++ RP :: (oPc t ++ .sp :: .sign 2 :: .sp :: e.pcs)), by simp [pgPc, Ln.pcs]⟩
        | shw e t => exact ⟨.word "show" :: .sp :: (e.pcs ++ inPc t), by simp [pgPc, Ln.pcs]⟩
      | cons y r =>
        obtain ⟨ps, hps⟩ := ih (by simp)
        exact ⟨l.pcs ++ .nl :: .sp :: ps, by show l.pcs ++ .nl :: .sp :: pgPc (y :: r) = _; rw [hps]; simp⟩
  obtain ⟨ps, hps⟩ := hlast ls hne
  have hr : ren (pgPc ls) = ren ps ++ [59] := by rw [hps, ren_app]; rfl
  have hl : (ren (pgPc ls)).length - 1 = (ren ps).length := by rw [hr, List.length_append]; rfl
  have htake : (ren (pgPc ls)).take ((ren (pgPc ls)).length - 1) = ren ps := by rw [hl, hr, List.take_left]
  have hlo := pg_lex ls ho hn none
  rw [hps, lexOk_app] at hlo
  have hend : ∀ (p : List Pc), LexOk p (some 59) → LexOk p none := by
    intro p
    induction p with
    | nil => intro _; trivial
    | cons a p ih =>
      rintro ⟨h1, h2, h3⟩
      refine ⟨h1, ?_, ih h3⟩
      cases p with
      | nil =>
        have h2 : a.fol (some 59) := h2
        show a.fol none
        cases a with
        | sp => trivial
        | nl => trivial
        | word z => exact fun y hy => by cases hy
        | name z => exact fun y hy => by cases hy
        | num w a b => exact fun y hy => by cases hy
        | sign k => exact fun h => absurd (h2 h) (by decide)
      | cons b p =>
        have e : fc (b :: p) (some 59) = fc (b :: p) none := by
          have hb : b.good := h3.1
          unfold fc
          cases hw : b.w with
          | nil => exact absurd hw (Pc.w_ne hb)
          | cons c w => rfl
        rw [← e]
        exact h2
  refine ⟨tks 0 ps, ?_, ?_⟩
  · rw [htake]
    have := lex_pcs ps (i := 0) (R := []) (ts := []) (e := none) (hend ps hlo.1) .nil
    rw [List.append_nil, List.append_nil] at this
    exact this
  · have ht : tks 0 (pgPc ls) = tks 0 ps ++ [(.sign ";", plen ps)] := by rw [hps, tks_app, Nat.zero_add]; rfl
    have := pg_cut (L := (ren (pgPc ls)).length - 1) ls [] 0 ho (tks 0 ps) _ [] [] ht (show ¬ Tk.sign ";" ∈ starts by decide) (.inl rfl)
    rw [List.append_nil] at this
    exact this
end
end Al
namespace Al
open PySem PySem.Spec PyProof.Rows L2 NdefX PySem.W
/-! ### k01: deep parentheses -/
def dpPc (d : Nat) : List Pc := .word "show" :: .sp :: (List.replicate d LP ++ .word "true" :: (List.replicate d RP ++ [.sign 10]))
theorem rep_lp (d : Nat) {ps : List Pc} {x : Option Nat} (h : LexOk ps x) : LexOk (List.replicate d LP ++ ps) x := by
  induction d with
  | zero => exact h
  | succ d ih => rw [List.replicate_succ]; exact lp_lex ih
theorem rep_rp (d : Nat) {ps : List Pc} {x : Option Nat} (h : LexOk ps x) : LexOk (List.replicate d RP ++ ps) x := by
  induction d with
  | zero => exact h
  | succ d ih => rw [List.replicate_succ]; exact rp_lex ih
theorem dp_lex (d : Nat) : Lex 0 (ren (dpPc d)) (tks 0 (dpPc d)) none := by
  have h0 : LexOk (List.replicate d RP ++ [.sign 10]) none := rep_rp d (sg (by decide) (by decide) (by decide) trivial)
  have hf : BrkO (fc (List.replicate d RP ++ [.sign 10]) none) := by
    cases d with
    | zero => exact fc_semi
    | succ d => rw [List.replicate_succ]; exact fc_rp
  have h1 : LexOk (dpPc d) none := wdc (by decide +kernel) fc_sp (spc (rep_lp d (wdc (by decide +kernel) hf h0)))
  have := lex_pcs (dpPc d) (i := 0) (R := []) (ts := []) (e := none) h1 .nil
  rw [List.append_nil, List.append_nil] at this
  exact this
theorem dp_tks (d : Nat) : tks 0 (dpPc d) = (.word "show", 0) :: (tks 5 (List.replicate d LP ++ .word "true" :: List.replicate d RP) ++ [(.sign ";", 5 + plen (List.replicate d LP ++ .word "true" :: List.replicate d RP))]) := by
  have e : dpPc d = .word "show" :: .sp :: ((List.replicate d LP ++ .word "true" :: List.replicate d RP) ++ [.sign 10]) := by simp [dpPc]
  rw [e]
  show (Tk.word "show", 0) :: tks 5 ((List.replicate d LP ++ .word "true" :: List.replicate d RP) ++ [.sign 10]) = _
  rw [tks_app]
  rfl
theorem dp_few {d L : Nat} (h : d < 24) : pLines L [] (tks 0 (dpPc d)) = some (.ok ([.tuple [.str "show", .tuple [.str "bool", .bool true], .none, .int ((0 : Nat) : Int)]], [])) := by
  have hx := (deep_ok (L := L) d 23 5 (by omega)).ok [(.sign ";", 5 + plen (List.replicate d LP ++ .word "true" :: List.replicate d RP))] (Free.cons (by decide +kernel))
  have hl : pLine L (tks 0 (dpPc d)) = some (.ok (.tuple [.str "show", .tuple [.str "bool", .bool true], .none, .int ((0 : Nat) : Int)], [])) := by
    rw [dp_tks]
    unfold pLine
    rw [e_at, e_accF, e_accF, e_accF, e_exp]
    · refine (e_ok hx).trans ?_
      rw [e_accF2, e_pure]
      · unfold pSemi
        rw [e_exp] <;> rfl
      all_goals rfl
    all_goals rfl
  rw [pLines.eq_def, e_ok e_end]
  have hne : (tks 0 (dpPc d)).isEmpty = false := by rw [dp_tks] <;> rfl
  rw [hne]
  show (pLine L >>= _) _ = _
  rw [e_ok hl, pLines.eq_def, e_ok e_end]
  rfl
theorem dp_many {d L : Nat} (h : 24 ≤ d) : pLines L [] (tks 0 (dpPc d)) = some (.error .over) := by
  have e : tks 0 (dpPc d) = (.word "show", 0) :: (tks 5 (List.replicate d LP) ++ tks (5 + plen (List.replicate d LP)) (.word "true" :: (List.replicate d RP ++ [.sign 10]))) := by
    show (Tk.word "show", 0) :: tks 5 (List.replicate d LP ++ .word "true" :: (List.replicate d RP ++ [.sign 10])) = _
    rw [tks_app]
  have hx := deep_over (L := L) d 23 5 (tks (5 + plen (List.replicate d LP)) (.word "true" :: (List.replicate d RP ++ [.sign 10]))) (by omega)
  have hl : pLine L (tks 0 (dpPc d)) = some (.error .over) := by
    rw [e]
    unfold pLine
    rw [e_at, e_accF, e_accF, e_accF, e_exp]
    · exact e_err hx
    all_goals rfl
  rw [pLines.eq_def, e_ok e_end]
  have hne : (tks 0 (dpPc d)).isEmpty = false := by rw [e] <;> rfl
  rw [hne]
  show (pLine L >>= _) _ = _
  rw [e_err hl]
/-! ### the trees but for their places -/
def isInt : PyData → Bool
  | .int _ => true
  | .bool _ => true
  | _ => false
def lastInt (ds : List PyData) : Bool := match ds.getLast? with
  | some d => isInt d
  | none => false
def bareR (z : Str) (ds fs : List PyData) : PyData := if z ∈ (["bool", "x", "y"] : List Str) then .tuple fs else if lastInt ds = true then .tuple (fs.dropLast ++ [.int 0]) else .tuple fs
def strOf : PyData → Option Str
  | .str z => some z
  | _ => none
def intAt (r : List PyData) : Option Int := match r.head? with
  | some (.int p) => some p
  | _ => none
def bareF (ds fs : List PyData) : PyData := match ds with
  | [] => .tuple []
  | d :: r => match strOf d with
    | none => .tuple fs
    | some z => if r.length = 2 then (match intAt r with
        | some p => .tuple [.str z, .int p, .int 0]
        | none => bareR z ds fs)
      else bareR z ds fs
mutual
def bareD : PyData → PyData
  | .tuple ds => bareF ds (bareL ds)
  | d => d
def bareL : List PyData → List PyData
  | [] => []
  | d :: ds => bareD d :: bareL ds
end
def uD0 : Un → List PyData
  | [] => []
  | (z, p) :: r => .tuple [.str z, .int p, .int 0] :: uD0 r
def Ex.d0 : Ex → PyData
  | .num k u => .tuple [.str "number", .tuple [.int (numA.getD k 0 : Nat), .int (numB.getD k 1 : Nat)], .tuple (uD0 u), .int 0]
  | .bool b => .tuple [.str "bool", .bool b]
  | .var x => .tuple [.str "var", .str x, .int 0]
  | .call0 x => .tuple [.str "call", .str x, .tuple [], .int 0]
  | .call1 x a => .tuple [.str "call", .str x, .tuple [a.d0], .int 0]
  | .call2 x a b => .tuple [.str "call", .str x, .tuple [a.d0, b.d0], .int 0]
  | .iter x c a => .tuple [.str "iterate", .str x, .int (c : Int), a.d0, .int 0]
  | .pow a k => .tuple [.str "power", a.d0, .int k, .int 0]
  | .not a => .tuple [.str "not", a.d0, .int 0]
  | .ite c a b => .tuple [.str "if", c.d0, a.d0, b.d0, .int 0]
  | .lett x a b => .tuple [.str "let", .str x, a.d0, b.d0, .int 0]
  | .op o a b => .tuple [.str o.head, a.d0, b.d0, .int 0]
def oD0 : Option Un → PyData
  | none => .none
  | some u => .tuple (uD0 u)
def pmD0 : List Pm → List PyData
  | [] => []
  | p :: r => .tuple [.str p.1, oD0 p.2] :: pmD0 r
def Ln.d0 : Ln → PyData
  | .base => .tuple [.str "base", .str "m", .int 0]
  | .unit u => .tuple [.str "unit", .str "km", .tuple [.int 25, .int 10], .tuple (uD0 u), .int 0]
  | .fn ps t e => .tuple [.str "fun", .str "f", .tuple (pmD0 ps), oD0 t, e.d0, .int 0]
  | .shw e t => .tuple [.str "show", e.d0, oD0 t, .int 0]
theorem bare_units (u : Un) : ∀ j, bareL (uIt u j) = uD0 u := by
  induction u with
  | nil => intro j; rfl
  | cons q u ih =>
    intro j
    obtain ⟨z, p⟩ := q
    show bareD (.tuple [.str z, .int p, .int (j : Int)]) :: bareL (uIt u _) = _
    rw [ih]
    rfl
theorem bare_utup (u : Un) (j : Nat) : bareD (.tuple (uIt u j)) = .tuple (uD0 u) := by
  show bareF (uIt u j) (bareL (uIt u j)) = _
  rw [bare_units]
  cases u with
  | nil => rfl
  | cons q u => rfl
theorem ex_head (e : Ex) (i : Nat) : ∃ z r, e.tree i = .tuple (.str z :: r) := by cases e <;> exact ⟨_, _, rfl⟩
theorem bare_args1 (a b : PyData) (z : Str) (r : List PyData) (h : a = .tuple (.str z :: r)) : bareD (.tuple [a]) = .tuple [bareD a] ∧ bareD (.tuple [a, b]) = .tuple [bareD a, bareD b] := by
  subst h
  exact ⟨rfl, rfl⟩
theorem bareD_tup (ds : List PyData) : bareD (.tuple ds) = bareF ds (bareL ds) := by rw [bareD]
theorem bareL_cons (d : PyData) (ds : List PyData) : bareL (d :: ds) = bareD d :: bareL ds := by rw [bareL]
theorem bareL_nil : bareL [] = [] := by rw [bareL]
theorem bareD_str (z : Str) : bareD (.str z) = .str z := rfl
theorem bareD_int (z : Int) : bareD (.int z) = .int z := rfl
theorem bareD_bool (b : Bool) : bareD (.bool b) = .bool b := rfl
/-- a node with a name ahead and its place behind -/
theorem bareF4 {z : Str} (hz : z ∉ (["bool", "x", "y"] : List Str)) (a b fa fb fz k fk : PyData) (j : Int) : bareF [.str z, a, b, .int j] [fz, fa, fb, fk] = .tuple [fz, fa, fb, .int 0] := by
  show bareR z _ _ = _
  unfold bareR
  rw [if_neg hz]
  rfl
theorem bareF5 {z : Str} (hz : z ∉ (["bool", "x", "y"] : List Str)) (a b c fa fb fc fz fk : PyData) (j : Int) : bareF [.str z, a, b, c, .int j] [fz, fa, fb, fc, fk] = .tuple [fz, fa, fb, fc, .int 0] := by
  show bareR z _ _ = _
  unfold bareR
  rw [if_neg hz]
  rfl
theorem bareF6 {z : Str} (hz : z ∉ (["bool", "x", "y"] : List Str)) (a b c d fa fb fc fd fz fk : PyData) (j : Int) : bareF [.str z, a, b, c, d, .int j] [fz, fa, fb, fc, fd, fk] = .tuple [fz, fa, fb, fc, fd, .int 0] := by
  show bareR z _ _ = _
  unfold bareR
  rw [if_neg hz]
  rfl
theorem bareF3 {z : Str} (hz : z ∉ (["bool", "x", "y"] : List Str)) (a fa fz fk : PyData) (j : Int) (ha : ∀ p, a ≠ .int p) : bareF [.str z, a, .int j] [fz, fa, fk] = .tuple [fz, fa, .int 0] := by
  have e : bareF [.str z, a, .int j] [fz, fa, fk] = bareR z [.str z, a, .int j] [fz, fa, fk] := by
    cases a with
    | int p => exact absurd rfl (ha p)
    | _ => rfl
  rw [e]
  unfold bareR
  rw [if_neg hz]
  rfl
theorem bare_ex : ∀ (e : Ex) (i : Nat), bareD (e.tree i) = e.d0
  | .num k u, i => by
    unfold Ex.tree Ex.d0
    rw [bareD_tup, bareL_cons, bareL_cons, bareL_cons, bareL_cons, bareL_nil, bare_utup, bareF4 (by decide) _ _ _ _ _ .none]
    rfl
  | .bool b, i => rfl
  | .var x, i => rfl
  | .call0 x, i => rfl
  | .call1 x a, i => by
    obtain ⟨z, r, h⟩ := ex_head a (i + (lS x).length + 1)
    unfold Ex.tree Ex.d0
    rw [bareD_tup, bareL_cons, bareL_cons, bareL_cons, bareL_cons, bareL_nil, (bare_args1 _ .none z r h).1, bare_ex a, bareF4 (by decide) _ _ _ _ _ .none]
    rfl
  | .call2 x a b, i => by
    obtain ⟨z, r, h⟩ := ex_head a (i + (lS x).length + 1)
    unfold Ex.tree Ex.d0
    rw [bareD_tup, bareL_cons, bareL_cons, bareL_cons, bareL_cons, bareL_nil, (bare_args1 _ _ z r h).2, bare_ex a, bare_ex b, bareF4 (by decide) _ _ _ _ _ .none]
    rfl
  | .iter x c a, i => by
    unfold Ex.tree Ex.d0
    rw [bareD_tup, bareL_cons, bareL_cons, bareL_cons, bareL_cons, bareL_cons, bareL_nil, bare_ex a, bareF5 (by decide)]
    rfl
  | .pow a k, i => by
    unfold Ex.tree Ex.d0
    rw [bareD_tup, bareL_cons, bareL_cons, bareL_cons, bareL_cons, bareL_nil, bare_ex a, bareF4 (by decide) _ _ _ _ _ .none]
    rfl
  | .not a, i => by
    obtain ⟨z, r, h⟩ := ex_head a (i + 6)
    unfold Ex.tree Ex.d0
    rw [bareD_tup, bareL_cons, bareL_cons, bareL_cons, bareL_nil, bare_ex a, bareF3 (by decide) _ _ _ _ _ (fun p e => by rw [h] at e; cases e)]
    rfl
  | .ite c a b, i => by
    unfold Ex.tree Ex.d0
    rw [bareD_tup, bareL_cons, bareL_cons, bareL_cons, bareL_cons, bareL_cons, bareL_nil, bare_ex c, bare_ex a, bare_ex b, bareF5 (by decide)]
    rfl
  | .lett x a b, i => by
    unfold Ex.tree Ex.d0
    rw [bareD_tup, bareL_cons, bareL_cons, bareL_cons, bareL_cons, bareL_cons, bareL_nil, bare_ex a, bare_ex b, bareF5 (by decide)]
    rfl
  | .op o a b, i => by
    unfold Ex.tree Ex.d0
    rw [bareD_tup, bareL_cons, bareL_cons, bareL_cons, bareL_cons, bareL_nil, bare_ex a, bare_ex b, bareF4 (by cases o <;> decide) _ _ _ _ _ .none]
    rfl
theorem bare_opt (t : Option Un) (j : Nat) : bareD (oTr t j) = oD0 t := by
  cases t with
  | none => rfl
  | some u => exact bare_utup u j
theorem bare_pms : ∀ (ps : List Pm) (j : Nat), (∀ p ∈ ps, p.1 ∈ (["x", "y"] : List Str)) → bareL (pmIt ps j) = pmD0 ps
  | [], j, _ => rfl
  | p :: r, j, h => by
    have hp : p.1 ∈ (["bool", "x", "y"] : List Str) := List.mem_cons_of_mem _ (h p List.mem_cons_self)
    show bareD (.tuple [.str p.1, oTr p.2 _]) :: bareL (pmIt r _) = _
    rw [bare_pms r _ fun q hq => h q (List.mem_cons_of_mem _ hq)]
    have e : bareD (.tuple [.str p.1, oTr p.2 (j + (lS p.1).length + 3)]) = .tuple [.str p.1, bareD (oTr p.2 (j + (lS p.1).length + 3))] := by
      show bareR p.1 _ _ = _
      unfold bareR
      rw [if_pos hp]
      rfl
    rw [e, bare_opt]
    rfl
theorem bare_ptup (ps : List Pm) (j : Nat) (h : ∀ p ∈ ps, p.1 ∈ (["x", "y"] : List Str)) : bareD (.tuple (pmIt ps j)) = .tuple (pmD0 ps) := by
  show bareF (pmIt ps j) (bareL (pmIt ps j)) = _
  rw [bare_pms ps j h]
  cases ps with
  | nil => rfl
  | cons p r => rfl
def Ln.pxy : Ln → Prop
  | .fn ps _ _ => ∀ p ∈ ps, p.1 ∈ (["x", "y"] : List Str)
  | _ => True
theorem bare_ln (l : Ln) (h : l.pxy) (i : Nat) : bareD (l.tree i) = l.d0 := by
  cases l with
  | base => rfl
  | unit u =>
    unfold Ln.tree Ln.d0
    rw [bareD_tup, bareL_cons, bareL_cons, bareL_cons, bareL_cons, bareL_cons, bareL_nil, bare_utup, bareF5 (by decide)]
    rfl
  | fn ps t e =>
    unfold Ln.tree Ln.d0
    rw [bareD_tup, bareL_cons, bareL_cons, bareL_cons, bareL_cons, bareL_cons, bareL_cons, bareL_nil, bare_ptup ps _ h, bare_opt, bare_ex, bareF6 (by decide)]
    rfl
  | shw e t =>
    unfold Ln.tree Ln.d0
    rw [bareD_tup, bareL_cons, bareL_cons, bareL_cons, bareL_cons, bareL_nil, bare_opt, bare_ex, bareF4 (by decide) _ _ _ _ _ .none]
    rfl
theorem bare_pg : ∀ (ls : List Ln) (i : Nat), (∀ l ∈ ls, l.pxy) → (pgT ls i).map bareD = ls.map Ln.d0
  | [], i, _ => rfl
  | l :: r, i, h => by
    show bareD (l.tree i) :: (pgT r _).map bareD = _
    rw [bare_ln l (h l List.mem_cons_self), bare_pg r _ fun x hx => h x (List.mem_cons_of_mem _ hx)]
    rfl
end Al
namespace Al
open PySem PySem.Spec PyProof.Rows L2 NdefX PySem.W
/-! ### k01: the marks -/
def At (txt : List Nat) (i : Nat) (w : List Nat) : Prop := ∃ P R, txt = P ++ (w ++ R) ∧ P.length = i
theorem At.app {txt : List Nat} {i : Nat} {a b : List Nat} (h : At txt i (a ++ b)) : At txt i a ∧ At txt (i + a.length) b := by
  obtain ⟨P, R, e, hl⟩ := h
  refine ⟨⟨P, b ++ R, by rw [e, List.append_assoc], hl⟩, P ++ a, R, by rw [e]; simp, by rw [List.length_append, hl]⟩
theorem At.slc {txt : List Nat} {i : Nat} {w : List Nat} (h : At txt i w) : (txt.drop i).take w.length = w ∧ i + w.length ≤ txt.length := by
  obtain ⟨P, R, e, hl⟩ := h
  subst hl
  rw [e, List.drop_left, List.take_left]
  refine ⟨rfl, ?_⟩
  rw [List.length_append, List.length_append]
  omega
theorem at_cons {txt : List Nat} {i : Nat} {p : Pc} {ps : List Pc} (h : At txt i (ren (p :: ps))) : At txt i p.w ∧ At txt (i + p.w.length) (ren ps) := At.app h
theorem at_app {txt : List Nat} {i : Nat} {p q : List Pc} (h : At txt i (ren (p ++ q))) : At txt i (ren p) ∧ At txt (i + plen p) (ren q) := by
  rw [ren_app] at h
  exact h.app
def sgTab : List (Str × Str) := [("add", "+"), ("sub", "-"), ("mul", "*"), ("div", "/"), ("lt", "<"), ("le", "<="), ("eq", "=="), ("power", "^")]
def mkW : List Str := ["if", "let", "iterate", "not", "and", "or", "show", "fun", "base", "unit"]
structure MkH (txt : List Nat) (z : Str) (ds : List PyData) : Prop where
  sg : ∀ g, sgTab.lookup z = some g → ds.length = 4 → ∃ k : Nat, ds[3]? = some (.int (k : Int)) ∧ At txt k (lS g)
  wd : z ∈ mkW → ∃ k : Nat, ds[ds.length - 1]? = some (.int (k : Int)) ∧ At txt k (lS z)
mutual
def MkD (txt : List Nat) : PyData → Prop
  | .tuple ds => (∀ z r, ds = .str z :: r → MkH txt z ds) ∧ MkL txt ds
  | _ => True
def MkL (txt : List Nat) : List PyData → Prop
  | [] => True
  | d :: ds => MkD txt d ∧ MkL txt ds
end
theorem mkD_tup {txt : List Nat} {ds : List PyData} : MkD txt (.tuple ds) ↔ (∀ z r, ds = .str z :: r → MkH txt z ds) ∧ MkL txt ds := by rw [MkD]
theorem mkL_cons {txt : List Nat} {d : PyData} {ds : List PyData} : MkL txt (d :: ds) ↔ MkD txt d ∧ MkL txt ds := by rw [MkL]
theorem mkL_nil {txt : List Nat} : MkL txt [] := by rw [MkL]; trivial
theorem mk_str {txt : List Nat} {z : Str} : MkD txt (.str z) := by rw [MkD]; · trivial
                                                                   · intro ds h; cases h
theorem mk_int {txt : List Nat} {z : Int} : MkD txt (.int z) := by rw [MkD]; · trivial
                                                                   · intro ds h; cases h
theorem mk_bool {txt : List Nat} {z : Bool} : MkD txt (.bool z) := by rw [MkD]; · trivial
                                                                      · intro ds h; cases h
theorem mk_non {txt : List Nat} : MkD txt .none := by rw [MkD]; · trivial
                                                      · intro ds h; cases h
/-- a name that no mark is asked of -/
theorem mkH_free {txt : List Nat} {z : Str} {ds : List PyData} (h1 : sgTab.lookup z = none) (h2 : z ∉ mkW) : MkH txt z ds := ⟨fun g h => (by rw [h1] at h; cases h), fun h => absurd h h2⟩
theorem mkH_word {txt : List Nat} {z : Str} {ds : List PyData} {k : Nat} (h1 : sgTab.lookup z = none) (h2 : ds[ds.length - 1]? = some (.int (k : Int))) (h : At txt k (lS z)) : MkH txt z ds := ⟨fun g h => (by rw [h1] at h; cases h), fun _ => ⟨k, h2, h⟩⟩
theorem mk_node {txt : List Nat} {z : Str} {r : List PyData} (h : MkH txt z (.str z :: r)) (hr : MkL txt r) : MkD txt (.tuple (.str z :: r)) := mkD_tup.mpr ⟨fun z' r' e => by cases e; exact h, mkL_cons.mpr ⟨mk_str, hr⟩⟩
theorem mk_plain {txt : List Nat} {ds : List PyData} (h : ∀ z r, ds ≠ .str z :: r) (hl : MkL txt ds) : MkD txt (.tuple ds) := mkD_tup.mpr ⟨fun z r e => absurd e (h z r), hl⟩
theorem nms_free {z : Str} (h : z ∈ NMS) : sgTab.lookup z = none ∧ z ∉ mkW := by
  have : ∀ z ∈ NMS, sgTab.lookup z = none ∧ z ∉ mkW := by decide +kernel
  exact this z h
theorem mk_units {txt : List Nat} : ∀ (u : Un) (j : Nat), uNm u → MkL txt (uIt u j)
  | [], j, _ => mkL_nil
  | (z, p) :: r, j, h => by
    obtain ⟨h1, h2⟩ := nms_free (h (z, p) List.mem_cons_self)
    exact mkL_cons.mpr ⟨mk_node (mkH_free h1 h2) (mkL_cons.mpr ⟨mk_int, mkL_cons.mpr ⟨mk_int, mkL_nil⟩⟩), mk_units r _ fun q hq => h q (List.mem_cons_of_mem _ hq)⟩
theorem mk_utup {txt : List Nat} {u : Un} {j : Nat} (h : uNm u) : MkD txt (.tuple (uIt u j)) := mk_plain (fun z r e => by cases u <;> cases e) (mk_units u j h)
theorem mk3 {txt : List Nat} {a b c : PyData} (ha : MkD txt a) (hb : MkD txt b) (hc : MkD txt c) : MkL txt [a, b, c] := mkL_cons.mpr ⟨ha, mkL_cons.mpr ⟨hb, mkL_cons.mpr ⟨hc, mkL_nil⟩⟩⟩
theorem mk2 {txt : List Nat} {a b : PyData} (ha : MkD txt a) (hb : MkD txt b) : MkL txt [a, b] := mkL_cons.mpr ⟨ha, mkL_cons.mpr ⟨hb, mkL_nil⟩⟩
theorem mk1 {txt : List Nat} {a : PyData} (ha : MkD txt a) : MkL txt [a] := mkL_cons.mpr ⟨ha, mkL_nil⟩
theorem mk4 {txt : List Nat} {a b c d : PyData} (ha : MkD txt a) (hb : MkD txt b) (hc : MkD txt c) (hd : MkD txt d) : MkL txt [a, b, c, d] := mkL_cons.mpr ⟨ha, mk3 hb hc hd⟩
theorem mk_ex {txt : List Nat} : ∀ (e : Ex) (i : Nat), e.nm → At txt i (ren e.pcs) → MkD txt (e.tree i)
  | .num k u, i, hn, _ => mk_node (mkH_free (by decide +kernel) (by decide +kernel)) (mk3 (mk_plain (fun z r e => by cases e) (mk2 mk_int mk_int)) (mk_utup hn) mk_int)
  | .bool b, i, _, _ => mk_node (mkH_free (by decide +kernel) (by decide +kernel)) (mk1 mk_bool)
  | .var x, i, _, _ => mk_node (mkH_free (by decide +kernel) (by decide +kernel)) (mk2 mk_str mk_int)
  | .call0 x, i, _, _ => mk_node (mkH_free (by decide +kernel) (by decide +kernel)) (mk3 mk_str (mk_plain (fun z r e => by cases e) mkL_nil) mk_int)
  | .call1 x a, i, hn, h => by
    obtain ⟨h1, h⟩ := at_cons h
    obtain ⟨h2, h⟩ := at_cons h
    obtain ⟨h3, h⟩ := at_app h
    have ha := mk_ex a _ hn.2 h3
    obtain ⟨z, r, e⟩ := ex_head a (i + (lS x).length + 1)
    exact mk_node (mkH_free (by decide +kernel) (by decide +kernel)) (mk3 mk_str (mk_plain (fun z' r' e' => by rw [e] at e'; cases e') (mk1 ha)) mk_int)
  | .call2 x a b, i, hn, h => by
    obtain ⟨h1, h⟩ := at_cons h
    obtain ⟨h2, h⟩ := at_cons h
    obtain ⟨h3, h⟩ := at_app h
    obtain ⟨h4, h⟩ := at_cons h
    obtain ⟨h5, h⟩ := at_cons h
    obtain ⟨h6, h⟩ := at_app h
    have ha := mk_ex a _ hn.2.1 h3
    have hb := mk_ex b _ hn.2.2 h6
    obtain ⟨z, r, e⟩ := ex_head a (i + (lS x).length + 1)
    exact mk_node (mkH_free (by decide +kernel) (by decide +kernel)) (mk3 mk_str (mk_plain (fun z' r' e' => by rw [e] at e'; cases e') (mk2 ha hb)) mk_int)
  | .iter x c a, i, hn, h => by
    obtain ⟨h1, h⟩ := at_cons h
    obtain ⟨_, h⟩ := at_cons h
    obtain ⟨_, h⟩ := at_cons h
    obtain ⟨_, h⟩ := at_cons h
    obtain ⟨_, h⟩ := at_cons h
    obtain ⟨_, h⟩ := at_cons h
    obtain ⟨_, h⟩ := at_cons h
    obtain ⟨_, h⟩ := at_cons h
    obtain ⟨_, h⟩ := at_cons h
    obtain ⟨h3, h⟩ := at_app h
    have ha := mk_ex a _ hn.2 h3
    exact mk_node (mkH_word (k := i) (by decide +kernel) rfl h1) (mk4 mk_str mk_int ha mk_int)
  | .pow a k, i, hn, h => by
    obtain ⟨h1, h⟩ := at_cons h
    obtain ⟨h3, h⟩ := at_app h
    obtain ⟨_, h⟩ := at_cons h
    obtain ⟨h5, h⟩ := at_cons h
    have ha := mk_ex a _ hn h3
    refine mk_node ⟨fun g hg _ => ⟨i + 1 + plen a.pcs + 1, rfl, ?_⟩, fun h => absurd h (by decide)⟩ (mk3 ha mk_int mk_int)
    cases hg
    exact h5
  | .not a, i, hn, h => by
    obtain ⟨_, h⟩ := at_cons h
    obtain ⟨h1, h⟩ := at_cons h
    obtain ⟨_, h⟩ := at_cons h
    obtain ⟨_, h⟩ := at_cons h
    obtain ⟨h3, h⟩ := at_app h
    have ha := mk_ex a _ hn h3
    exact mk_node (mkH_word (k := i + 1) (by decide +kernel) rfl h1) (mk2 ha mk_int)
  | .ite c a b, i, hn, h => by
    obtain ⟨_, h⟩ := at_cons h
    obtain ⟨h1, h⟩ := at_cons h
    obtain ⟨_, h⟩ := at_cons h
    obtain ⟨h3, h⟩ := at_app h
    obtain ⟨_, h⟩ := at_cons h
    obtain ⟨_, h⟩ := at_cons h
    obtain ⟨_, h⟩ := at_cons h
    obtain ⟨h4, h⟩ := at_app h
    obtain ⟨_, h⟩ := at_cons h
    obtain ⟨_, h⟩ := at_cons h
    obtain ⟨_, h⟩ := at_cons h
    obtain ⟨h5, h⟩ := at_app h
    have hc := mk_ex c _ hn.1 h3
    have ha := mk_ex a _ hn.2.1 h4
    have hb := mk_ex b _ hn.2.2 h5
    exact mk_node (mkH_word (k := i + 1) (by decide +kernel) rfl h1) (mk4 hc ha hb mk_int)
  | .lett x a b, i, hn, h => by
    obtain ⟨_, h⟩ := at_cons h
    obtain ⟨h1, h⟩ := at_cons h
    obtain ⟨_, h⟩ := at_cons h
    obtain ⟨_, h⟩ := at_cons h
    obtain ⟨_, h⟩ := at_cons h
    obtain ⟨_, h⟩ := at_cons h
    obtain ⟨_, h⟩ := at_cons h
    obtain ⟨h3, h⟩ := at_app h
    obtain ⟨_, h⟩ := at_cons h
    obtain ⟨_, h⟩ := at_cons h
    obtain ⟨_, h⟩ := at_cons h
    obtain ⟨h4, h⟩ := at_app h
    have ha := mk_ex a _ hn.2.1 h3
    have hb := mk_ex b _ hn.2.2 h4
    exact mk_node (mkH_word (k := i + 1) (by decide +kernel) rfl h1) (mk4 mk_str ha hb mk_int)
  | .op o a b, i, hn, h => by
    obtain ⟨_, h⟩ := at_cons h
    obtain ⟨_, h⟩ := at_cons h
    obtain ⟨h3, h⟩ := at_app h
    obtain ⟨_, h⟩ := at_cons h
    obtain ⟨_, h⟩ := at_cons h
    obtain ⟨h1, h⟩ := at_cons h
    obtain ⟨_, h⟩ := at_cons h
    obtain ⟨_, h⟩ := at_cons h
    obtain ⟨h4, h⟩ := at_app h
    have ha := mk_ex a _ hn.1 h3
    have hw : o.pc.w = lS o.txt := by cases o <;> rfl
    rw [hw] at h1 h4
    have hb := mk_ex b _ hn.2 h4
    refine mk_node ⟨fun g hg _ => ⟨i + 2 + plen a.pcs + 2, rfl, ?_⟩, fun hz => ⟨i + 2 + plen a.pcs + 2, rfl, ?_⟩⟩ (mk3 ha hb mk_int)
    · have : g = o.txt := by
        have h0 : sgTab.lookup Op2.or.head = none := by decide +kernel
        have h9 : sgTab.lookup Op2.and.head = none := by decide +kernel
        cases o with
        | or => rw [h0] at hg; cases hg
        | and => rw [h9] at hg; cases hg
        | _ => cases hg; rfl
      rw [this]
      exact h1
    · have : o.head = o.txt := by
        cases o <;> first | rfl | (exact absurd hz (by decide))
      rw [this]
      exact h1
theorem mk_opt {txt : List Nat} {t : Option Un} {j : Nat} (h : oNm t) : MkD txt (oTr t j) := by
  cases t with
  | none => exact mk_non
  | some u => exact mk_utup h
theorem mk_pms {txt : List Nat} : ∀ (ps : List Pm) (j : Nat), (∀ p ∈ ps, p.1 ∈ NMS ∧ oNm p.2) → MkL txt (pmIt ps j)
  | [], j, _ => mkL_nil
  | p :: r, j, h => by
    obtain ⟨hp, ho⟩ := h p List.mem_cons_self
    obtain ⟨h1, h2⟩ := nms_free hp
    exact mkL_cons.mpr ⟨mk_node (mkH_free h1 h2) (mk1 (mk_opt ho)), mk_pms r _ fun q hq => h q (List.mem_cons_of_mem _ hq)⟩
theorem mk_ln {txt : List Nat} (l : Ln) (i : Nat) (hn : l.nm) (h : At txt i (ren l.pcs)) : MkD txt (l.tree i) := by
  cases l with
  | base =>
    obtain ⟨h1, h⟩ := at_cons h
    exact mk_node (mkH_word (k := i) (by decide +kernel) rfl h1) (mk2 mk_str mk_int)
  | unit u =>
    obtain ⟨h1, h⟩ := at_cons h
    exact mk_node (mkH_word (k := i) (by decide +kernel) rfl h1) (mk4 mk_str (mk_plain (fun z r e => by cases e) (mk2 mk_int mk_int)) (mk_utup hn) mk_int)
  | fn ps t e =>
    obtain ⟨h1, h⟩ := at_cons h
    obtain ⟨_, h⟩ := at_cons h
    obtain ⟨_, h⟩ := at_cons h
    obtain ⟨_, h⟩ := at_cons h
    obtain ⟨_, h⟩ := at_app h
    obtain ⟨_, h⟩ := at_cons h
    obtain ⟨_, h⟩ := at_app h
    obtain ⟨_, h⟩ := at_cons h
    obtain ⟨_, h⟩ := at_cons h
    obtain ⟨_, h⟩ := at_cons h
    obtain ⟨h3, h⟩ := at_app h
    have he := mk_ex e _ hn.2.2 h3
    exact mk_node (mkH_word (k := i) (by decide +kernel) rfl h1) (mkL_cons.mpr ⟨mk_str, mk4 (mk_plain (fun z r e => by cases ps <;> cases e) (mk_pms ps _ hn.1)) (mk_opt hn.2.1) he mk_int⟩)
  | shw e t =>
    obtain ⟨h1, h⟩ := at_cons h
    obtain ⟨_, h⟩ := at_cons h
    obtain ⟨h3, h⟩ := at_app h
    have he := mk_ex e _ hn.1 h3
    exact mk_node (mkH_word (k := i) (by decide +kernel) rfl h1) (mk3 he (mk_opt hn.2) mk_int)
theorem mk_pg {txt : List Nat} : ∀ (ls : List Ln) (i : Nat), (∀ l ∈ ls, l.nm) → At txt i (ren (pgPc ls)) → ∀ d ∈ pgT ls i, MkD txt d
  | [], i, _, _, d, hd => by cases hd
  | l :: r, i, hn, h, d, hd => by
    have hl : At txt i (ren l.pcs) ∧ (r ≠ [] → At txt (i + plen l.pcs + 2) (ren (pgPc r))) := by
      cases r with
      | nil => exact ⟨h, fun h => absurd rfl h⟩
      | cons y r =>
        obtain ⟨h1, h⟩ := at_app (p := l.pcs) (q := .nl :: .sp :: pgPc (y :: r)) h
        obtain ⟨_, h⟩ := at_cons h
        obtain ⟨_, h⟩ := at_cons h
        exact ⟨h1, fun _ => h⟩
    rcases List.mem_cons.mp hd with rfl | hd
    · exact mk_ln l i (hn l List.mem_cons_self) hl.1
    · cases r with
      | nil => cases hd
      | cons y r => exact mk_pg (y :: r) _ (fun x hx => hn x (List.mem_cons_of_mem _ hx)) (hl.2 (by simp)) d hd
theorem at_self (w : List Nat) : At w 0 w := ⟨[], [], by simp, rfl⟩
end Al
namespace Al
open PySem PySem.Spec PyProof.Rows L2 NdefX PySem.W
/-! ### k01: the law's draws in plain Lean -/
/-- one number from the feed: limit, place -/
def tkN (N : List Nat) (lim at_ : Nat) : Nat := N.getD (at_ % N.length) 0 / (1 + at_ / N.length * 7) % lim
def uNms : List Str := ["m", "kg", "u2"]
def uPws : List Int := [1, 2, -1, 0, 9, -9]
def eNms : List Str := ["x", "y_1", "Q"]
def brL (N : List Nat) : Nat → Nat → Un
  | 0, _ => []
  | n + 1, a => (uNms.getD (tkN N 3 a) "", uPws.getD (tkN N 6 (a + 1)) 0) :: brL N n (a + 2)
/-- a product, and the place behind it -/
def brk (N : List Nat) (a : Nat) : Un × Nat := (brL N (tkN N 3 a) (a + 1), a + 1 + 2 * tkN N 3 a)
def ops9 : List Op2 := [.add, .sub, .mul, .div, .lt, .le, .eq, .and, .or]
def leafOf (k : Nat) (u : Un) (z : Str) : Nat → Ex
  | 0 => .num k u
  | 1 => .bool true
  | 2 => .bool false
  | _ => .var z
def drw (N : List Nat) : Nat → Nat → Ex × Nat
  | 0, a => (leafOf (tkN N 5 (brk N (a + 2)).2) (brk N (a + 2)).1 (eNms.getD (tkN N 3 (a + 1)) "") (tkN N 4 ((brk N (a + 2)).2 + 1)), (brk N (a + 2)).2 + 2)
  | d + 1, a =>
    let p := tkN N 16 a
    let z := eNms.getD (tkN N 3 (a + 1)) ""
    if p < 4 then (leafOf (tkN N 5 (brk N (a + 2)).2) (brk N (a + 2)).1 z (tkN N 4 ((brk N (a + 2)).2 + 1)), (brk N (a + 2)).2 + 2)
    else if p = 4 then
      (match tkN N 3 (a + 2) with
      | 0 => (.call0 z, a + 3)
      | 1 => (.call1 z (drw N d (a + 3)).1, (drw N d (a + 3)).2)
      | _ => (.call2 z (drw N d (a + 3)).1 (drw N d (drw N d (a + 3)).2).1, (drw N d (drw N d (a + 3)).2).2))
    else if p = 5 then (.iter z (tkN N 21 (a + 2)) (drw N d (a + 3)).1, (drw N d (a + 3)).2)
    else if p = 6 then (.pow (drw N d (a + 2)).1 ((tkN N 19 (drw N d (a + 2)).2 : Int) - 9), (drw N d (a + 2)).2 + 1)
    else if p = 7 then (.not (drw N d (a + 2)).1, (drw N d (a + 2)).2)
    else if p = 8 then
      (.ite (drw N d (a + 2)).1 (drw N d (drw N d (a + 2)).2).1 (drw N d (drw N d (drw N d (a + 2)).2).2).1, (drw N d (drw N d (drw N d (a + 2)).2).2).2)
    else if p = 9 then (.lett z (drw N d (a + 2)).1 (drw N d (drw N d (a + 2)).2).1, (drw N d (drw N d (a + 2)).2).2)
    else (.op (ops9.getD (tkN N 9 (a + 2)) .or) (drw N d (a + 3)).1 (drw N d (drw N d (a + 3)).2).1, (drw N d (drw N d (a + 3)).2).2)
/-- a product that may be told: the product is drawn first, then whether it is told -/
def opt (N : List Nat) (a : Nat) : Option Un × Nat := (if tkN N 2 (brk N a).2 = 0 then none else some (brk N a).1, (brk N a).2 + 1)
def pmL (N : List Nat) : List Str → Nat → List Pm × Nat
  | [], a => ([], a)
  | z :: r, a => ((z, (opt N a).1) :: (pmL N r (opt N a).2).1, (pmL N r (opt N a).2).2)
def lnD (N : List Nat) (a : Nat) : Ln × Nat :=
  let p := tkN N 6 a
  if p = 0 then (.base, a + 1)
  else if p = 1 then (.unit (brk N (a + 1)).1, (brk N (a + 1)).2)
  else if p < 4 then
    let ps := pmL N ((["x", "y"] : List Str).take (tkN N 3 (a + 1))) (a + 2)
    let t := opt N ps.2
    (.fn ps.1 t.1 (drw N 4 t.2).1, (drw N 4 t.2).2)
  else
    let e := drw N 4 (a + 1)
    (.shw e.1 (opt N e.2).1, (opt N e.2).2)
def lnsD (N : List Nat) : Nat → Nat → List Ln × Nat
  | 0, a => ([], a)
  | n + 1, a => ((lnD N a).1 :: (lnsD N n (lnD N a).2).1, (lnsD N n (lnD N a).2).2)
/-! what is drawn is well -/
theorem tk_lt (N : List Nat) {lim : Nat} (h : 0 < lim) (a : Nat) : tkN N lim a < lim := Nat.mod_lt _ h
theorem brL_ok (N : List Nat) : ∀ n a, uOk (brL N n a) ∧ uNm (brL N n a) ∧ (brL N n a).length = n
  | 0, a => ⟨(fun q h => by cases h), (fun q h => by cases h), rfl⟩
  | n + 1, a => by
    obtain ⟨h1, h2, h3⟩ := brL_ok N n (a + 2)
    have hp : ∀ k < 6, (uPws.getD k 0).natAbs ≤ 9 := by decide +kernel
    have hz : ∀ k < 3, uNms.getD k "" ∈ NMS := by decide +kernel
    refine ⟨fun q hq => ?_, fun q hq => ?_, by show (brL N n (a + 2)).length + 1 = n + 1; rw [h3]⟩
    · rcases List.mem_cons.mp hq with rfl | hq
      · exact hp _ (tk_lt N (by decide) _)
      · exact h1 q hq
    · rcases List.mem_cons.mp hq with rfl | hq
      · exact hz _ (tk_lt N (by decide) _)
      · exact h2 q hq
theorem brk_ok (N : List Nat) (a : Nat) : uOk (brk N a).1 ∧ uNm (brk N a).1 ∧ (brk N a).1.length ≤ 2 := by
  obtain ⟨h1, h2, h3⟩ := brL_ok N (tkN N 3 a) (a + 1)
  have := tk_lt N (lim := 3) (by decide) a
  exact ⟨h1, h2, by show (brL N _ _).length ≤ 2; omega⟩
def Ex.sm : Ex → Prop
  | .num _ u => u.length ≤ 2
  | .call1 _ a => a.sm
  | .call2 _ a b => a.sm ∧ b.sm
  | .iter _ _ a => a.sm
  | .pow a _ => a.sm
  | .not a => a.sm
  | .ite c a b => c.sm ∧ a.sm ∧ b.sm
  | .lett _ a b => a.sm ∧ b.sm
  | .op _ a b => a.sm ∧ b.sm
  | _ => True
structure ExW (e : Ex) (d : Nat) : Prop where
  ok : e.ok
  nm : e.nm
  dp : e.dep ≤ d
  sm : e.sm
theorem leaf_ok (N : List Nat) (k a : Nat) (z : Str) (j : Nat) (hk : k < 5) (hz : z ∈ NMS) (d : Nat) : ExW (leafOf k (brk N a).1 z j) d := by
  obtain ⟨h1, h2, h3⟩ := brk_ok N a
  match j with
  | 0 => exact ⟨⟨hk, h1⟩, h2, Nat.zero_le _, h3⟩
  | 1 => exact ⟨trivial, trivial, Nat.zero_le _, trivial⟩
  | 2 => exact ⟨trivial, trivial, Nat.zero_le _, trivial⟩
  | j + 3 => exact ⟨trivial, hz, Nat.zero_le _, trivial⟩
theorem drw_ok (N : List Nat) : ∀ d a, ExW (drw N d a).1 d
  | 0, a => leaf_ok N _ _ _ _ (tk_lt N (by decide) _) ((by decide +kernel : ∀ k < 3, eNms.getD k "" ∈ NMS) _ (tk_lt N (by decide) _)) _
  | d + 1, a => by
    have ih := drw_ok N d
    have hz : eNms.getD (tkN N 3 (a + 1)) "" ∈ NMS := (by decide +kernel : ∀ k < 3, eNms.getD k "" ∈ NMS) _ (tk_lt N (by decide) _)
    unfold drw
    dsimp only
    split
    · exact leaf_ok N _ _ _ _ (tk_lt N (by decide) _) hz _
    · split
      · split
        · exact ⟨trivial, hz, Nat.le_add_left _ _, trivial⟩
        · have h := ih (a + 3)
          exact ⟨h.ok, ⟨hz, h.nm⟩, by show 1 + _ ≤ d + 1; have := h.dp; omega, h.sm⟩
        · have h := ih (a + 3)
          have h2 := ih (drw N d (a + 3)).2
          exact ⟨⟨h.ok, h2.ok⟩, ⟨hz, h.nm, h2.nm⟩, by show 1 + max _ _ ≤ d + 1; have := h.dp; have := h2.dp; omega, h.sm, h2.sm⟩
      · split
        · have h := ih (a + 3)
          have := tk_lt N (lim := 21) (by decide) (a + 2)
          exact ⟨⟨by omega, h.ok⟩, ⟨hz, h.nm⟩, by show 1 + _ ≤ d + 1; have := h.dp; omega, h.sm⟩
        · split
          · have h := ih (a + 2)
            have := tk_lt N (lim := 19) (by decide) (drw N d (a + 2)).2
            exact ⟨⟨by omega, h.ok⟩, h.nm, by show 1 + _ ≤ d + 1; have := h.dp; omega, h.sm⟩
          · split
            · have h := ih (a + 2)
              exact ⟨h.ok, h.nm, by show 1 + _ ≤ d + 1; have := h.dp; omega, h.sm⟩
            · split
              · have h := ih (a + 2)
                have h2 := ih (drw N d (a + 2)).2
                have h3 := ih (drw N d (drw N d (a + 2)).2).2
                exact ⟨⟨h.ok, h2.ok, h3.ok⟩, ⟨h.nm, h2.nm, h3.nm⟩, by show 1 + max _ (max _ _) ≤ d + 1; have := h.dp; have := h2.dp; have := h3.dp; omega, h.sm, h2.sm, h3.sm⟩
              · split
                · have h := ih (a + 2)
                  have h2 := ih (drw N d (a + 2)).2
                  exact ⟨⟨h.ok, h2.ok⟩, ⟨hz, h.nm, h2.nm⟩, by show 1 + max _ _ ≤ d + 1; have := h.dp; have := h2.dp; omega, h.sm, h2.sm⟩
                · have h := ih (a + 3)
                  have h2 := ih (drw N d (a + 3)).2
                  exact ⟨⟨h.ok, h2.ok⟩, ⟨h.nm, h2.nm⟩, by show 1 + max _ _ ≤ d + 1; have := h.dp; have := h2.dp; omega, h.sm, h2.sm⟩
theorem opt_ok (N : List Nat) (a : Nat) : oOk (opt N a).1 ∧ oNm (opt N a).1 := by
  obtain ⟨h1, h2, h3⟩ := brk_ok N a
  unfold opt
  dsimp only
  split
  · exact ⟨trivial, trivial⟩
  · exact ⟨h1, h2⟩
theorem pmL_ok (N : List Nat) : ∀ (zs : List Str) (a : Nat), ∀ p ∈ (pmL N zs a).1, p.1 ∈ zs ∧ oOk p.2 ∧ oNm p.2
  | [], a, p, h => by cases h
  | z :: r, a, p, h => by
    rcases List.mem_cons.mp h with rfl | h
    · exact ⟨List.mem_cons_self, opt_ok N a⟩
    · obtain ⟨h1, h2⟩ := pmL_ok N r _ p h
      exact ⟨List.mem_cons_of_mem _ h1, h2⟩
theorem lnD_ok (N : List Nat) (a : Nat) : (lnD N a).1.ok ∧ (lnD N a).1.nm ∧ (lnD N a).1.pxy := by
  unfold lnD
  dsimp only
  split
  · exact ⟨trivial, trivial, trivial⟩
  · split
    · obtain ⟨h1, h2, h3⟩ := brk_ok N (a + 1)
      exact ⟨h1, h2, trivial⟩
    · split
      · have hp := pmL_ok N ((["x", "y"] : List Str).take (tkN N 3 (a + 1))) (a + 2)
        generalize pmL N ((["x", "y"] : List Str).take (tkN N 3 (a + 1))) (a + 2) = ps at *
        obtain ⟨o1, o2⟩ := opt_ok N ps.2
        have he := drw_ok N 4 (opt N ps.2).2
        have hxy : ∀ p ∈ ps.1, p.1 ∈ (["x", "y"] : List Str) := fun p h => List.mem_of_mem_take (hp p h).1
        have hxn : ∀ z ∈ (["x", "y"] : List Str), z ∈ NMS := by decide +kernel
        exact ⟨⟨fun p h => (hp p h).2.1, o1, he.ok, Nat.le_trans he.dp (by decide)⟩, ⟨fun p h => ⟨hxn _ (hxy p h), (hp p h).2.2⟩, o2, he.nm⟩, hxy⟩
      · have he := drw_ok N 4 (a + 1)
        obtain ⟨o1, o2⟩ := opt_ok N (drw N 4 (a + 1)).2
        exact ⟨⟨he.ok, Nat.le_trans he.dp (by decide), o1⟩, ⟨he.nm, o2⟩, trivial⟩
theorem lnsD_ok (N : List Nat) : ∀ n a, ∀ l ∈ (lnsD N n a).1, l.ok ∧ l.nm ∧ l.pxy
  | 0, a, l, h => by cases h
  | n + 1, a, l, h => by
    rcases List.mem_cons.mp h with rfl | h
    · exact lnD_ok N a
    · exact lnsD_ok N n _ l h
theorem lnsD_len (N : List Nat) : ∀ n a, (lnsD N n a).1.length = n
  | 0, a => rfl
  | n + 1, a => congrArg (· + 1) (lnsD_len N n _)
end Al
namespace Al
open PySem PySem.Spec PyProof.Rows L2 NdefX PySem.W
local macro_rules | `(tactic| walk_at "rd1") => `(tactic| with_reducible first
  | (show tVar _ _ _ _; refine r_var (by with_unfolding_all rfl) ?_) | refine r_c ?_ | refine r_op ?_ | refine r_I0 ?_ | refine r_un ?_ | refine r_U ?_
  | (show rI _ _ _ _ _ _; refine r_I (by with_unfolding_all first | exact ⟨by decide, by decide⟩ | (show (0 : Int) < _; decide)) ?_)
  | refine r_eqI ?_ | refine r_neI ?_ | refine r_eqS ?_ | refine r_neS ?_ | refine r_eqB ?_ | refine r_neB ?_ | refine r_chain ?_
  | refine r_test ?_ | refine r_B ?_ | refine r_bl ?_ | refine r_int ?_ | refine r_and ?_ | refine r_or ?_ | refine r_not ?_ | refine r_andV ?_ | refine r_orV ?_ | refine r_notV ?_
  | refine r_if ?_ | refine r_nil ?_ | refine r_cons ?_ | refine r_cb ?_ | refine r_call ?_ | refine r_callS ?_ | refine r_tup ?_ | refine r_lst ?_ | refine r_seq ?_ | refine r_next ?_ | refine r_asg ?_
  | refine r_name ?_ | refine r_ifS ?_ | refine r_ret ?_ | refine r_retN ?_ | refine r_drop ?_ | refine r_brk ?_ | refine r_ct ?_ | refine r_sl ?_ | refine r_part ?_ | refine r_nopart ?_
  | refine r_bm ?_ | refine r_bm0 ?_ | refine r_raiseX ?_ | refine r_mkO ?_ | refine iteF ?_ | refine iteT ?_ | refine r_int1 ?_ | refine r_int1b ?_ | (show _ ≤ sizeLine ∧ _; refine r_sz (by with_unfolding_all first | omega | (simp only [List.length_cons, List.length_nil]; omega)) ?_)
  | (show ∃ _, _; refine ⟨_, rfl, ?_⟩) | (show ∃ _, _; refine ⟨_, _, rfl, rfl, ?_⟩) | (show ∃ _, _; refine ⟨_, _, rfl, ?_⟩))
local macro_rules | `(tactic| walk_at "rd") => `(tactic| repeat (walk_at "rd1"))
local macro_rules | `(tactic| walk_at "rd2") => `(tactic| with_reducible first
  | (show tFld _ _ _ _ _ _; refine r_fldI (by with_unfolding_all rfl) (by with_unfolding_all assumption) (by with_unfolding_all assumption) (by with_unfolding_all assumption) (by with_unfolding_all rfl) ?_)
  | (show tMetS _ _ _ _ _ _ _ _ _; refine r_rm (by with_unfolding_all assumption) (by with_unfolding_all rfl) (by decide) ?_)
  | refine r_sfl ?_ | refine iteNF ?_ | refine iteNT ?_ | refine r_makS ?_)
local macro_rules | `(tactic| walk_at "rp") => `(tactic| repeat first | walk_at "rd1" | walk_at "rd2")
local macro_rules | `(tactic| walk_at "rq1") => `(tactic| with_reducible first | refine r_rng1 ?_ | refine r_rng2 ?_ | refine r_forL ?_ | refine r_forT ?_ | refine r_dget ?_ | refine r_pnil ?_ | refine r_pcons ?_ | refine r_lcL ?_ | refine r_lcT ?_ | refine r_lcR ?_ | refine r_yes ?_ | refine r_disp ?_)
local macro_rules | `(tactic| walk_at "rq") => `(tactic| repeat first | walk_at "rd1" | walk_at "rd2" | walk_at "rq1")

/-! ### k01: the feed -/
def atK : Key := .inr "at"
def nuK : Key := .inr "numbers"
def frK : Key := .inr "fresh"
structure Feed (H : Hp) (f nl : Addr) (N : List Nat) (a : Nat) : Prop where
  d : H f = some (.dK [(atK, .int (a : Int)), (nuK, .ref nl), (frK, .int 0)])
  l : H nl = some (.lst (N.map fun n => V.int (n : Nat)))
  pos : 0 < N.length ∧ N.length ≤ 1000
  lt : ∀ n ∈ N, n < 1048576
theorem Feed.keep {H H' : Hp} {f nl : Addr} {N : List Nat} {a : Nat} (h : Feed H f nl N a) (s : Same H H') : Feed H' f nl N a := ⟨s _ _ h.d, s _ _ h.l, h.pos, h.lt⟩
theorem Feed.upd {H : Hp} {f nl D : Addr} {N : List Nat} {a : Nat} {o : HO} (h : Feed H f nl N a) (h1 : D ≠ f) (h2 : D ≠ nl) : Feed (L2.upd H D o) f nl N a := ⟨(upd_ne (Ne.symm h1)).trans h.d, (upd_ne (Ne.symm h2)).trans h.l, h.pos, h.lt⟩
theorem Feed.apart {H : Hp} {f nl D : Addr} {N : List Nat} {a : Nat} (h : Feed H f nl N a) (hD : H D = none) : D ≠ f ∧ D ≠ nl := ⟨(fun e => by rw [e, h.d] at hD; cases hD), (fun e => by rw [e, h.l] at hD; cases hD)⟩
abbrev Ff (f : Addr) : Hp → Hp → Prop := Fr f f
theorem Ff.get {f : Addr} {H H' : Hp} (h : Ff f H H') {b : Addr} {u : HO} (hb : b ≠ f) (e : H b = some u) : H' b = some u := h.fr b u hb hb e
def spNumbers : Sp := fun vs H Q _ => ∃ (c : Int) (m : Nat), vs = [.int c, .int (m : Int)] ∧ 0 < m ∧ m ≤ 1000 ∧ ∀ (p : Addr) (N : List Nat) (H' : Hp), Same H H' → H' p = some (.lst (N.map fun (n : Nat) => V.int (n : Int))) → N.length = m → (∀ n ∈ N, n < 1048576) → Q (.ref p) H'
def spFeed : Sp := fun vs H Q _ => ∃ (c : Int) (m : Nat), vs = [.int c, .int (m : Int)] ∧ 0 < m ∧ m ≤ 1000 ∧ ∀ (f nl : Addr) (N : List Nat) (H' : Hp), Same H H' → H f = none → Feed H' f nl N 0 → N.length = m → Q (.ref f) H'
def spTake : Sp := fun vs H Q _ => ∃ (f nl : Addr) (N : List Nat) (a lim : Nat), vs = [.ref f, .int (lim : Int)] ∧ Feed H f nl N a ∧ 0 < lim ∧ a ≤ 1000000 ∧ ∀ H', Ff f H H' → Feed H' f nl N (a + 1) → Q (.int (tkN N lim a : Nat)) H'
def spLawCell (K : Frag) : Sp := fun vs H Q _ => ∃ (a : Addr) (ns : List Int) (k : Nat), vs = [.ref a, .int (k : Int)] ∧ SqL K H a (ns.map V.int) ∧ Q (.int (ns.getD k 0)) H
theorem get_at {a : Nat} {nl : Addr} : valV [(atK, V.int (a : Int)), (nuK, .ref nl), (frK, .int 0)] (.inr "at") = some (.int (a : Int)) := by with_unfolding_all rfl
theorem get_nu {a : Nat} {nl : Addr} : valV [(atK, V.int (a : Int)), (nuK, .ref nl), (frK, .int 0)] (.inr "numbers") = some (.ref nl) := by with_unfolding_all rfl
theorem put_at {a : Nat} {nl : Addr} {v : V} : putK [(atK, V.int (a : Int)), (nuK, .ref nl), (frK, .int 0)] (.inr "at") v = [(atK, v), (nuK, .ref nl), (frK, .int 0)] := by with_unfolding_all rfl
section
variable {P : Program} {w : World} {K : Frag} {mg : Str → Option Value} {base : Heap}
abbrev s_law_cell : Stmt := top 40
theorem sc_law_cell : FnScope ["_law_script", "_law_k"] ["_law_script", "_law_k"] (defScope s_law_cell) := ⟨rfl, rfl, rfl, by decide +kernel, rfl, by decide +kernel, by decide +kernel⟩
theorem cal_law_cell (dx : DefAt K mg "_law_cell" s_law_cell) (B : Bl mg) : Cal P w K mg base 1 "_law_cell" ["_law_script", "_law_k"] (spLawCell K) := by
  refine cal_mk dx sc_law_cell (fun _ _ _ _ _ _ us hl => match us, hl with | [_, _], _ => rfl) (fun vs H Q E h => ?_) (fun f cdv A outer s H vs Q E hr h => ?_)
  · obtain ⟨a, ns, k, rfl, _⟩ := h
    rfl
  · obtain ⟨a, ns, k, rfl, hS, kq⟩ := h
    refine ⟨_, (pss_cons (ps_if (pt_cmpR op_lt (pv 1) (pe_callB call_len_seq (by rfl) B.len PySem.boot_len (pa_cons (pv 0) pa_nil)) (nomark _))
      (pss_one (ps_ret (pe_callTy call_int1 (by rfl) B.int (by decide +kernel) (pa_cons (pe_ix ix_list (pv 0) (pv 1) (fun _ _ => rfl)) pa_nil))))
      pss_nil)
      (pss_one (ps_ret pe_int))), ?_⟩
    walk_at "rq"
    refine ⟨_, _, rfl, .inl hS, ?_⟩
    walk_at "rq"
    rw [List.length_map]
    refine r_ite (fun h1 => ?_) (fun h1 => ?_) <;> walk_at "rq"
    · have h1' := of_decide_eq_true h1
      have hk : k < ns.length := by omega
      refine r_ixL hS (v := .int ns[k]) (by rw [List.getElem?_map, List.getElem?_eq_getElem hk] <;> rfl) ?_
      walk_at "rq"
      rw [List.getD_eq_getElem?_getD, List.getElem?_eq_getElem hk] at kq
      exact kq
    · have h1' := of_decide_eq_false h1
      rw [List.getD_eq_getElem?_getD, List.getElem?_eq_none (by omega)] at kq
      exact kq
abbrev s_law_numbers : Stmt := top 41
theorem sc_law_numbers : FnScope ["_law_cell_here", "_law_many", "_law_found", "_law_rest", "_law_k"] ["_law_cell_here", "_law_many"] (defScope s_law_numbers) := ⟨rfl, rfl, rfl, by decide +kernel, rfl, by decide +kernel, by decide +kernel⟩
theorem cal_law_numbers (dx : DefAt K mg "_law_numbers" s_law_numbers) (B : Bl mg) : Cal P w K mg base 1 "_law_numbers" ["_law_cell_here", "_law_many"] spNumbers := by
  refine cal_mk dx sc_law_numbers (fun _ _ _ _ _ _ us hl => match us, hl with | [_, _], _ => rfl) (fun vs H Q E h => ?_) (fun f cdv A outer s H vs Q E hr h => ?_)
  · obtain ⟨c, m, rfl, _⟩ := h
    rfl
  · obtain ⟨c, m, rfl, hm, hm2, kq⟩ := h
    refine ⟨_, (pss_cons (ps_set (i := 2) sc_law_numbers.nd rfl (Or.inl rfl) (pe_lst pa_nil))
      (pss_cons (ps_set (i := 3) sc_law_numbers.nd rfl (Or.inl rfl) (pe_callB call_abs (by rfl) B.abs (by decide +kernel) (pa_cons (pv 0) pa_nil)))
      (pss_cons (ps_if (pt_cmpR op_ge (pv 3) pe_int (nomark _))
      (pss_cons (ps_for (passes_of rfl) rfl (pi_range1 (by rfl) B.range (pa_cons (pv 1) pa_nil)) (pg_name (i := 4) sc_law_numbers.nd rfl (Or.inl rfl))
      (pss_cons (ps_expr (pe_bm PySem.F.plainAttrs_list PySem.F.slot_list_append PySem.F.type_list_append mt_append (pv 2) (pa_cons (pe_op op_mod (pe_callTy call_int1 (by rfl) B.int (by decide +kernel) (pa_cons (pv 3) pa_nil)) pe_int) pa_nil)))
      (pss_one (ps_set (i := 3) sc_law_numbers.nd rfl (Or.inl rfl) (pe_op op_fdiv (pv 3) pe_int)))))
      (pss_one (ps_ret (pv 2))))
      pss_nil)
      (pss_cons (ps_for (passes_of rfl) rfl (pi_range1 (by rfl) B.range (pa_cons (pv 1) pa_nil)) (pg_name (i := 4) sc_law_numbers.nd rfl (Or.inl rfl))
      (pss_cons (ps_set (i := 3) sc_law_numbers.nd rfl (Or.inl rfl) (pe_op op_mod (pe_callTy call_int1 (by rfl) B.int (by decide +kernel) (pa_cons (pe_op op_add (pe_op op_add (pe_op op_mulW (pv 3) pe_int) (pe_op op_mulW (pv 4) pe_int)) pe_int) pa_nil)) pe_int))
      (pss_one (ps_expr (pe_bm PySem.F.plainAttrs_list PySem.F.slot_list_append PySem.F.type_list_append mt_append (pv 2) (pa_cons (pe_op op_mod (pe_op op_mod (pe_callTy call_int1 (by rfl) B.int (by decide +kernel) (pa_cons (pe_op op_mulW (pv 3) pe_int) pa_nil)) pe_int) pe_int) pa_nil))))))
      (pss_one (ps_ret (pv 2))))))), ?_⟩
    walk_at "rq"
    intro p hp
    have a1 : upd H p (.lst []) p = some (.lst []) := upd_same
    have s1 : Same H (upd H p (.lst [])) := Same.new hp
    generalize upd H p (.lst []) = H1 at *
    walk_at "rq"
    have hc : ∃ n : Nat, (if c < 0 then -c else c) = (n : Int) := ⟨c.natAbs, by split <;> omega⟩
    obtain ⟨n, hc⟩ := hc
    rw [hc]
    refine r_ite (fun h1 => ?_) (fun h1 => ?_)
    · walk_at "rq"
      refine ⟨by omega, by omega, ?_⟩
      rw [show ((m : Int)).toNat = m by omega]
      refine for_range (lo := 0) (n := m) (fun k σ' H' => ∃ (N : List Nat) (r : Nat) (v4 : Option V), σ' = [some (.int c), some (.int (m : Int)), some (.ref p), some (.int (r : Int)), v4] ∧ Same H H' ∧ H' p = some (.lst (N.map fun (n : Nat) => V.int (n : Int))) ∧ N.length = k ∧ ∀ n ∈ N, n < 1048576) ⟨[], n, none, rfl, s1, a1, rfl, (fun n h => by cases h)⟩ ?_ ?_
      · rintro k σ' H' hk ⟨N, r, v4, rfl, hs, hpl, hN, hlt⟩
        walk_at "rq"
        refine ⟨.inl ⟨rfl, _, SqL.of hpl⟩, ?_⟩
        walk_at "rq"
        rw [show (r : Int) % 1048576 = ((r % 1048576 : Nat) : Int) by omega]
        refine ⟨p, _, .int ((r % 1048576 : Nat) : Int), rfl, rfl, hpl, by rw [sizeLine_eq, List.length_map]; omega, ?_⟩
        walk_at "rq"
        rw [show (r : Int) / 1048576 = ((r / 1048576 : Nat) : Int) by omega]
        refine ⟨N ++ [r % 1048576], r / 1048576, _, rfl, Same.mut hs hp, ?_, by rw [List.length_append, hN]; rfl, ?_⟩
        · rw [upd_same, List.map_append]; rfl
        · intro x hx
          rcases List.mem_append.mp hx with hx | hx
          · exact hlt x hx
          · rw [List.mem_singleton] at hx
            omega
      · rintro σ' H' ⟨N, r, v4, rfl, hs, hpl, hN, hlt⟩
        walk_at "rq"
        exact kq p N H' hs hpl hN hlt
    · have h1 := of_decide_eq_false h1
      walk_at "rq"
      refine ⟨by omega, by omega, ?_⟩
      rw [show ((m : Int)).toNat = m by omega]
      refine for_range (lo := 0) (n := m) (fun k σ' H' => ∃ (N : List Nat) (r : Nat) (v4 : Option V), σ' = [some (.int c), some (.int (m : Int)), some (.ref p), some (.int (r : Int)), v4] ∧ Same H H' ∧ H' p = some (.lst (N.map fun (n : Nat) => V.int (n : Int))) ∧ N.length = k ∧ (∀ n ∈ N, n < 1048576) ∧ r < 1000000000000000000) ⟨[], n, none, rfl, s1, a1, rfl, (fun n h => by cases h), by omega⟩ ?_ ?_
      · rintro k σ' H' hk ⟨N, r, v4, rfl, hs, hpl, hN, hlt, hr1⟩
        walk_at "rq"
        refine r_I (wide_mul (a := 64) (b := 64) (by omega) (by decide) (by decide) (by decide) (by decide)) ?_
        walk_at "rq"
        refine r_I (wide_mul (a := 64) (b := 64) (by omega) (by decide) (by decide) (by decide) (by decide)) ?_
        walk_at "rq"
        rw [show ((r : Int) * 48271 + (0 + (k : Int)) * 7919 + 11) % 2147483647 = (((r * 48271 + k * 7919 + 11) % 2147483647 : Nat) : Int) by omega]
        have hr2 : (r * 48271 + k * 7919 + 11) % 2147483647 < 2147483647 := Nat.mod_lt _ (by decide)
        generalize (r * 48271 + k * 7919 + 11) % 2147483647 = r2 at *
        refine ⟨.inl ⟨rfl, _, SqL.of hpl⟩, ?_⟩
        walk_at "rq"
        refine r_I (wide_mul (a := 64) (b := 64) (by omega) (by decide) (by decide) (by decide) (by decide)) ?_
        walk_at "rq"
        rw [show ((r2 : Int) * 69621) % 2147483629 % 1048576 = ((r2 * 69621 % 2147483629 % 1048576 : Nat) : Int) from by rw [Int.natCast_emod, Int.natCast_emod, Int.natCast_mul] <;> rfl]
        refine ⟨p, _, .int ((r2 * 69621 % 2147483629 % 1048576 : Nat) : Int), rfl, rfl, hpl, by rw [sizeLine_eq, List.length_map]; omega, ?_⟩
        walk_at "rq"
        refine ⟨N ++ [r2 * 69621 % 2147483629 % 1048576], r2, _, rfl, Same.mut hs hp, ?_, by rw [List.length_append, hN]; rfl, ?_, by omega⟩
        · rw [upd_same, List.map_append]; rfl
        · intro x hx
          rcases List.mem_append.mp hx with hx | hx
          · exact hlt x hx
          · rw [List.mem_singleton] at hx
            omega
      · rintro σ' H' ⟨N, r, v4, rfl, hs, hpl, hN, hlt, _⟩
        walk_at "rq"
        exact kq p N H' hs hpl hN hlt
abbrev s_law_feed : Stmt := top 42
theorem sc_law_feed : FnScope ["_law_cell_here", "_law_many"] ["_law_cell_here", "_law_many"] (defScope s_law_feed) := ⟨rfl, rfl, rfl, by decide +kernel, rfl, by decide +kernel, by decide +kernel⟩
theorem cal_law_feed (dx : DefAt K mg "_law_feed" s_law_feed) (B : Bl mg) (G_law_numbers : Cal P w K mg base 1 "_law_numbers" ["_law_cell_here", "_law_many"] spNumbers) : Cal P w K mg base 2 "_law_feed" ["_law_cell_here", "_law_many"] spFeed := by
  refine cal_mk dx sc_law_feed (fun _ _ _ _ _ _ us hl => match us, hl with | [_, _], _ => rfl) (fun vs H Q E h => ?_) (fun f cdv A outer s H vs Q E hr h => ?_)
  · obtain ⟨c, m, rfl, _⟩ := h
    rfl
  · obtain ⟨c, m, rfl, hm, hm2, kq⟩ := h
    have tk : L2N.Takes (cxOf (L2N.CX P w) P w K mg base ["_law_cell_here", "_law_many"] "_law_feed" (defScope s_law_feed) f cdv A outer s H E) (fun cls d _ H => E cls d H) := L2N.takes_of rfl rfl rfl rfl
    refine ⟨_, (pss_one (ps_ret (pe_disp (pps_cons pe_str pe_int (pps_cons pe_str (pe_cal G_law_numbers (hr.mono (by first | decide | omega)) tk (pa_cons (pv 0) (pa_cons (pv 1) pa_nil))) (pps_cons pe_str pe_int pps_nil))) (by rfl) (by rfl) (fun z => by cases z) (by decide)))), ?_⟩
    walk_at "rq"
    intro d hd
    have a1 : upd H d (.dK []) d = some (.dK []) := upd_same
    have s1 : Same H (upd H d (.dK [])) := Same.new hd
    generalize upd H d (.dK []) = H1 at *
    walk_at "rq"
    refine ⟨c, m, rfl, hm, hm2, fun p N H2 hs2 hpl hN hlt => ?_⟩
    walk_at "rq"
    refine ⟨hs2 _ _ a1, [(atK, .int 0), (nuK, .ref p), (frK, .int 0)], rfl, by show 3 ≤ 15; decide, ?_⟩
    have em : mergeK [] [(atK, V.int 0), (nuK, .ref p), (frK, .int 0)] = [(atK, V.int ((0 : Nat) : Int)), (nuK, .ref p), (frK, .int 0)] := by with_unfolding_all rfl
    rw [em]
    have pd : p ≠ d := fun e => by rw [e, hs2 _ _ a1] at hpl; cases hpl
    exact kq d p N _ (Same.mut (fun b o h => hs2 _ _ (s1 _ _ h)) hd) hd ⟨upd_same, (upd_ne pd).trans hpl, ⟨by omega, by omega⟩, hlt⟩ hN
abbrev s_law_take : Stmt := top 43
theorem sc_law_take : FnScope ["_law_feed_here", "_law_limit", "_law_numbers_here", "_law_at"] ["_law_feed_here", "_law_limit"] (defScope s_law_take) := ⟨rfl, rfl, rfl, by decide +kernel, rfl, by decide +kernel, by decide +kernel⟩
theorem cal_law_take (dx : DefAt K mg "_law_take" s_law_take) (B : Bl mg) : Cal P w K mg base 1 "_law_take" ["_law_feed_here", "_law_limit"] spTake := by
  refine cal_mk dx sc_law_take (fun _ _ _ _ _ _ us hl => match us, hl with | [_, _], _ => rfl) (fun vs H Q E h => ?_) (fun fn cdv A outer s H vs Q E hr h => ?_)
  · obtain ⟨f, nl, N, a, lim, rfl, _⟩ := h
    rfl
  · obtain ⟨f, nl, N, a, lim, rfl, hf, hlim, ha, kq⟩ := h
    have hu := hu_of hr
    have h1 := hf.d
    have h2 := hf.l
    have hpos := hf.pos
    have nf : nl ≠ f := fun e => by rw [e, h1] at h2; cases h2
    refine ⟨_, (pss_cons (ps_set (i := 2) sc_law_take.nd rfl (Or.inl rfl) (pe_dget hu (pv 0) pe_str (fun _ _ => rfl)))
      (pss_cons (ps_set (i := 3) sc_law_take.nd rfl (Or.inl rfl) (pe_dget hu (pv 0) pe_str (fun _ _ => rfl)))
      (pss_cons (ps_asg (pe_op op_add (pv 3) pe_int) (pg_sub (pv 0) pe_str (set_dict hu)))
      (pss_one (ps_ret (pe_op op_mod (pe_callTy call_int1 (by rfl) B.int (by decide +kernel) (pa_cons (pe_op op_fdiv (pe_ix ix_list (pv 2) (pe_op op_mod (pv 3) (pe_callB call_len_seq (by rfl) B.len PySem.boot_len (pa_cons (pv 2) pa_nil))) (fun _ _ => rfl)) (pe_op op_add pe_int (pe_op op_mulW (pe_op op_fdiv (pv 3) (pe_callB call_len_seq (by rfl) B.len PySem.boot_len (pa_cons (pv 2) pa_nil))) pe_int))) pa_nil)) (pv 1))))))), ?_⟩
    walk_at "rq"
    have g1 : DGet H f (.str "numbers") (some (.ref nl)) := by
      have := DGet.k (k := .inr "numbers") h1
      rw [get_nu] at this
      exact this
    have g2 : DGet H f (.str "at") (some (.int (a : Int))) := by
      have := DGet.k (k := .inr "at") h1
      rw [get_at] at this
      exact this
    refine ⟨f, _, rfl, g1, ?_⟩
    walk_at "rq"
    refine ⟨f, _, rfl, g2, ?_⟩
    walk_at "rq"
    refine r_gsub ?_
    walk_at "rq"
    have g3 := DPut.k (k := .inr "at") (v := .int ((a : Int) + 1)) h1 (by rw [sizeLine_eq]; show 3 < _; decide)
    rw [put_at] at g3
    refine ⟨f, _, rfl, g3, ?_⟩
    have e1 : upd H f (.dK [(atK, .int ((a : Int) + 1)), (nuK, .ref nl), (frK, .int 0)]) f = some (.dK [(atK, .int ((a + 1 : Nat) : Int)), (nuK, .ref nl), (frK, .int 0)]) := upd_same
    have e2 : upd H f (.dK [(atK, .int ((a : Int) + 1)), (nuK, .ref nl), (frK, .int 0)]) nl = some (.lst (N.map fun n => V.int (n : Nat))) := (upd_ne nf).trans h2
    have e3 : Ff f H (upd H f (.dK [(atK, .int ((a : Int) + 1)), (nuK, .ref nl), (frK, .int 0)])) := ⟨fun b u hb _ h => (upd_ne hb).trans h, Keep.mut h1 fun xs z => nomatch z⟩
    generalize upd H f (.dK [(atK, .int ((a : Int) + 1)), (nuK, .ref nl), (frK, .int 0)]) = H1 at *
    walk_at "rq"
    refine ⟨nl, _, rfl, .inl (SqL.of e2), ?_⟩
    walk_at "rq"
    rw [List.length_map]
    refine r_I (by show (0 : Int) < _; omega) ?_
    rw [← Int.natCast_emod]
    have hlt1 : a % N.length < N.length := Nat.mod_lt _ hpos.1
    have hb : (N.map fun n => V.int (n : Nat))[a % N.length]? = some (.int ((N.getD (a % N.length) 0 : Nat) : Int)) := by
      rw [List.getElem?_map, List.getD_eq_getElem?_getD, List.getElem?_eq_getElem hlt1] <;> rfl
    refine r_ixL (SqL.of e2) hb ?_
    walk_at "rq"
    refine ⟨nl, _, rfl, .inl (SqL.of e2), ?_⟩
    walk_at "rq"
    rw [List.length_map]
    refine r_I ⟨by omega, by omega⟩ ?_
    rw [← Int.natCast_ediv]
    have hq1 : a / N.length ≤ a := Nat.div_le_self _ _
    walk_at "rq"
    refine r_I (wide_mul (a := 64) (b := 64) (by rw [Int.natAbs_natCast]; omega) (by decide) (by decide) (by decide) (by decide)) ?_
    walk_at "rq"
    rw [show (1 : Int) + ((a / N.length : Nat) : Int) * 7 = ((1 + a / N.length * 7 : Nat) : Int) by omega]
    refine r_I ⟨by omega, by omega⟩ ?_
    rw [← Int.natCast_ediv]
    walk_at "rq"
    refine r_I (by show (0 : Int) < _; omega) ?_
    rw [← Int.natCast_emod]
    exact kq H1 e3 ⟨e1, e2, hf.pos, hf.lt⟩
end
end Al
namespace Al
open PySem PySem.Spec PyProof.Rows L2 NdefX PySem.W
local macro_rules | `(tactic| walk_at "rd1") => `(tactic| with_reducible first
  | (show tVar _ _ _ _; refine r_var (by with_unfolding_all rfl) ?_) | refine r_c ?_ | refine r_op ?_ | refine r_I0 ?_ | refine r_un ?_ | refine r_U ?_
  | (show rI _ _ _ _ _ _; refine r_I (by with_unfolding_all first | exact ⟨by decide, by decide⟩ | (show (0 : Int) < _; decide)) ?_)
  | refine r_eqI ?_ | refine r_neI ?_ | refine r_eqS ?_ | refine r_neS ?_ | refine r_eqB ?_ | refine r_neB ?_ | refine r_chain ?_
  | refine r_test ?_ | refine r_B ?_ | refine r_bl ?_ | refine r_int ?_ | refine r_and ?_ | refine r_or ?_ | refine r_not ?_ | refine r_andV ?_ | refine r_orV ?_ | refine r_notV ?_
  | refine r_if ?_ | refine r_nil ?_ | refine r_cons ?_ | refine r_cb ?_ | refine r_call ?_ | refine r_callS ?_ | refine r_tup ?_ | refine r_lst ?_ | refine r_seq ?_ | refine r_next ?_ | refine r_asg ?_
  | refine r_name ?_ | refine r_ifS ?_ | refine r_ret ?_ | refine r_retN ?_ | refine r_drop ?_ | refine r_brk ?_ | refine r_ct ?_ | refine r_sl ?_ | refine r_part ?_ | refine r_nopart ?_
  | refine r_bm ?_ | refine r_bm0 ?_ | refine r_raiseX ?_ | refine r_mkO ?_ | refine iteF ?_ | refine iteT ?_ | refine r_int1 ?_ | refine r_int1b ?_ | (show _ ≤ sizeLine ∧ _; refine r_sz (by with_unfolding_all first | omega | (simp only [List.length_cons, List.length_nil]; omega)) ?_)
  | (show ∃ _, _; refine ⟨_, rfl, ?_⟩) | (show ∃ _, _; refine ⟨_, _, rfl, rfl, ?_⟩) | (show ∃ _, _; refine ⟨_, _, rfl, ?_⟩))
local macro_rules | `(tactic| walk_at "rd") => `(tactic| repeat (walk_at "rd1"))
local macro_rules | `(tactic| walk_at "rd2") => `(tactic| with_reducible first
  | (show tFld _ _ _ _ _ _; refine r_fldI (by with_unfolding_all rfl) (by with_unfolding_all assumption) (by with_unfolding_all assumption) (by with_unfolding_all assumption) (by with_unfolding_all rfl) ?_)
  | (show tMetS _ _ _ _ _ _ _ _ _; refine r_rm (by with_unfolding_all assumption) (by with_unfolding_all rfl) (by decide) ?_)
  | refine r_sfl ?_ | refine iteNF ?_ | refine iteNT ?_ | refine r_makS ?_)
local macro_rules | `(tactic| walk_at "rp") => `(tactic| repeat first | walk_at "rd1" | walk_at "rd2")
local macro_rules | `(tactic| walk_at "rq1") => `(tactic| with_reducible first | refine r_rng1 ?_ | refine r_rng2 ?_ | refine r_forL ?_ | refine r_forT ?_ | refine r_dget ?_ | refine r_pnil ?_ | refine r_pcons ?_ | refine r_lcL ?_ | refine r_lcT ?_ | refine r_lcR ?_ | refine r_yes ?_ | refine r_disp ?_)
local macro_rules | `(tactic| walk_at "rq") => `(tactic| repeat first | walk_at "rd1" | walk_at "rd2" | walk_at "rq1")

/-! ### k01: what is drawn, walked -/
theorem Ff.mut {f D : Addr} {H H' : Hp} {o : HO} (s : Ff f H H') (h : H D = none) : Ff f H (upd H' D o) :=
  ⟨fun b u h1 _ hb => (upd_ne (ne_of_none hb h)).trans (s.get h1 hb), fun a xs ha => (upd_ne (ne_of_none ha h)).trans (s.kp a xs ha)⟩
theorem Ff.refl {f : Addr} {H : Hp} : Ff f H H := ⟨fun _ _ _ _ h => h, Keep.refl _⟩
theorem uD0_app : ∀ u v : Un, uD0 (u ++ v) = uD0 u ++ uD0 v
  | [], v => rfl
  | (z, p) :: u, v => congrArg (_ :: ·) (uD0_app u v)
theorem brL_get (N : List Nat) : ∀ (n a i : Nat), i < n → (brL N n a)[i]? = some (uNms.getD (tkN N 3 (a + 2 * i)) "", uPws.getD (tkN N 6 (a + 2 * i + 1)) 0)
  | 0, a, i, h => by omega
  | n + 1, a, 0, h => rfl
  | n + 1, a, i + 1, h => by
    show (brL N n (a + 2))[i]? = _
    rw [brL_get N n (a + 2) i (by omega), show a + 2 + 2 * i = a + 2 * (i + 1) by omega]
def spBrackets : Sp := fun vs H Q _ => ∃ (f nl : Addr) (N : List Nat) (a : Nat), vs = [.ref f] ∧ Feed H f nl N a ∧ a ≤ 900000 ∧ ∀ v H', Ff f H H' → Feed H' f nl N (brk N a).2 → Tp H' v (.tuple (uD0 (brk N a).1)) → Q v H'
section
variable {P : Program} {w : World} {K : Frag} {mg : Str → Option Value} {base : Heap}
abbrev s_law_brackets : Stmt := top 45
theorem sc_law_brackets : FnScope ["_law_feed_here", "_law_k"] ["_law_feed_here"] (defScope s_law_brackets) := ⟨rfl, rfl, rfl, by decide +kernel, rfl, by decide +kernel, by decide +kernel⟩
theorem cal_law_brackets (dx : DefAt K mg "_law_brackets" s_law_brackets) (B : Bl mg) (G_law_take : Cal P w K mg base 1 "_law_take" ["_law_feed_here", "_law_limit"] spTake) : Cal P w K mg base 2 "_law_brackets" ["_law_feed_here"] spBrackets := by
  refine cal_mk dx sc_law_brackets (fun _ _ _ _ _ _ us hl => match us, hl with | [_], _ => rfl) (fun vs H Q E h => ?_) (fun fn cdv A outer s H vs Q E hr h => ?_)
  · obtain ⟨f, nl, N, a, rfl, _⟩ := h
    rfl
  · obtain ⟨f, nl, N, a, rfl, hf, ha, kq⟩ := h
    have tk : L2N.Takes (cxOf (L2N.CX P w) P w K mg base ["_law_feed_here", "_law_k"] "_law_brackets" (defScope s_law_brackets) fn cdv A outer s H E) (fun cls d _ H => E cls d H) := L2N.takes_of rfl rfl rfl rfl
    refine ⟨_, (pss_one (ps_ret (pe_callTy call_tuple_of (by rfl) B.tuple (by decide +kernel) (pa_cons (pe_lc (own := [("_law_k", 1)]) rfl sc_law_brackets.nd (pi_range1 (by rfl) B.range (pa_cons (pe_cal G_law_take (hr.mono (by first | decide | omega)) tk (pa_cons (pv 0) (pa_cons pe_int pa_nil))) pa_nil)) (blkOk_by (N := ["_law_feed_here", "_law_k"]) (sc := defScope s_law_brackets) (by decide +kernel)) (fun _ _ _ _ _ => (pg_name (i := 1) sc_law_brackets.nd rfl (Or.inl rfl))) (fun _ _ _ _ _ => pts_nil) (fun _ _ _ _ _ => (pe_tup (pa_cons (pe_ix (ix_listK (K := K) rfl) (pe_lst (pa_cons pe_str (pa_cons pe_str (pa_cons pe_str pa_nil)))) (pe_calN G_law_take (hr.mono (by first | decide | omega)) (pa_cons (pv 0) (pa_cons pe_int pa_nil))) (fun _ _ => rfl)) (pa_cons (pe_ix (ix_listK (K := K) rfl) (pe_lst (pa_cons pe_int (pa_cons pe_int (pa_cons (pe_op op_sub pe_int pe_int) (pa_cons pe_int (pa_cons pe_int (pa_cons (pe_op op_sub pe_int pe_int) pa_nil))))))) (pe_calN G_law_take (hr.mono (by first | decide | omega)) (pa_cons (pv 0) (pa_cons pe_int pa_nil))) (fun _ _ => rfl)) (pa_cons pe_int pa_nil)))))) pa_nil)))), ?_⟩
    walk_at "rq"
    refine ⟨f, nl, N, a, 3, rfl, hf, by decide, by omega, fun H1 f1 hf1 => ?_⟩
    walk_at "rq"
    have hn := tk_lt N (lim := 3) (by decide) a
    generalize hm : tkN N 3 a = n at *
    refine ⟨by omega, by omega, fun D hD => ?_⟩
    rw [show ((n : Int)).toNat = n by omega]
    have hbr : brk N a = (brL N n (a + 1), a + 1 + 2 * n) := by unfold brk; rw [hm]
    rw [hbr] at kq
    obtain ⟨Df, Dn⟩ := hf1.apart hD
    have hbl := (brL_ok N n (a + 1)).2.2
    refine lcw_range (lo := 0) (n := n) (fun i H' => Ff f H1 H' ∧ Feed H' f nl N (a + 1 + 2 * i) ∧ ∃ acc, H' D = some (.lst acc) ∧ TpAll H' acc (uD0 ((brL N n (a + 1)).take i)) ∧ acc.length = i) ⟨Ff.refl.mut hD, hf1.keep (Same.new hD), [], upd_same, .nil, rfl⟩ ?_ ?_
    · rintro i H2 hi ⟨f2, hf2, acc, hacc, htp, hal⟩
      walk_at "rq"
      intro q1 hq1
      have a1 : upd H2 q1 (.lst [.str "m", .str "kg", .str "u2"]) q1 = some (.lst (uNms.map V.str)) := upd_same
      have s1 : Same H2 (upd H2 q1 (.lst [.str "m", .str "kg", .str "u2"])) := Same.new hq1
      have g1 := hf2.apart hq1
      generalize upd H2 q1 (.lst [.str "m", .str "kg", .str "u2"]) = H3 at *
      walk_at "rq"
      refine ⟨f, nl, N, _, 3, rfl, hf2.keep s1, by decide, by omega, fun H4 f4 hf4 => ?_⟩
      walk_at "rq"
      have hb1 : (uNms.map V.str)[tkN N 3 (a + 1 + 2 * i)]? = some (.str (uNms.getD (tkN N 3 (a + 1 + 2 * i)) "")) := by
        have := tk_lt N (lim := 3) (by decide) (a + 1 + 2 * i)
        rw [List.getElem?_map, List.getElem?_eq_getElem (show _ < uNms.length from this), List.getD_eq_getElem?_getD, List.getElem?_eq_getElem (show _ < uNms.length from this)] <;> rfl
      refine r_ixL (SqL.of (f4.get g1.1 a1)) hb1 ?_
      walk_at "rq"
      intro q2 hq2
      have a2 : upd H4 q2 (.lst [.int 1, .int 2, .int (0 - 1), .int 0, .int 9, .int (0 - 9)]) q2 = some (.lst (uPws.map V.int)) := upd_same
      have s2 : Same H4 (upd H4 q2 (.lst [.int 1, .int 2, .int (0 - 1), .int 0, .int 9, .int (0 - 9)])) := Same.new hq2
      have g2 := hf4.apart hq2
      generalize upd H4 q2 (.lst [.int 1, .int 2, .int (0 - 1), .int 0, .int 9, .int (0 - 9)]) = H5 at *
      walk_at "rq"
      refine ⟨f, nl, N, _, 6, rfl, hf4.keep s2, by decide, by omega, fun H6 f6 hf6 => ?_⟩
      walk_at "rq"
      have hb2 : (uPws.map V.int)[tkN N 6 (a + 1 + 2 * i + 1)]? = some (.int (uPws.getD (tkN N 6 (a + 1 + 2 * i + 1)) 0)) := by
        have := tk_lt N (lim := 6) (by decide) (a + 1 + 2 * i + 1)
        rw [List.getElem?_map, List.getElem?_eq_getElem (show _ < uPws.length from this), List.getD_eq_getElem?_getD, List.getElem?_eq_getElem (show _ < uPws.length from this)] <;> rfl
      refine r_ixL (SqL.of (f6.get g2.1 a2)) hb2 ?_
      walk_at "rq"
      intro q3 hq3
      have s3 := Keep.new (o := .tup [.str (uNms.getD (tkN N 3 (a + 1 + 2 * i)) ""), .int (uPws.getD (tkN N 6 (a + 1 + 2 * i + 1)) 0), .int 0]) hq3
      have t3 : Tp (upd H6 q3 (.tup [.str (uNms.getD (tkN N 3 (a + 1 + 2 * i)) ""), .int (uPws.getD (tkN N 6 (a + 1 + 2 * i + 1)) 0), .int 0])) (.ref q3) (.tuple [.str (uNms.getD (tkN N 3 (a + 1 + 2 * i)) ""), .int (uPws.getD (tkN N 6 (a + 1 + 2 * i + 1)) 0), .int 0]) := .tup upd_same (.cons (.str _) (.cons (.int _) (.cons (.int _) .nil)))
      have f36 : Ff f H2 H6 := ((Fr.same s1).trans f4).trans ((Fr.same s2).trans f6)
      have hD6 := f36.get Df hacc
      have qD : D ≠ q3 := ne_of_none hD6 hq3
      have hD7 : upd H6 q3 (.tup [.str (uNms.getD (tkN N 3 (a + 1 + 2 * i)) ""), .int (uPws.getD (tkN N 6 (a + 1 + 2 * i + 1)) 0), .int 0]) D = some (.lst acc) := (upd_ne qD).trans hD6
      have hf7 := hf6.keep (Same.new (o := .tup [.str (uNms.getD (tkN N 3 (a + 1 + 2 * i)) ""), .int (uPws.getD (tkN N 6 (a + 1 + 2 * i + 1)) 0), .int 0]) hq3)
      have f7 : Ff f H2 (upd H6 q3 (.tup [.str (uNms.getD (tkN N 3 (a + 1 + 2 * i)) ""), .int (uPws.getD (tkN N 6 (a + 1 + 2 * i + 1)) 0), .int 0])) := f36.trans (Fr.new hq3)
      generalize upd H6 q3 (.tup [.str (uNms.getD (tkN N 3 (a + 1 + 2 * i)) ""), .int (uPws.getD (tkN N 6 (a + 1 + 2 * i + 1)) 0), .int 0]) = H7 at *
      refine ⟨acc, hD7, by rw [sizeLine_eq]; omega, Ff.mut (f2.trans f7) hD, hf7.upd Df Dn, acc ++ [.ref q3], upd_same, ?_, by rw [List.length_append, hal]; rfl⟩
      have km : Keep H7 (upd H7 D (.lst (acc ++ [.ref q3]))) := Keep.mut hD7 fun xs z => nomatch z
      rw [List.take_succ, brL_get N n (a + 1) i hi, uD0_app]
      exact ((htp.keep f7.kp).keep km).app (.cons (t3.keep km) .nil)
    · rintro H2 ⟨f2, hf2, acc, hacc, htp, hal⟩
      have htk : (brL N n (a + 1)).take n = brL N n (a + 1) := List.take_of_length_le (by omega)
      rw [htk] at htp
      walk_at "rq"
      refine ⟨D, acc, rfl, .inl ⟨SqL.of hacc, fun l hl => ?_⟩⟩
      exact kq _ _ ((f1.trans f2).trans (Fr.new hl)) (hf2.keep (Same.new hl)) (.tup upd_same (htp.keep (Keep.new hl)))
end
end Al
namespace Al
open PySem PySem.Spec PyProof.Rows L2 NdefX PySem.W
local macro_rules | `(tactic| walk_at "rd1") => `(tactic| with_reducible first
  | (show tVar _ _ _ _; refine r_var (by with_unfolding_all rfl) ?_) | refine r_c ?_ | refine r_op ?_ | refine r_I0 ?_ | refine r_un ?_ | refine r_U ?_
  | (show rI _ _ _ _ _ _; refine r_I (by with_unfolding_all first | exact ⟨by decide, by decide⟩ | (show (0 : Int) < _; decide)) ?_)
  | refine r_eqI ?_ | refine r_neI ?_ | refine r_eqS ?_ | refine r_neS ?_ | refine r_eqB ?_ | refine r_neB ?_ | refine r_chain ?_
  | refine r_test ?_ | refine r_B ?_ | refine r_bl ?_ | refine r_int ?_ | refine r_and ?_ | refine r_or ?_ | refine r_not ?_ | refine r_andV ?_ | refine r_orV ?_ | refine r_notV ?_
  | refine r_if ?_ | refine r_nil ?_ | refine r_cons ?_ | refine r_cb ?_ | refine r_call ?_ | refine r_callS ?_ | refine r_tup ?_ | refine r_lst ?_ | refine r_seq ?_ | refine r_next ?_ | refine r_asg ?_
  | refine r_name ?_ | refine r_ifS ?_ | refine r_ret ?_ | refine r_retN ?_ | refine r_drop ?_ | refine r_brk ?_ | refine r_ct ?_ | refine r_sl ?_ | refine r_part ?_ | refine r_nopart ?_
  | refine r_bm ?_ | refine r_bm0 ?_ | refine r_raiseX ?_ | refine r_mkO ?_ | refine iteF ?_ | refine iteT ?_ | refine r_int1 ?_ | refine r_int1b ?_ | (show _ ≤ sizeLine ∧ _; refine r_sz (by with_unfolding_all first | omega | (simp only [List.length_cons, List.length_nil]; omega)) ?_)
  | (show ∃ _, _; refine ⟨_, rfl, ?_⟩) | (show ∃ _, _; refine ⟨_, _, rfl, rfl, ?_⟩) | (show ∃ _, _; refine ⟨_, _, rfl, ?_⟩))
local macro_rules | `(tactic| walk_at "rd") => `(tactic| repeat (walk_at "rd1"))
local macro_rules | `(tactic| walk_at "rd2") => `(tactic| with_reducible first
  | (show tFld _ _ _ _ _ _; refine r_fldI (by with_unfolding_all rfl) (by with_unfolding_all assumption) (by with_unfolding_all assumption) (by with_unfolding_all assumption) (by with_unfolding_all rfl) ?_)
  | (show tMetS _ _ _ _ _ _ _ _ _; refine r_rm (by with_unfolding_all assumption) (by with_unfolding_all rfl) (by decide) ?_)
  | refine r_sfl ?_ | refine iteNF ?_ | refine iteNT ?_ | refine r_makS ?_)
local macro_rules | `(tactic| walk_at "rp") => `(tactic| repeat first | walk_at "rd1" | walk_at "rd2")
local macro_rules | `(tactic| walk_at "rq1") => `(tactic| with_reducible first | refine r_rng1 ?_ | refine r_rng2 ?_ | refine r_forL ?_ | refine r_forT ?_ | refine r_dget ?_ | refine r_pnil ?_ | refine r_pcons ?_ | refine r_lcL ?_ | refine r_lcT ?_ | refine r_lcR ?_ | refine r_yes ?_ | refine r_disp ?_)
local macro_rules | `(tactic| walk_at "rq") => `(tactic| repeat first | walk_at "rd1" | walk_at "rd2" | walk_at "rq1")

/-! ### k01: trees drawn, walked -/
def drwLeaf (N : List Nat) (a : Nat) : Ex × Nat := (leafOf (tkN N 5 (brk N (a + 2)).2) (brk N (a + 2)).1 (eNms.getD (tkN N 3 (a + 1)) "") (tkN N 4 ((brk N (a + 2)).2 + 1)), (brk N (a + 2)).2 + 2)
theorem drw_leaf {N : List Nat} {d a : Nat} (h : d = 0 ∨ tkN N 16 a < 4) : drw N d a = drwLeaf N a := by
  cases d with
  | zero => rfl
  | succ d =>
    have h : tkN N 16 a < 4 := h.resolve_left (by omega)
    unfold drw
    dsimp only
    rw [if_pos h]
    rfl
def cD : Nat → Nat
  | 0 => 9
  | d + 1 => 3 * cD d + 9
theorem brk_at (N : List Nat) (a : Nat) : (brk N a).2 ≤ a + 5 := by
  have := tk_lt N (lim := 3) (by decide) a
  show a + 1 + 2 * tkN N 3 a ≤ a + 5
  omega
theorem drw_at (N : List Nat) : ∀ d a, (drw N d a).2 ≤ a + cD d
  | 0, a => by
    have := brk_at N (a + 2)
    show (brk N (a + 2)).2 + 2 ≤ a + 9
    omega
  | d + 1, a => by
    have ih := drw_at N d
    have hb := brk_at N (a + 2)
    have h3 := ih (a + 3)
    have h2 := ih (a + 2)
    have h33 := ih (drw N d (a + 3)).2
    have h22 := ih (drw N d (a + 2)).2
    have h222 := ih (drw N d (drw N d (a + 2)).2).2
    show _ ≤ a + (3 * cD d + 9)
    unfold drw
    dsimp only
    repeat' split
    all_goals (try dsimp only); omega
def drs (N : List Nat) (d : Nat) : Nat → Nat → List Ex × Nat
  | 0, a => ([], a)
  | n + 1, a => ((drs N d n a).1 ++ [(drw N d (drs N d n a).2).1], (drw N d (drs N d n a).2).2)
theorem drs_at (N : List Nat) (d : Nat) : ∀ n a, (drs N d n a).2 ≤ a + n * cD d
  | 0, a => by show a ≤ a + 0 * cD d; omega
  | n + 1, a => by
    have h1 := drs_at N d n a
    have h2 := drw_at N d (drs N d n a).2
    show (drw N d (drs N d n a).2).2 ≤ a + (n + 1) * cD d
    rw [Nat.succ_mul]
    omega
theorem drw_call {N : List Nat} {e a : Nat} (hp : tkN N 16 a = 4) : (drw N (e + 1) a).1.d0 = .tuple [.str "call", .str (eNms.getD (tkN N 3 (a + 1)) ""), .tuple ((drs N e (tkN N 3 (a + 2)) (a + 3)).1.map Ex.d0), .int 0] ∧ (drw N (e + 1) a).2 = (drs N e (tkN N 3 (a + 2)) (a + 3)).2 := by
  have hn := tk_lt N (lim := 3) (by decide) (a + 2)
  unfold drw
  dsimp only
  rw [if_neg (by omega), if_pos hp]
  generalize tkN N 3 (a + 2) = m at *
  match m, hn with
  | 0, _ => exact ⟨rfl, rfl⟩
  | 1, _ => exact ⟨rfl, rfl⟩
  | 2, _ => exact ⟨rfl, rfl⟩
  | m + 3, h => omega
def spDrw (n : Nat) : Sp := fun vs H Q _ => ∃ (f nl : Addr) (N : List Nat) (a d : Nat), vs = [.ref f, .int (d : Int)] ∧ d < n ∧ n ≤ 5 ∧ Feed H f nl N a ∧ a + cD d ≤ 800000 ∧ ∀ v H', Ff f H H' → Feed H' f nl N (drw N d a).2 → Tp H' v (drw N d a).1.d0 → Q v H'
section
variable {P : Program} {w : World} {K : Frag} {mg : Str → Option Value} {base : Heap}
abbrev s_law_drawn : Stmt := top 44
theorem sc_law_drawn : FnScope ["_law_feed_here", "_law_depth", "_law_pick", "_law_name", "_law_units_here", "_law_number_here", "_law_k", "_law_head"] ["_law_feed_here", "_law_depth"] (defScope s_law_drawn) := ⟨rfl, rfl, rfl, by decide +kernel, rfl, by decide +kernel, by decide +kernel⟩
theorem cal_law_drawn0 (dx : DefAt K mg "_law_drawn" s_law_drawn) : Cal P w K mg base 3 "_law_drawn" ["_law_feed_here", "_law_depth"] (spDrw 0) := by
  refine cal_mk (k := 2) dx sc_law_drawn (fun _ _ _ _ _ _ us hl => match us, hl with | [_, _], _ => rfl) (fun vs H Q E h => ?_) (fun f cdv A outer s H vs Q E hr h => ?_)
  · obtain ⟨f, nl, N, a, d, _, h, _⟩ := h
    omega
  · obtain ⟨f, nl, N, a, d, _, h, _⟩ := h
    omega
theorem cal_law_drawn (dx : DefAt K mg "_law_drawn" s_law_drawn) (B : Bl mg) (G_law_take : Cal P w K mg base 1 "_law_take" ["_law_feed_here", "_law_limit"] spTake) (G_law_brackets : Cal P w K mg base 2 "_law_brackets" ["_law_feed_here"] spBrackets) {n k : Nat} (hk : 2 ≤ k)
    (G_law_drawn : Cal P w K mg base k "_law_drawn" ["_law_feed_here", "_law_depth"] (spDrw n)) : Cal P w K mg base (k + 1) "_law_drawn" ["_law_feed_here", "_law_depth"] (spDrw (n + 1)) := by
  refine cal_mk dx sc_law_drawn (fun _ _ _ _ _ _ us hl => match us, hl with | [_, _], _ => rfl) (fun vs H Q E h => ?_) (fun fn cdv A outer s H vs Q E hr h => ?_)
  · obtain ⟨f, nl, N, a, d, rfl, _⟩ := h
    rfl
  · obtain ⟨f, nl, N, a, d, rfl, hd, hn, hf, ha, kq⟩ := h
    have tk : L2N.Takes (cxOf (L2N.CX P w) P w K mg base ["_law_feed_here", "_law_depth", "_law_pick", "_law_name", "_law_units_here", "_law_number_here", "_law_k", "_law_head"] "_law_drawn" (defScope s_law_drawn) fn cdv A outer s H E) (fun cls d _ H => E cls d H) := L2N.takes_of rfl rfl rfl rfl
    refine ⟨_, (pss_cons (ps_set (i := 2) sc_law_drawn.nd rfl (Or.inl rfl) (pe_cal G_law_take (hr.mono (by first | decide | omega)) tk (pa_cons (pv 0) (pa_cons pe_int pa_nil))))
      (pss_cons (ps_set (i := 3) sc_law_drawn.nd rfl (Or.inl rfl) (pe_ix ix_list (pe_lst (pa_cons pe_str (pa_cons pe_str (pa_cons pe_str pa_nil)))) (pe_cal G_law_take (hr.mono (by first | decide | omega)) tk (pa_cons (pv 0) (pa_cons pe_int pa_nil))) (fun _ _ => rfl)))
      (pss_cons (ps_if (PW.pt (pw_or (pt_cmpR op_eq (pv 1) pe_int (nomark _)) (pw_or1 (pt_cmpR op_lt (pv 2) pe_int (nomark _)))))
      (pss_cons (ps_set (i := 4) sc_law_drawn.nd rfl (Or.inl rfl) (pe_cal G_law_brackets (hr.mono (by first | decide | omega)) tk (pa_cons (pv 0) pa_nil)))
      (pss_cons (ps_set (i := 5) sc_law_drawn.nd rfl (Or.inl rfl) (pe_ix ix_list (pe_lst (pa_cons (pe_tup (pa_cons pe_int (pa_cons pe_int pa_nil))) (pa_cons (pe_tup (pa_cons pe_int (pa_cons pe_int pa_nil))) (pa_cons (pe_tup (pa_cons pe_int (pa_cons pe_int pa_nil))) (pa_cons (pe_tup (pa_cons pe_int (pa_cons pe_int pa_nil))) (pa_cons (pe_tup (pa_cons pe_int (pa_cons pe_int pa_nil))) pa_nil)))))) (pe_cal G_law_take (hr.mono (by first | decide | omega)) tk (pa_cons (pv 0) (pa_cons pe_int pa_nil))) (fun _ _ => rfl)))
      (pss_one (ps_ret (pe_ix ix_list (pe_lst (pa_cons (pe_tup (pa_cons pe_str (pa_cons (pv 5) (pa_cons (pv 4) (pa_cons pe_int pa_nil))))) (pa_cons (pe_tup (pa_cons pe_str (pa_cons pe_bl pa_nil))) (pa_cons (pe_tup (pa_cons pe_str (pa_cons pe_bl pa_nil))) (pa_cons (pe_tup (pa_cons pe_str (pa_cons (pv 3) (pa_cons pe_int pa_nil)))) pa_nil))))) (pe_cal G_law_take (hr.mono (by first | decide | omega)) tk (pa_cons (pv 0) (pa_cons pe_int pa_nil))) (fun _ _ => rfl))))))
      pss_nil)
      (pss_cons (ps_if (pt_cmpR op_eq (pv 2) pe_int (nomark _))
      (pss_one (ps_ret (pe_tup (pa_cons pe_str (pa_cons (pv 3) (pa_cons (pe_callTy call_tuple_of (by rfl) B.tuple (by decide +kernel) (pa_cons (pe_lc (own := [("_law_k", 6)]) rfl sc_law_drawn.nd (pi_range1 (by rfl) B.range (pa_cons (pe_cal G_law_take (hr.mono (by first | decide | omega)) tk (pa_cons (pv 0) (pa_cons pe_int pa_nil))) pa_nil)) (blkOk_by (N := ["_law_feed_here", "_law_depth", "_law_pick", "_law_name", "_law_units_here", "_law_number_here", "_law_k", "_law_head"]) (sc := defScope s_law_drawn) (by decide +kernel)) (fun _ _ _ _ _ => (pg_name (i := 6) sc_law_drawn.nd rfl (Or.inl rfl))) (fun _ _ _ _ _ => pts_nil) (fun _ _ _ _ _ => (pe_calN G_law_drawn (hr.mono (by first | decide | omega)) (pa_cons (pv 0) (pa_cons (pe_op op_sub (pv 1) pe_int) pa_nil))))) pa_nil)) (pa_cons pe_int pa_nil)))))))
      pss_nil)
      (pss_cons (ps_if (pt_cmpR op_eq (pv 2) pe_int (nomark _))
      (pss_one (ps_ret (pe_tup (pa_cons pe_str (pa_cons (pv 3) (pa_cons (pe_cal G_law_take (hr.mono (by first | decide | omega)) tk (pa_cons (pv 0) (pa_cons pe_int pa_nil))) (pa_cons (pe_cal G_law_drawn (hr.mono (by first | decide | omega)) tk (pa_cons (pv 0) (pa_cons (pe_op op_sub (pv 1) pe_int) pa_nil))) (pa_cons pe_int pa_nil))))))))
      pss_nil)
      (pss_cons (ps_if (pt_cmpR op_eq (pv 2) pe_int (nomark _))
      (pss_one (ps_ret (pe_tup (pa_cons pe_str (pa_cons (pe_cal G_law_drawn (hr.mono (by first | decide | omega)) tk (pa_cons (pv 0) (pa_cons (pe_op op_sub (pv 1) pe_int) pa_nil))) (pa_cons (pe_op op_sub (pe_cal G_law_take (hr.mono (by first | decide | omega)) tk (pa_cons (pv 0) (pa_cons pe_int pa_nil))) pe_int) (pa_cons pe_int pa_nil)))))))
      pss_nil)
      (pss_cons (ps_if (pt_cmpR op_eq (pv 2) pe_int (nomark _))
      (pss_one (ps_ret (pe_tup (pa_cons pe_str (pa_cons (pe_cal G_law_drawn (hr.mono (by first | decide | omega)) tk (pa_cons (pv 0) (pa_cons (pe_op op_sub (pv 1) pe_int) pa_nil))) (pa_cons pe_int pa_nil))))))
      pss_nil)
      (pss_cons (ps_if (pt_cmpR op_eq (pv 2) pe_int (nomark _))
      (pss_one (ps_ret (pe_tup (pa_cons pe_str (pa_cons (pe_cal G_law_drawn (hr.mono (by first | decide | omega)) tk (pa_cons (pv 0) (pa_cons (pe_op op_sub (pv 1) pe_int) pa_nil))) (pa_cons (pe_cal G_law_drawn (hr.mono (by first | decide | omega)) tk (pa_cons (pv 0) (pa_cons (pe_op op_sub (pv 1) pe_int) pa_nil))) (pa_cons (pe_cal G_law_drawn (hr.mono (by first | decide | omega)) tk (pa_cons (pv 0) (pa_cons (pe_op op_sub (pv 1) pe_int) pa_nil))) (pa_cons pe_int pa_nil))))))))
      pss_nil)
      (pss_cons (ps_if (pt_cmpR op_eq (pv 2) pe_int (nomark _))
      (pss_one (ps_ret (pe_tup (pa_cons pe_str (pa_cons (pv 3) (pa_cons (pe_cal G_law_drawn (hr.mono (by first | decide | omega)) tk (pa_cons (pv 0) (pa_cons (pe_op op_sub (pv 1) pe_int) pa_nil))) (pa_cons (pe_cal G_law_drawn (hr.mono (by first | decide | omega)) tk (pa_cons (pv 0) (pa_cons (pe_op op_sub (pv 1) pe_int) pa_nil))) (pa_cons pe_int pa_nil))))))))
      pss_nil)
      (pss_cons (ps_set (i := 7) sc_law_drawn.nd rfl (Or.inl rfl) (pe_ix ix_list (pe_lst (pa_cons pe_str (pa_cons pe_str (pa_cons pe_str (pa_cons pe_str (pa_cons pe_str (pa_cons pe_str (pa_cons pe_str (pa_cons pe_str (pa_cons pe_str pa_nil)))))))))) (pe_cal G_law_take (hr.mono (by first | decide | omega)) tk (pa_cons (pv 0) (pa_cons pe_int pa_nil))) (fun _ _ => rfl)))
      (pss_one (ps_ret (pe_tup (pa_cons (pv 7) (pa_cons (pe_cal G_law_drawn (hr.mono (by first | decide | omega)) tk (pa_cons (pv 0) (pa_cons (pe_op op_sub (pv 1) pe_int) pa_nil))) (pa_cons (pe_cal G_law_drawn (hr.mono (by first | decide | omega)) tk (pa_cons (pv 0) (pa_cons (pe_op op_sub (pv 1) pe_int) pa_nil))) (pa_cons pe_int pa_nil))))))))))))))))), ?_⟩
    have hc9 : 9 ≤ cD d := by cases d with
      | zero => exact Nat.le_refl _
      | succ d => show 9 ≤ 3 * cD d + 9; omega
    walk_at "rq"
    refine ⟨f, nl, N, a, 16, rfl, hf, by decide, by omega, fun H1 f1 hf1 => ?_⟩
    walk_at "rq"
    intro q1 hq1
    have a1 : upd H1 q1 (.lst [.str "x", .str "y_1", .str "Q"]) q1 = some (.lst (eNms.map V.str)) := upd_same
    have s1 : Same H1 (upd H1 q1 (.lst [.str "x", .str "y_1", .str "Q"])) := Same.new hq1
    have g1 := hf1.apart hq1
    generalize upd H1 q1 (.lst [.str "x", .str "y_1", .str "Q"]) = H2 at *
    walk_at "rq"
    refine ⟨f, nl, N, a + 1, 3, rfl, hf1.keep s1, by decide, by omega, fun H3 f3 hf3 => ?_⟩
    walk_at "rq"
    have hb1 : (eNms.map V.str)[tkN N 3 (a + 1)]? = some (.str (eNms.getD (tkN N 3 (a + 1)) "")) := by
      have := tk_lt N (lim := 3) (by decide) (a + 1)
      rw [List.getElem?_map, List.getElem?_eq_getElem (show _ < eNms.length from this), List.getD_eq_getElem?_getD, List.getElem?_eq_getElem (show _ < eNms.length from this)] <;> rfl
    refine r_ixL (SqL.of (f3.get g1.1 a1)) hb1 ?_
    have f03 : Ff f H H3 := f1.trans ((Fr.same s1).trans f3)
    have hpk := tk_lt N (lim := 16) (by decide) a
    clear a1 s1 g1 hb1 f1 f3 hf1
    walk_at "rq"
    refine r_ite (fun h1 => ?_) (fun h1 => ?_)
    rotate_left
    have h1 := of_decide_eq_false h1
    walk_at "rq"
    refine r_ite (fun h2 => ?_) (fun h2 => ?_)
    rotate_left
    · have h2 := of_decide_eq_false h2
      obtain ⟨e, rfl⟩ : ∃ e, d = e + 1 := ⟨d - 1, by omega⟩
      have hcd : cD (e + 1) = 3 * cD e + 9 := rfl
      have hp4 : ¬ tkN N 16 a < 4 := by omega
      have dat := drw_at N e
      have d3 := dat (a + 3)
      have d2 := dat (a + 2)
      have d33 := dat (drw N e (a + 3)).2
      have d22 := dat (drw N e (a + 2)).2
      have d222 := dat (drw N e (drw N e (a + 2)).2).2
      walk_at "rq"
      refine r_ite (fun h4 => ?_) (fun h4 => ?_)
      · have h4 := of_decide_eq_true h4
        have hp4' : tkN N 16 a = 4 := by omega
        have hn3 := tk_lt N (lim := 3) (by decide) (a + 2)
        obtain ⟨hdr1, hdr2⟩ := drw_call (e := e) hp4'
        rw [hdr2] at kq
        generalize hm3 : tkN N 3 (a + 2) = m at *
        walk_at "rq"
        refine ⟨f, nl, N, a + 2, 3, rfl, hf3, by decide, by omega, fun G0 fg0 hfg0 => ?_⟩
        walk_at "rq"
        rw [hm3]
        refine ⟨by omega, by omega, fun D hD => ?_⟩
        rw [show ((m : Int)).toNat = m by omega]
        obtain ⟨Df, Dn⟩ := hfg0.apart hD
        refine lcw_range (lo := 0) (n := m) (fun i H' => Ff f G0 H' ∧ Feed H' f nl N (drs N e i (a + 3)).2 ∧ ∃ acc, H' D = some (.lst acc) ∧ TpAll H' acc ((drs N e i (a + 3)).1.map Ex.d0) ∧ acc.length = i) ⟨Ff.refl.mut hD, hfg0.keep (Same.new hD), [], upd_same, .nil, rfl⟩ ?_ ?_
        · rintro i G1 hi ⟨fg1, hfg1, acc, hacc, htp, hal⟩
          have hat := drs_at N e i (a + 3)
          have hi2 : i * cD e ≤ 2 * cD e := Nat.mul_le_mul_right _ (by omega)
          walk_at "rq"
          refine ⟨f, nl, N, _, e, (by rw [show ((e + 1 : Nat) : Int) - 1 = (e : Int) by omega]), by omega, by omega, hfg1, by omega, fun v1 G2 fg2 hfg2 tv1 => ?_⟩
          walk_at "rq"
          have hD2 := fg2.get Df hacc
          have km : Keep G2 (upd G2 D (.lst (acc ++ [v1]))) := Keep.mut hD2 fun xs z => nomatch z
          refine ⟨acc, hD2, by rw [sizeLine_eq]; omega, Ff.mut (fg1.trans fg2) hD, hfg2.upd Df Dn, acc ++ [v1], upd_same, ?_, by rw [List.length_append, hal]; rfl⟩
          show TpAll _ _ (((drs N e i (a + 3)).1 ++ [_]).map Ex.d0)
          rw [List.map_append]
          exact ((htp.keep fg2.kp).keep km).app (.cons (tv1.keep km) .nil)
        · rintro G1 ⟨fg1, hfg1, acc, hacc, htp, hal⟩
          walk_at "rq"
          refine ⟨D, acc, rfl, .inl ⟨SqL.of hacc, fun l hl => ?_⟩⟩
          have tl : Tp (upd G1 l (.tup acc)) (.ref l) (.tuple ((drs N e m (a + 3)).1.map Ex.d0)) := .tup upd_same (htp.keep (Keep.new hl))
          have sl : Same G1 (upd G1 l (.tup acc)) := Same.new hl
          generalize upd G1 l (.tup acc) = G2 at *
          walk_at "rq"
          intro q hq
          refine kq _ _ (f03.trans ((fg0.trans (fg1.trans (Fr.same sl))).trans (Fr.new hq))) ((hfg1.keep sl).keep (Same.new hq)) ?_
          rw [hdr1]
          exact .tup upd_same (.cons (.str _) (.cons (.str _) (.cons (tl.keep (Keep.new hq)) (.cons (.int _) .nil))))
      have h4 := of_decide_eq_false h4
      walk_at "rq"
      refine r_ite (fun h5 => ?_) (fun h5 => ?_)
      · have h5 := of_decide_eq_true h5
        have hdr : drw N (e + 1) a = (.iter (eNms.getD (tkN N 3 (a + 1)) "") (tkN N 21 (a + 2)) (drw N e (a + 3)).1, (drw N e (a + 3)).2) := by
          conv => lhs; unfold drw
          dsimp only
          rw [if_neg hp4, if_neg (by omega), if_pos (by omega)]
        rw [hdr] at kq
        walk_at "rq"
        refine ⟨f, nl, N, a + 2, 21, rfl, hf3, by decide, by omega, fun G0 fg0 hfg0 => ?_⟩
        walk_at "rq"
        refine ⟨f, nl, N, a + 3, e, (by rw [show ((e + 1 : Nat) : Int) - 1 = (e : Int) by omega]), by omega, by omega, hfg0, by omega, fun v1 G1 fg1 hfg1 tv1 => ?_⟩
        walk_at "rq"
        intro q hq
        exact kq _ _ (f03.trans ((fg0.trans fg1).trans (Fr.new hq))) (hfg1.keep (Same.new hq)) (.tup upd_same (.cons (.str _) (.cons (.str _) (.cons (.int _) (.cons (tv1.keep (Keep.new hq)) (.cons (.int _) .nil))))))
      have h5 := of_decide_eq_false h5
      walk_at "rq"
      refine r_ite (fun h6 => ?_) (fun h6 => ?_)
      · have h6 := of_decide_eq_true h6
        have hdr : drw N (e + 1) a = (.pow (drw N e (a + 2)).1 ((tkN N 19 (drw N e (a + 2)).2 : Int) - 9), (drw N e (a + 2)).2 + 1) := by
          conv => lhs; unfold drw
          dsimp only
          rw [if_neg hp4, if_neg (by omega), if_neg (by omega), if_pos (by omega)]
        rw [hdr] at kq
        walk_at "rq"
        refine ⟨f, nl, N, a + 2, e, (by rw [show ((e + 1 : Nat) : Int) - 1 = (e : Int) by omega]), by omega, by omega, hf3, by omega, fun v1 G1 fg1 hfg1 tv1 => ?_⟩
        walk_at "rq"
        refine ⟨f, nl, N, _, 19, rfl, hfg1, by decide, by omega, fun G2 fg2 hfg2 => ?_⟩
        walk_at "rq"
        intro q hq
        exact kq _ _ (f03.trans ((fg1.trans fg2).trans (Fr.new hq))) (hfg2.keep (Same.new hq)) (.tup upd_same (.cons (.str _) (.cons ((tv1.keep fg2.kp).keep (Keep.new hq)) (.cons (.int _) (.cons (.int _) .nil)))))
      have h6 := of_decide_eq_false h6
      walk_at "rq"
      refine r_ite (fun h7 => ?_) (fun h7 => ?_)
      · have h7 := of_decide_eq_true h7
        have hdr : drw N (e + 1) a = (.not (drw N e (a + 2)).1, (drw N e (a + 2)).2) := by
          conv => lhs; unfold drw
          dsimp only
          rw [if_neg hp4, if_neg (by omega), if_neg (by omega), if_neg (by omega), if_pos (by omega)]
        rw [hdr] at kq
        walk_at "rq"
        refine ⟨f, nl, N, a + 2, e, (by rw [show ((e + 1 : Nat) : Int) - 1 = (e : Int) by omega]), by omega, by omega, hf3, by omega, fun v1 G1 fg1 hfg1 tv1 => ?_⟩
        walk_at "rq"
        intro q hq
        exact kq _ _ (f03.trans (fg1.trans (Fr.new hq))) (hfg1.keep (Same.new hq)) (.tup upd_same (.cons (.str _) (.cons (tv1.keep (Keep.new hq)) (.cons (.int _) .nil))))
      have h7 := of_decide_eq_false h7
      walk_at "rq"
      refine r_ite (fun h8 => ?_) (fun h8 => ?_)
      · have h8 := of_decide_eq_true h8
        have hdr : drw N (e + 1) a = (.ite (drw N e (a + 2)).1 (drw N e (drw N e (a + 2)).2).1 (drw N e (drw N e (drw N e (a + 2)).2).2).1, (drw N e (drw N e (drw N e (a + 2)).2).2).2) := by
          conv => lhs; unfold drw
          dsimp only
          rw [if_neg hp4, if_neg (by omega), if_neg (by omega), if_neg (by omega), if_neg (by omega), if_pos (by omega)]
        rw [hdr] at kq
        walk_at "rq"
        refine ⟨f, nl, N, a + 2, e, (by rw [show ((e + 1 : Nat) : Int) - 1 = (e : Int) by omega]), by omega, by omega, hf3, by omega, fun v1 G1 fg1 hfg1 tv1 => ?_⟩
        walk_at "rq"
        refine ⟨f, nl, N, _, e, (by rw [show ((e + 1 : Nat) : Int) - 1 = (e : Int) by omega]), by omega, by omega, hfg1, by omega, fun v2 G2 fg2 hfg2 tv2 => ?_⟩
        walk_at "rq"
        refine ⟨f, nl, N, _, e, (by rw [show ((e + 1 : Nat) : Int) - 1 = (e : Int) by omega]), by omega, by omega, hfg2, by omega, fun v3 G3 fg3 hfg3 tv3 => ?_⟩
        walk_at "rq"
        intro q hq
        exact kq _ _ (f03.trans ((fg1.trans (fg2.trans fg3)).trans (Fr.new hq))) (hfg3.keep (Same.new hq)) (.tup upd_same (.cons (.str _) (.cons (((tv1.keep fg2.kp).keep fg3.kp).keep (Keep.new hq)) (.cons ((tv2.keep fg3.kp).keep (Keep.new hq)) (.cons (tv3.keep (Keep.new hq)) (.cons (.int _) .nil))))))
      have h8 := of_decide_eq_false h8
      walk_at "rq"
      refine r_ite (fun h9 => ?_) (fun h9 => ?_)
      · have h9 := of_decide_eq_true h9
        have hdr : drw N (e + 1) a = (.lett (eNms.getD (tkN N 3 (a + 1)) "") (drw N e (a + 2)).1 (drw N e (drw N e (a + 2)).2).1, (drw N e (drw N e (a + 2)).2).2) := by
          conv => lhs; unfold drw
          dsimp only
          rw [if_neg hp4, if_neg (by omega), if_neg (by omega), if_neg (by omega), if_neg (by omega), if_neg (by omega), if_pos (by omega)]
        rw [hdr] at kq
        walk_at "rq"
        refine ⟨f, nl, N, a + 2, e, (by rw [show ((e + 1 : Nat) : Int) - 1 = (e : Int) by omega]), by omega, by omega, hf3, by omega, fun v1 G1 fg1 hfg1 tv1 => ?_⟩
        walk_at "rq"
        refine ⟨f, nl, N, _, e, (by rw [show ((e + 1 : Nat) : Int) - 1 = (e : Int) by omega]), by omega, by omega, hfg1, by omega, fun v2 G2 fg2 hfg2 tv2 => ?_⟩
        walk_at "rq"
        intro q hq
        exact kq _ _ (f03.trans ((fg1.trans fg2).trans (Fr.new hq))) (hfg2.keep (Same.new hq)) (.tup upd_same (.cons (.str _) (.cons (.str _) (.cons ((tv1.keep fg2.kp).keep (Keep.new hq)) (.cons (tv2.keep (Keep.new hq)) (.cons (.int _) .nil))))))
      have h9 := of_decide_eq_false h9
      have hdr : drw N (e + 1) a = (.op (ops9.getD (tkN N 9 (a + 2)) .or) (drw N e (a + 3)).1 (drw N e (drw N e (a + 3)).2).1, (drw N e (drw N e (a + 3)).2).2) := by
        conv => lhs; unfold drw
        dsimp only
        rw [if_neg hp4, if_neg (by omega), if_neg (by omega), if_neg (by omega), if_neg (by omega), if_neg (by omega), if_neg (by omega)]
      rw [hdr] at kq
      walk_at "rq"
      intro q0 hq0
      have a0 : upd H3 q0 (.lst [.str "add", .str "sub", .str "mul", .str "div", .str "lt", .str "le", .str "eq", .str "and", .str "or"]) q0 = some (.lst (ops9.map fun p => V.str p.head)) := upd_same
      have s0 : Same H3 (upd H3 q0 (.lst [.str "add", .str "sub", .str "mul", .str "div", .str "lt", .str "le", .str "eq", .str "and", .str "or"])) := Same.new hq0
      have g0 := hf3.apart hq0
      generalize upd H3 q0 (.lst [.str "add", .str "sub", .str "mul", .str "div", .str "lt", .str "le", .str "eq", .str "and", .str "or"]) = G0 at *
      walk_at "rq"
      refine ⟨f, nl, N, a + 2, 9, rfl, hf3.keep s0, by decide, by omega, fun G1 fg1 hfg1 => ?_⟩
      walk_at "rq"
      have hb0 : (ops9.map fun p => V.str p.head)[tkN N 9 (a + 2)]? = some (.str (ops9.getD (tkN N 9 (a + 2)) .or).head) := by
        have := tk_lt N (lim := 9) (by decide) (a + 2)
        rw [List.getElem?_map, List.getElem?_eq_getElem (show _ < ops9.length from this), List.getD_eq_getElem?_getD, List.getElem?_eq_getElem (show _ < ops9.length from this)] <;> rfl
      refine r_ixL (SqL.of (fg1.get g0.1 a0)) hb0 ?_
      walk_at "rq"
      refine ⟨f, nl, N, a + 3, e, (by rw [show ((e + 1 : Nat) : Int) - 1 = (e : Int) by omega]), by omega, by omega, hfg1, by omega, fun v1 G2 fg2 hfg2 tv1 => ?_⟩
      walk_at "rq"
      refine ⟨f, nl, N, _, e, (by rw [show ((e + 1 : Nat) : Int) - 1 = (e : Int) by omega]), by omega, by omega, hfg2, by omega, fun v2 G3 fg3 hfg3 tv2 => ?_⟩
      walk_at "rq"
      intro q hq
      exact kq _ _ (f03.trans (((Fr.same s0).trans (fg1.trans (fg2.trans fg3))).trans (Fr.new hq))) (hfg3.keep (Same.new hq)) (.tup upd_same (.cons (.str _) (.cons ((tv1.keep fg3.kp).keep (Keep.new hq)) (.cons (tv2.keep (Keep.new hq)) (.cons (.int _) .nil)))))
    all_goals
      have hl : d = 0 ∨ tkN N 16 a < 4 := by
        first
        | exact .inl (by have := of_decide_eq_true h1; omega)
        | exact .inr (by have := of_decide_eq_true h2; omega)
      walk_at "rq"
      refine ⟨f, nl, N, a + 2, rfl, hf3, by omega, fun v1 H4 f4 hf4 hv1 => ?_⟩
      walk_at "rq"
      intro p1 hp1
      have t1 : Tp (upd H4 p1 (.tup [.int 5, .int 1])) (.ref p1) (.tuple [.int 5, .int 1]) := .tup upd_same (.cons (.int _) (.cons (.int _) .nil))
      have s1 : Same H4 (upd H4 p1 (.tup [.int 5, .int 1])) := Same.new hp1
      generalize upd H4 p1 (.tup [.int 5, .int 1]) = X1 at *
      walk_at "rq"
      intro p2 hp2
      have t2 : Tp (upd X1 p2 (.tup [.int 25, .int 10])) (.ref p2) (.tuple [.int 25, .int 10]) := .tup upd_same (.cons (.int _) (.cons (.int _) .nil))
      have s2 : Same X1 (upd X1 p2 (.tup [.int 25, .int 10])) := Same.new hp2
      generalize upd X1 p2 (.tup [.int 25, .int 10]) = X2 at *
      walk_at "rq"
      intro p3 hp3
      have t3 : Tp (upd X2 p3 (.tup [.int 0, .int 1])) (.ref p3) (.tuple [.int 0, .int 1]) := .tup upd_same (.cons (.int _) (.cons (.int _) .nil))
      have s3 : Same X2 (upd X2 p3 (.tup [.int 0, .int 1])) := Same.new hp3
      generalize upd X2 p3 (.tup [.int 0, .int 1]) = X3 at *
      walk_at "rq"
      intro p4 hp4
      have t4 : Tp (upd X3 p4 (.tup [.int 999999, .int 1])) (.ref p4) (.tuple [.int 999999, .int 1]) := .tup upd_same (.cons (.int _) (.cons (.int _) .nil))
      have s4 : Same X3 (upd X3 p4 (.tup [.int 999999, .int 1])) := Same.new hp4
      generalize upd X3 p4 (.tup [.int 999999, .int 1]) = X4 at *
      walk_at "rq"
      intro p5 hp5
      have t5 : Tp (upd X4 p5 (.tup [.int 1234, .int 10000])) (.ref p5) (.tuple [.int 1234, .int 10000]) := .tup upd_same (.cons (.int _) (.cons (.int _) .nil))
      have s5 : Same X4 (upd X4 p5 (.tup [.int 1234, .int 10000])) := Same.new hp5
      generalize upd X4 p5 (.tup [.int 1234, .int 10000]) = X5 at *
      walk_at "rq"
      intro q5 hq5
      have a5 : upd X5 q5 (.lst [.ref p1, .ref p2, .ref p3, .ref p4, .ref p5]) q5 = some (.lst [.ref p1, .ref p2, .ref p3, .ref p4, .ref p5]) := upd_same
      have s6 : Same X5 (upd X5 q5 (.lst [.ref p1, .ref p2, .ref p3, .ref p4, .ref p5])) := Same.new hq5
      generalize upd X5 q5 (.lst [.ref p1, .ref p2, .ref p3, .ref p4, .ref p5]) = X6 at *
      have s15 : Same X1 X6 := fun b o h => s6 _ _ (s5 _ _ (s4 _ _ (s3 _ _ (s2 _ _ h))))
      have s46 : Same H4 X6 := fun b o h => s15 _ _ (s1 _ _ h)
      have hf6 := hf4.keep s46
      have g5 := (hf4.keep (fun b o h => s5 _ _ (s4 _ _ (s3 _ _ (s2 _ _ (s1 _ _ h)))))).apart hq5
      have hnum : ∀ k < 5, ∃ v, ([.ref p1, .ref p2, .ref p3, .ref p4, .ref p5] : List V)[k]? = some v ∧ Tp X6 v (.tuple [.int (numA.getD k 0 : Nat), .int (numB.getD k 1 : Nat)]) := by
        intro k hk
        match k, hk with
        | 0, _ => exact ⟨_, rfl, t1.keep (Same.keep s15)⟩
        | 1, _ => exact ⟨_, rfl, t2.keep (Same.keep fun b o h => s6 _ _ (s5 _ _ (s4 _ _ (s3 _ _ h))))⟩
        | 2, _ => exact ⟨_, rfl, t3.keep (Same.keep fun b o h => s6 _ _ (s5 _ _ (s4 _ _ h)))⟩
        | 3, _ => exact ⟨_, rfl, t4.keep (Same.keep fun b o h => s6 _ _ (s5 _ _ h))⟩
        | 4, _ => exact ⟨_, rfl, t5.keep (Same.keep s6)⟩
        | k + 5, h => omega
      have hbk := brk_at N (a + 2)
      walk_at "rq"
      refine ⟨f, nl, N, _, 5, rfl, hf6, by decide, by omega, fun H7 f7 hf7 => ?_⟩
      obtain ⟨vn, hvn, tvn⟩ := hnum _ (tk_lt N (lim := 5) (by decide) (brk N (a + 2)).2)
      walk_at "rq"
      refine r_ixL (SqL.of (f7.get g5.1 a5)) hvn ?_
      have tvn7 := tvn.keep f7.kp
      have tv17 := (hv1.keep (Same.keep s46)).keep f7.kp
      have f47 : Ff f H3 H7 := f4.trans ((Fr.same s46).trans f7)
      clear t1 t2 t3 t4 t5 s1 s2 s3 s4 s5 s6 s15 a5 g5 hnum tvn hv1
      walk_at "rq"
      intro u1 hu1
      have t1 : Tp (upd H7 u1 (.tup [.str "number", vn, v1, .int 0])) (.ref u1) (.tuple [.str "number", .tuple [.int (numA.getD (tkN N 5 (brk N (a + 2)).2) 0 : Nat), .int (numB.getD (tkN N 5 (brk N (a + 2)).2) 1 : Nat)], .tuple (uD0 (brk N (a + 2)).1), .int 0]) := .tup upd_same (.cons (.str _) (.cons (tvn7.keep (Keep.new hu1)) (.cons (tv17.keep (Keep.new hu1)) (.cons (.int _) .nil))))
      have s1 : Same H7 (upd H7 u1 (.tup [.str "number", vn, v1, .int 0])) := Same.new hu1
      generalize upd H7 u1 (.tup [.str "number", vn, v1, .int 0]) = Y1 at *
      walk_at "rq"
      intro u2 hu2
      have t2 : Tp (upd Y1 u2 (.tup [.str "bool", .bl true])) (.ref u2) (.tuple [.str "bool", .bool true]) := .tup upd_same (.cons (.str _) (.cons (.bl _) .nil))
      have s2 : Same Y1 (upd Y1 u2 (.tup [.str "bool", .bl true])) := Same.new hu2
      generalize upd Y1 u2 (.tup [.str "bool", .bl true]) = Y2 at *
      walk_at "rq"
      intro u3 hu3
      have t3 : Tp (upd Y2 u3 (.tup [.str "bool", .bl false])) (.ref u3) (.tuple [.str "bool", .bool false]) := .tup upd_same (.cons (.str _) (.cons (.bl _) .nil))
      have s3 : Same Y2 (upd Y2 u3 (.tup [.str "bool", .bl false])) := Same.new hu3
      generalize upd Y2 u3 (.tup [.str "bool", .bl false]) = Y3 at *
      walk_at "rq"
      intro u4 hu4
      have t4 : Tp (upd Y3 u4 (.tup [.str "var", .str (eNms.getD (tkN N 3 (a + 1)) ""), .int 0])) (.ref u4) (.tuple [.str "var", .str (eNms.getD (tkN N 3 (a + 1)) ""), .int 0]) := .tup upd_same (.cons (.str _) (.cons (.str _) (.cons (.int _) .nil)))
      have s4 : Same Y3 (upd Y3 u4 (.tup [.str "var", .str (eNms.getD (tkN N 3 (a + 1)) ""), .int 0])) := Same.new hu4
      generalize upd Y3 u4 (.tup [.str "var", .str (eNms.getD (tkN N 3 (a + 1)) ""), .int 0]) = Y4 at *
      walk_at "rq"
      intro u5 hu5
      have a5 : upd Y4 u5 (.lst [.ref u1, .ref u2, .ref u3, .ref u4]) u5 = some (.lst [.ref u1, .ref u2, .ref u3, .ref u4]) := upd_same
      have s5 : Same Y4 (upd Y4 u5 (.lst [.ref u1, .ref u2, .ref u3, .ref u4])) := Same.new hu5
      generalize upd Y4 u5 (.lst [.ref u1, .ref u2, .ref u3, .ref u4]) = Y5 at *
      have s14 : Same H7 Y4 := fun b o h => s4 _ _ (s3 _ _ (s2 _ _ (s1 _ _ h)))
      have g5 := (hf7.keep s14).apart hu5
      have hf8 := (hf7.keep s14).keep s5
      have hj := tk_lt N (lim := 4) (by decide) ((brk N (a + 2)).2 + 1)
      have hlf : ∀ j < 4, ∃ v, ([.ref u1, .ref u2, .ref u3, .ref u4] : List V)[j]? = some v ∧ Tp Y5 v (leafOf (tkN N 5 (brk N (a + 2)).2) (brk N (a + 2)).1 (eNms.getD (tkN N 3 (a + 1)) "") j).d0 := by
        intro j hj
        match j, hj with
        | 0, _ => exact ⟨_, rfl, t1.keep (Same.keep fun b o h => s5 _ _ (s4 _ _ (s3 _ _ (s2 _ _ h))))⟩
        | 1, _ => exact ⟨_, rfl, t2.keep (Same.keep fun b o h => s5 _ _ (s4 _ _ (s3 _ _ h)))⟩
        | 2, _ => exact ⟨_, rfl, t3.keep (Same.keep fun b o h => s5 _ _ (s4 _ _ h))⟩
        | 3, _ => exact ⟨_, rfl, t4.keep (Same.keep s5)⟩
        | j + 4, h => omega
      walk_at "rq"
      refine ⟨f, nl, N, _, 4, rfl, hf8, by decide, by omega, fun H9 f9 hf9 => ?_⟩
      obtain ⟨vl, hvl, tvl⟩ := hlf _ hj
      walk_at "rq"
      refine r_ixL (SqL.of (f9.get g5.1 a5)) hvl ?_
      walk_at "rq"
      rw [drw_leaf hl] at kq
      exact kq _ _ (f03.trans (f47.trans ((Fr.same fun b o h => s5 _ _ (s14 _ _ h)).trans f9))) hf9 (tvl.keep f9.kp)
theorem law_drawn_all (dx : DefAt K mg "_law_drawn" s_law_drawn) (B : Bl mg) (G_law_take : Cal P w K mg base 1 "_law_take" ["_law_feed_here", "_law_limit"] spTake) (G_law_brackets : Cal P w K mg base 2 "_law_brackets" ["_law_feed_here"] spBrackets) : ∀ n, Cal P w K mg base (3 + n) "_law_drawn" ["_law_feed_here", "_law_depth"] (spDrw n)
  | 0 => cal_law_drawn0 dx
  | n + 1 => cal_law_drawn dx B G_law_take G_law_brackets (k := 3 + n) (by omega) (law_drawn_all dx B G_law_take G_law_brackets n)
end
end Al
namespace Al
open PySem PySem.Spec PyProof.Rows L2 NdefX PySem.W
local macro_rules | `(tactic| walk_at "rd1") => `(tactic| with_reducible first
  | (show tVar _ _ _ _; refine r_var (by with_unfolding_all rfl) ?_) | refine r_c ?_ | refine r_op ?_ | refine r_I0 ?_ | refine r_un ?_ | refine r_U ?_
  | (show rI _ _ _ _ _ _; refine r_I (by with_unfolding_all first | exact ⟨by decide, by decide⟩ | (show (0 : Int) < _; decide)) ?_)
  | refine r_eqI ?_ | refine r_neI ?_ | refine r_eqS ?_ | refine r_neS ?_ | refine r_eqB ?_ | refine r_neB ?_ | refine r_chain ?_
  | refine r_test ?_ | refine r_B ?_ | refine r_bl ?_ | refine r_int ?_ | refine r_and ?_ | refine r_or ?_ | refine r_not ?_ | refine r_andV ?_ | refine r_orV ?_ | refine r_notV ?_
  | refine r_if ?_ | refine r_nil ?_ | refine r_cons ?_ | refine r_cb ?_ | refine r_call ?_ | refine r_callS ?_ | refine r_tup ?_ | refine r_lst ?_ | refine r_seq ?_ | refine r_next ?_ | refine r_asg ?_
  | refine r_name ?_ | refine r_ifS ?_ | refine r_ret ?_ | refine r_retN ?_ | refine r_drop ?_ | refine r_brk ?_ | refine r_ct ?_ | refine r_sl ?_ | refine r_part ?_ | refine r_nopart ?_
  | refine r_bm ?_ | refine r_bm0 ?_ | refine r_raiseX ?_ | refine r_mkO ?_ | refine iteF ?_ | refine iteT ?_ | refine r_int1 ?_ | refine r_int1b ?_ | (show _ ≤ sizeLine ∧ _; refine r_sz (by with_unfolding_all first | omega | (simp only [List.length_cons, List.length_nil]; omega)) ?_)
  | (show ∃ _, _; refine ⟨_, rfl, ?_⟩) | (show ∃ _, _; refine ⟨_, _, rfl, rfl, ?_⟩) | (show ∃ _, _; refine ⟨_, _, rfl, ?_⟩))
local macro_rules | `(tactic| walk_at "rd") => `(tactic| repeat (walk_at "rd1"))
local macro_rules | `(tactic| walk_at "rd2") => `(tactic| with_reducible first
  | (show tFld _ _ _ _ _ _; refine r_fldI (by with_unfolding_all rfl) (by with_unfolding_all assumption) (by with_unfolding_all assumption) (by with_unfolding_all assumption) (by with_unfolding_all rfl) ?_)
  | (show tMetS _ _ _ _ _ _ _ _ _; refine r_rm (by with_unfolding_all assumption) (by with_unfolding_all rfl) (by decide) ?_)
  | refine r_sfl ?_ | refine iteNF ?_ | refine iteNT ?_ | refine r_makS ?_)
local macro_rules | `(tactic| walk_at "rp") => `(tactic| repeat first | walk_at "rd1" | walk_at "rd2")
local macro_rules | `(tactic| walk_at "rq1") => `(tactic| with_reducible first | refine r_rng1 ?_ | refine r_rng2 ?_ | refine r_forL ?_ | refine r_forT ?_ | refine r_dget ?_ | refine r_pnil ?_ | refine r_pcons ?_ | refine r_lcL ?_ | refine r_lcT ?_ | refine r_lcR ?_ | refine r_yes ?_ | refine r_disp ?_)
local macro_rules | `(tactic| walk_at "rq") => `(tactic| repeat first | walk_at "rd1" | walk_at "rd2" | walk_at "rq1")

/-! ### k01: lines drawn, walked -/
theorem opt_at (N : List Nat) (a : Nat) : (opt N a).2 ≤ a + 6 := by
  have := brk_at N a
  show (brk N a).2 + 1 ≤ a + 6
  omega
theorem opt_d0 (N : List Nat) (a : Nat) (v : V) (H : Hp) (hv : Tp H v (.tuple (uD0 (brk N a).1))) : ∃ u, ([.non, v] : List V)[tkN N 2 (brk N a).2]? = some u ∧ Tp H u (oD0 (opt N a).1) := by
  have h2 := tk_lt N (lim := 2) (by decide) (brk N a).2
  unfold opt
  dsimp only
  generalize tkN N 2 (brk N a).2 = k at *
  match k, h2 with
  | 0, _ => exact ⟨.non, rfl, .non⟩
  | 1, _ => exact ⟨v, rfl, hv⟩
  | k + 2, h => omega
theorem pmL_snoc (N : List Nat) (z : Str) : ∀ (zs : List Str) (a : Nat), pmL N (zs ++ [z]) a = ((pmL N zs a).1 ++ [(z, (opt N (pmL N zs a).2).1)], (opt N (pmL N zs a).2).2)
  | [], a => rfl
  | y :: zs, a => by
    have ih := pmL_snoc N z zs (opt N a).2
    show ((y, (opt N a).1) :: (pmL N (zs ++ [z]) (opt N a).2).1, (pmL N (zs ++ [z]) (opt N a).2).2) = _
    rw [ih]
    rfl
theorem pmL_at (N : List Nat) : ∀ (zs : List Str) (a : Nat), (pmL N zs a).2 ≤ a + 6 * zs.length
  | [], a => Nat.le_refl _
  | y :: zs, a => by
    have h1 := pmL_at N zs (opt N a).2
    have h2 := opt_at N a
    show (pmL N zs (opt N a).2).2 ≤ a + 6 * (zs.length + 1)
    omega
theorem pmD0_app : ∀ u v : List Pm, pmD0 (u ++ v) = pmD0 u ++ pmD0 v
  | [], v => rfl
  | p :: u, v => congrArg (_ :: ·) (pmD0_app u v)
theorem lnD_at (N : List Nat) (a : Nat) : (lnD N a).2 ≤ a + 1500 := by
  have h1 := brk_at N (a + 1)
  have h2 := drw_at N 4 (a + 1)
  have h3 := opt_at N (drw N 4 (a + 1)).2
  have h4 := pmL_at N ((["x", "y"] : List Str).take (tkN N 3 (a + 1))) (a + 2)
  have h5 : ((["x", "y"] : List Str).take (tkN N 3 (a + 1))).length ≤ 2 := by rw [List.length_take]; exact Nat.min_le_right _ _
  have h6 := opt_at N (pmL N ((["x", "y"] : List Str).take (tkN N 3 (a + 1))) (a + 2)).2
  have h7 := drw_at N 4 (opt N (pmL N ((["x", "y"] : List Str).take (tkN N 3 (a + 1))) (a + 2)).2).2
  have e4 : cD 4 = 1089 := rfl
  unfold lnD
  dsimp only
  repeat' split
  all_goals (try dsimp only); omega
def spLn : Sp := fun vs H Q _ => ∃ (f nl : Addr) (N : List Nat) (a : Nat), vs = [.ref f] ∧ Feed H f nl N a ∧ a ≤ 700000 ∧ ∀ v H', Ff f H H' → Feed H' f nl N (lnD N a).2 → Tp H' v (lnD N a).1.d0 → Q v H'
section
variable {P : Program} {w : World} {K : Frag} {mg : Str → Option Value} {base : Heap}
abbrev s_law_line : Stmt := top 46
theorem sc_law_line : FnScope ["_law_feed_here", "_law_pick", "_law_parameters", "_law_k"] ["_law_feed_here"] (defScope s_law_line) := ⟨rfl, rfl, rfl, by decide +kernel, rfl, by decide +kernel, by decide +kernel⟩
theorem cal_law_line (dx : DefAt K mg "_law_line" s_law_line) (B : Bl mg) (G_law_take : Cal P w K mg base 1 "_law_take" ["_law_feed_here", "_law_limit"] spTake) (G_law_brackets : Cal P w K mg base 2 "_law_brackets" ["_law_feed_here"] spBrackets)
    (G_law_drawn : Cal P w K mg base 8 "_law_drawn" ["_law_feed_here", "_law_depth"] (spDrw 5)) : Cal P w K mg base 9 "_law_line" ["_law_feed_here"] spLn := by
  refine cal_mk dx sc_law_line (fun _ _ _ _ _ _ us hl => match us, hl with | [_], _ => rfl) (fun vs H Q E h => ?_) (fun fn cdv A outer s H vs Q E hr h => ?_)
  · obtain ⟨f, nl, N, a, rfl, _⟩ := h
    rfl
  · obtain ⟨f, nl, N, a, rfl, hf, ha, kq⟩ := h
    have tk : L2N.Takes (cxOf (L2N.CX P w) P w K mg base ["_law_feed_here", "_law_pick", "_law_parameters", "_law_k"] "_law_line" (defScope s_law_line) fn cdv A outer s H E) (fun cls d _ H => E cls d H) := L2N.takes_of rfl rfl rfl rfl
    refine ⟨_, (pss_cons (ps_set (i := 1) sc_law_line.nd rfl (Or.inl rfl) (pe_cal G_law_take (hr.mono (by first | decide | omega)) tk (pa_cons (pv 0) (pa_cons pe_int pa_nil))))
      (pss_cons (ps_if (pt_cmpR op_eq (pv 1) pe_int (nomark _))
      (pss_one (ps_ret (pe_tup (pa_cons pe_str (pa_cons pe_str (pa_cons pe_int pa_nil))))))
      pss_nil)
      (pss_cons (ps_if (pt_cmpR op_eq (pv 1) pe_int (nomark _))
      (pss_one (ps_ret (pe_tup (pa_cons pe_str (pa_cons pe_str (pa_cons (pe_tup (pa_cons pe_int (pa_cons pe_int pa_nil))) (pa_cons (pe_cal G_law_brackets (hr.mono (by first | decide | omega)) tk (pa_cons (pv 0) pa_nil)) (pa_cons pe_int pa_nil))))))))
      pss_nil)
      (pss_cons (ps_if (pt_cmpR op_lt (pv 1) pe_int (nomark _))
      (pss_cons (ps_set (i := 2) sc_law_line.nd rfl (Or.inl rfl) (pe_callTy call_tuple_of (by rfl) B.tuple (by decide +kernel) (pa_cons (pe_lc (own := [("_law_k", 3)]) rfl sc_law_line.nd (pi_range1 (by rfl) B.range (pa_cons (pe_cal G_law_take (hr.mono (by first | decide | omega)) tk (pa_cons (pv 0) (pa_cons pe_int pa_nil))) pa_nil)) (blkOk_by (N := ["_law_feed_here", "_law_pick", "_law_parameters", "_law_k"]) (sc := defScope s_law_line) (by decide +kernel)) (fun _ _ _ _ _ => (pg_name (i := 3) sc_law_line.nd rfl (Or.inl rfl))) (fun _ _ _ _ _ => pts_nil) (fun _ _ _ _ _ => (pe_tup (pa_cons (pe_ix (ix_listK (K := K) rfl) (pe_lst (pa_cons pe_str (pa_cons pe_str pa_nil))) (pv 3) (fun _ _ => rfl)) (pa_cons (pe_ix (ix_listK (K := K) rfl) (pe_lst (pa_cons pe_non (pa_cons (pe_calN G_law_brackets (hr.mono (by first | decide | omega)) (pa_cons (pv 0) pa_nil)) pa_nil))) (pe_calN G_law_take (hr.mono (by first | decide | omega)) (pa_cons (pv 0) (pa_cons pe_int pa_nil))) (fun _ _ => rfl)) pa_nil))))) pa_nil)))
      (pss_one (ps_ret (pe_tup (pa_cons pe_str (pa_cons pe_str (pa_cons (pv 2) (pa_cons (pe_ix ix_list (pe_lst (pa_cons pe_non (pa_cons (pe_cal G_law_brackets (hr.mono (by first | decide | omega)) tk (pa_cons (pv 0) pa_nil)) pa_nil))) (pe_cal G_law_take (hr.mono (by first | decide | omega)) tk (pa_cons (pv 0) (pa_cons pe_int pa_nil))) (fun _ _ => rfl)) (pa_cons (pe_cal G_law_drawn (hr.mono (by first | decide | omega)) tk (pa_cons (pv 0) (pa_cons pe_int pa_nil))) (pa_cons pe_int pa_nil))))))))))
      pss_nil)
      (pss_one (ps_ret (pe_tup (pa_cons pe_str (pa_cons (pe_cal G_law_drawn (hr.mono (by first | decide | omega)) tk (pa_cons (pv 0) (pa_cons pe_int pa_nil))) (pa_cons (pe_ix ix_list (pe_lst (pa_cons pe_non (pa_cons (pe_cal G_law_brackets (hr.mono (by first | decide | omega)) tk (pa_cons (pv 0) pa_nil)) pa_nil))) (pe_cal G_law_take (hr.mono (by first | decide | omega)) tk (pa_cons (pv 0) (pa_cons pe_int pa_nil))) (fun _ _ => rfl)) (pa_cons pe_int pa_nil))))))))))), ?_⟩
    have e4 : cD 4 = 1089 := rfl
    walk_at "rq"
    refine ⟨f, nl, N, a, 6, rfl, hf, by decide, by omega, fun H1 f1 hf1 => ?_⟩
    have h1 := brk_at N (a + 1)
    have h2 := drw_at N 4 (a + 1)
    walk_at "rq"
    refine r_ite (fun c0 => ?_) (fun c0 => ?_)
    · have c0 := of_decide_eq_true c0
      have hl : lnD N a = (.base, a + 1) := by unfold lnD; dsimp only; rw [if_pos (by omega)]
      rw [hl] at kq
      walk_at "rq"
      intro q hq
      exact kq _ _ (f1.trans (Fr.new hq)) (hf1.keep (Same.new hq)) (.tup upd_same (.cons (.str _) (.cons (.str _) (.cons (.int _) .nil))))
    have c0 := of_decide_eq_false c0
    walk_at "rq"
    refine r_ite (fun c1 => ?_) (fun c1 => ?_)
    · have c1 := of_decide_eq_true c1
      have hl : lnD N a = (.unit (brk N (a + 1)).1, (brk N (a + 1)).2) := by unfold lnD; dsimp only; rw [if_neg (by omega), if_pos (by omega)]
      rw [hl] at kq
      walk_at "rq"
      intro q0 hq0
      have t0 : Tp (upd H1 q0 (.tup [.int 25, .int 10])) (.ref q0) (.tuple [.int 25, .int 10]) := .tup upd_same (.cons (.int _) (.cons (.int _) .nil))
      have s0 : Same H1 (upd H1 q0 (.tup [.int 25, .int 10])) := Same.new hq0
      generalize upd H1 q0 (.tup [.int 25, .int 10]) = H2 at *
      walk_at "rq"
      refine ⟨f, nl, N, a + 1, rfl, hf1.keep s0, by omega, fun v1 H3 f3 hf3 hv1 => ?_⟩
      walk_at "rq"
      intro q hq
      exact kq _ _ (f1.trans ((Fr.same s0).trans (f3.trans (Fr.new hq)))) (hf3.keep (Same.new hq)) (.tup upd_same (.cons (.str _) (.cons (.str _) (.cons ((t0.keep f3.kp).keep (Keep.new hq)) (.cons (hv1.keep (Keep.new hq)) (.cons (.int _) .nil))))))
    have c1 := of_decide_eq_false c1
    walk_at "rq"
    refine r_ite (fun c2 => ?_) (fun c2 => ?_)
    · have c2 := of_decide_eq_true c2
      have hm := tk_lt N (lim := 3) (by decide) (a + 1)
      have hl : lnD N a = (.fn (pmL N ((["x", "y"] : List Str).take (tkN N 3 (a + 1))) (a + 2)).1 (opt N (pmL N ((["x", "y"] : List Str).take (tkN N 3 (a + 1))) (a + 2)).2).1 (drw N 4 (opt N (pmL N ((["x", "y"] : List Str).take (tkN N 3 (a + 1))) (a + 2)).2).2).1, (drw N 4 (opt N (pmL N ((["x", "y"] : List Str).take (tkN N 3 (a + 1))) (a + 2)).2).2).2) := by
        unfold lnD; dsimp only; rw [if_neg (by omega), if_neg (by omega), if_pos (by omega)]
      rw [hl] at kq
      walk_at "rq"
      refine ⟨f, nl, N, a + 1, 3, rfl, hf1, by decide, by omega, fun G0 fg0 hfg0 => ?_⟩
      generalize tkN N 3 (a + 1) = m at *
      walk_at "rq"
      refine ⟨by omega, by omega, fun D hD => ?_⟩
      rw [show ((m : Int)).toNat = m by omega]
      obtain ⟨Df, Dn⟩ := hfg0.apart hD
      refine lcw_range (lo := 0) (n := m) (fun i H' => Ff f G0 H' ∧ Feed H' f nl N (pmL N ((["x", "y"] : List Str).take i) (a + 2)).2 ∧ ∃ acc, H' D = some (.lst acc) ∧ TpAll H' acc (pmD0 (pmL N ((["x", "y"] : List Str).take i) (a + 2)).1) ∧ acc.length = i) ⟨Ff.refl.mut hD, hfg0.keep (Same.new hD), [], upd_same, .nil, rfl⟩ ?_ ?_
      · rintro i G1 hi ⟨fg1, hfg1, acc, hacc, htp, hal⟩
        have hi2 : i < 2 := by omega
        have hat := pmL_at N ((["x", "y"] : List Str).take i) (a + 2)
        have hln : ((["x", "y"] : List Str).take i).length ≤ 2 := by rw [List.length_take]; exact Nat.min_le_right _ _
        have hz : (["x", "y"] : List Str)[i]? = some ((["x", "y"] : List Str).getD i "") := by
          rw [List.getD_eq_getElem?_getD, List.getElem?_eq_getElem (show i < (["x", "y"] : List Str).length from hi2)] <;> rfl
        have htk : (["x", "y"] : List Str).take (i + 1) = (["x", "y"] : List Str).take i ++ [(["x", "y"] : List Str).getD i ""] := by rw [List.take_succ, hz]; rfl
        generalize (["x", "y"] : List Str).getD i "" = z at *
        have hb := brk_at N (pmL N ((["x", "y"] : List Str).take i) (a + 2)).2
        walk_at "rq"
        intro q1 hq1
        have a1 : upd G1 q1 (.lst [.str "x", .str "y"]) q1 = some (.lst ((["x", "y"] : List Str).map V.str)) := upd_same
        have s1 : Same G1 (upd G1 q1 (.lst [.str "x", .str "y"])) := Same.new hq1
        generalize upd G1 q1 (.lst [.str "x", .str "y"]) = G2 at *
        walk_at "rq"
        rw [show (0 : Int) + (i : Int) = ((i : Nat) : Int) by omega]
        refine r_ixL (SqL.of a1) (by rw [List.getElem?_map, hz]; rfl) ?_
        walk_at "rq"
        refine ⟨f, nl, N, _, rfl, hfg1.keep s1, by omega, fun v1 G3 fg3 hfg3 hv1 => ?_⟩
        walk_at "rq"
        intro q2 hq2
        have a2 : upd G3 q2 (.lst [.non, v1]) q2 = some (.lst [.non, v1]) := upd_same
        have s2 : Same G3 (upd G3 q2 (.lst [.non, v1])) := Same.new hq2
        have g2 := hfg3.apart hq2
        generalize upd G3 q2 (.lst [.non, v1]) = G4 at *
        walk_at "rq"
        refine ⟨f, nl, N, _, 2, rfl, hfg3.keep s2, by decide, by omega, fun G5 fg5 hfg5 => ?_⟩
        obtain ⟨u, hu1, hu2⟩ := opt_d0 N _ v1 G4 (hv1.keep (Same.keep s2))
        walk_at "rq"
        refine r_ixL (SqL.of (fg5.get g2.1 a2)) hu1 ?_
        walk_at "rq"
        intro q3 hq3
        have t3 : Tp (upd G5 q3 (.tup [.str z, u])) (.ref q3) (.tuple [.str z, oD0 (opt N (pmL N ((["x", "y"] : List Str).take i) (a + 2)).2).1]) := .tup upd_same (.cons (.str _) (.cons ((hu2.keep fg5.kp).keep (Keep.new hq3)) .nil))
        have s3 : Same G5 (upd G5 q3 (.tup [.str z, u])) := Same.new hq3
        have f15 : Ff f G1 (upd G5 q3 (.tup [.str z, u])) := (Fr.same s1).trans (fg3.trans ((Fr.same s2).trans (fg5.trans (Fr.same s3))))
        have hf6 := hfg5.keep s3
        generalize upd G5 q3 (.tup [.str z, u]) = G6 at *
        have hD6 := f15.get Df hacc
        have km : Keep G6 (upd G6 D (.lst (acc ++ [.ref q3]))) := Keep.mut hD6 fun xs z => nomatch z
        rw [htk, pmL_snoc]
        refine ⟨acc, hD6, by rw [sizeLine_eq]; omega, Ff.mut (fg1.trans f15) hD, hf6.upd Df Dn, acc ++ [.ref q3], upd_same, ?_, by rw [List.length_append, hal]; rfl⟩
        rw [pmD0_app]
        exact ((htp.keep f15.kp).keep km).app (.cons (t3.keep km) .nil)
      · rintro G1 ⟨fg1, hfg1, acc, hacc, htp, hal⟩
        have hat := pmL_at N ((["x", "y"] : List Str).take m) (a + 2)
        have hln : ((["x", "y"] : List Str).take m).length ≤ 2 := by rw [List.length_take]; exact Nat.min_le_right _ _
        generalize pmL N ((["x", "y"] : List Str).take m) (a + 2) = ps at *
        have hb := brk_at N ps.2
        have ho := opt_at N ps.2
        have hdr := drw_at N 4 (opt N ps.2).2
        walk_at "rq"
        refine ⟨D, acc, rfl, .inl ⟨SqL.of hacc, fun l hl => ?_⟩⟩
        have tl : Tp (upd G1 l (.tup acc)) (.ref l) (.tuple (pmD0 ps.1)) := .tup upd_same (htp.keep (Keep.new hl))
        have sl : Same G1 (upd G1 l (.tup acc)) := Same.new hl
        generalize upd G1 l (.tup acc) = G2 at *
        walk_at "rq"
        refine ⟨f, nl, N, _, rfl, hfg1.keep sl, by omega, fun v1 G3 fg3 hfg3 hv1 => ?_⟩
        walk_at "rq"
        intro q2 hq2
        have a2 : upd G3 q2 (.lst [.non, v1]) q2 = some (.lst [.non, v1]) := upd_same
        have s2 : Same G3 (upd G3 q2 (.lst [.non, v1])) := Same.new hq2
        have g2 := hfg3.apart hq2
        generalize upd G3 q2 (.lst [.non, v1]) = G4 at *
        walk_at "rq"
        refine ⟨f, nl, N, _, 2, rfl, hfg3.keep s2, by decide, by omega, fun G5 fg5 hfg5 => ?_⟩
        obtain ⟨u, hu1, hu2⟩ := opt_d0 N _ v1 G4 (hv1.keep (Same.keep s2))
        walk_at "rq"
        refine r_ixL (SqL.of (fg5.get g2.1 a2)) hu1 ?_
        walk_at "rq"
        refine ⟨f, nl, N, (opt N ps.2).2, 4, rfl, by decide, by decide, hfg5, by omega, fun v2 G6 fg6 hfg6 hv2 => ?_⟩
        walk_at "rq"
        intro q hq
        refine kq _ _ (f1.trans ((fg0.trans (fg1.trans (Fr.same sl))).trans ((fg3.trans ((Fr.same s2).trans (fg5.trans fg6))).trans (Fr.new hq)))) (hfg6.keep (Same.new hq)) (.tup upd_same (.cons (.str _) (.cons (.str _) (.cons ?_ (.cons ((((hu2.keep fg5.kp).keep fg6.kp)).keep (Keep.new hq)) (.cons (hv2.keep (Keep.new hq)) (.cons (.int _) .nil)))))))
        exact ((tl.keep (fg3.kp.trans ((Same.keep s2).trans (fg5.kp.trans fg6.kp))))).keep (Keep.new hq)
    have c2 := of_decide_eq_false c2
    have hl : lnD N a = (.shw (drw N 4 (a + 1)).1 (opt N (drw N 4 (a + 1)).2).1, (opt N (drw N 4 (a + 1)).2).2) := by
      unfold lnD; dsimp only; rw [if_neg (by omega), if_neg (by omega), if_neg (by omega)]
    rw [hl] at kq
    have hb := brk_at N (drw N 4 (a + 1)).2
    walk_at "rq"
    refine ⟨f, nl, N, a + 1, 4, rfl, by decide, by decide, hf1, by omega, fun v2 G2 fg2 hfg2 hv2 => ?_⟩
    walk_at "rq"
    refine ⟨f, nl, N, _, rfl, hfg2, by omega, fun v1 G3 fg3 hfg3 hv1 => ?_⟩
    walk_at "rq"
    intro q2 hq2
    have a2 : upd G3 q2 (.lst [.non, v1]) q2 = some (.lst [.non, v1]) := upd_same
    have s2 : Same G3 (upd G3 q2 (.lst [.non, v1])) := Same.new hq2
    have g2 := hfg3.apart hq2
    generalize upd G3 q2 (.lst [.non, v1]) = G4 at *
    walk_at "rq"
    refine ⟨f, nl, N, _, 2, rfl, hfg3.keep s2, by decide, by omega, fun G5 fg5 hfg5 => ?_⟩
    obtain ⟨u, hu1, hu2⟩ := opt_d0 N _ v1 G4 (hv1.keep (Same.keep s2))
    walk_at "rq"
    refine r_ixL (SqL.of (fg5.get g2.1 a2)) hu1 ?_
    walk_at "rq"
    intro q hq
    exact kq _ _ (f1.trans ((fg2.trans (fg3.trans ((Fr.same s2).trans fg5))).trans (Fr.new hq))) (hfg5.keep (Same.new hq)) (.tup upd_same (.cons (.str _) (.cons ((hv2.keep (fg3.kp.trans ((Same.keep s2).trans fg5.kp))).keep (Keep.new hq)) (.cons ((hu2.keep fg5.kp).keep (Keep.new hq)) (.cons (.int _) .nil)))))
end
end Al
namespace Al
open PySem PySem.Spec PyProof.Rows L2 NdefX PySem.W
local macro_rules | `(tactic| walk_at "rd1") => `(tactic| with_reducible first
  | (show tVar _ _ _ _; refine r_var (by with_unfolding_all rfl) ?_) | refine r_c ?_ | refine r_op ?_ | refine r_I0 ?_ | refine r_un ?_ | refine r_U ?_
  | (show rI _ _ _ _ _ _; refine r_I (by with_unfolding_all first | exact ⟨by decide, by decide⟩ | (show (0 : Int) < _; decide)) ?_)
  | refine r_eqI ?_ | refine r_neI ?_ | refine r_eqS ?_ | refine r_neS ?_ | refine r_eqB ?_ | refine r_neB ?_ | refine r_chain ?_
  | refine r_test ?_ | refine r_B ?_ | refine r_bl ?_ | refine r_int ?_ | refine r_and ?_ | refine r_or ?_ | refine r_not ?_ | refine r_andV ?_ | refine r_orV ?_ | refine r_notV ?_
  | refine r_if ?_ | refine r_nil ?_ | refine r_cons ?_ | refine r_cb ?_ | refine r_call ?_ | refine r_callS ?_ | refine r_tup ?_ | refine r_lst ?_ | refine r_seq ?_ | refine r_next ?_ | refine r_asg ?_
  | refine r_name ?_ | refine r_ifS ?_ | refine r_ret ?_ | refine r_retN ?_ | refine r_drop ?_ | refine r_brk ?_ | refine r_ct ?_ | refine r_sl ?_ | refine r_part ?_ | refine r_nopart ?_
  | refine r_bm ?_ | refine r_bm0 ?_ | refine r_raiseX ?_ | refine r_mkO ?_ | refine iteF ?_ | refine iteT ?_ | refine r_int1 ?_ | refine r_int1b ?_ | (show _ ≤ sizeLine ∧ _; refine r_sz (by with_unfolding_all first | omega | (simp only [List.length_cons, List.length_nil]; omega)) ?_)
  | (show ∃ _, _; refine ⟨_, rfl, ?_⟩) | (show ∃ _, _; refine ⟨_, _, rfl, rfl, ?_⟩) | (show ∃ _, _; refine ⟨_, _, rfl, ?_⟩))
local macro_rules | `(tactic| walk_at "rd") => `(tactic| repeat (walk_at "rd1"))
local macro_rules | `(tactic| walk_at "rd2") => `(tactic| with_reducible first
  | (show tFld _ _ _ _ _ _; refine r_fldI (by with_unfolding_all rfl) (by with_unfolding_all assumption) (by with_unfolding_all assumption) (by with_unfolding_all assumption) (by with_unfolding_all rfl) ?_)
  | (show tMetS _ _ _ _ _ _ _ _ _; refine r_rm (by with_unfolding_all assumption) (by with_unfolding_all rfl) (by decide) ?_)
  | refine r_sfl ?_ | refine iteNF ?_ | refine iteNT ?_ | refine r_makS ?_)
local macro_rules | `(tactic| walk_at "rp") => `(tactic| repeat first | walk_at "rd1" | walk_at "rd2")
local macro_rules | `(tactic| walk_at "rq1") => `(tactic| with_reducible first | refine r_rng1 ?_ | refine r_rng2 ?_ | refine r_forL ?_ | refine r_forT ?_ | refine r_dget ?_ | refine r_pnil ?_ | refine r_pcons ?_ | refine r_lcL ?_ | refine r_lcT ?_ | refine r_lcR ?_ | refine r_yes ?_ | refine r_disp ?_)
local macro_rules | `(tactic| walk_at "rq") => `(tactic| repeat first | walk_at "rd1" | walk_at "rd2" | walk_at "rq1")

/-! ### k01: the printer, walked -/
def numTxt (a b : Nat) : List Nat :=
  if (numS b).length - 1 = 0 then numS a
  else (List.replicate ((numS b).length - (numS a).length) 48 ++ numS a).take ((List.replicate ((numS b).length - (numS a).length) 48 ++ numS a).length - ((numS b).length - 1)) ++ [46] ++
    (List.replicate ((numS b).length - (numS a).length) 48 ++ numS a).drop ((List.replicate ((numS b).length - (numS a).length) 48 ++ numS a).length - ((numS b).length - 1))
theorem numTxt_ok : ∀ k < 5, numTxt (numA.getD k 0) (numB.getD k 1) = numW.getD k [] := by decide +kernel
theorem timesS_zero' (n : Nat) : timesS "0" n = uS (List.replicate n 48) := by
  have : lS (timesS "0" n) = List.replicate n 48 := by
    show ((List.replicate n [48]).flatten).toArray.toList = _
    induction n with
    | zero => rfl
    | succ n ih =>
      rw [List.replicate_succ, List.replicate_succ, List.flatten_cons]
      exact congrArg (48 :: ·) ih
  rw [← this]
  rfl
theorem cutS_to {l : List Nat} {m : Nat} (h : m ≤ l.length) : cutS (uS l) none (some (m : Int)) = uS (l.take m) := by
  have hl : (uS l).length = l.length := rfl
  unfold cutS
  rw [HT.sIx_none, HT.sIx_nat, hl, Nat.min_eq_left h]
  show uS ((l.drop 0).take (m - 0)) = _
  rw [List.drop_zero, Nat.sub_zero]
theorem cutS_from {l : List Nat} {m : Nat} (h : m ≤ l.length) : cutS (uS l) (some (m : Int)) none = uS (l.drop m) := by
  have hl : (uS l).length = l.length := rfl
  unfold cutS
  rw [HT.sIx_none, HT.sIx_nat, hl, Nat.min_eq_left h]
  show uS ((l.drop m).take (l.length - m)) = _
  rw [List.take_of_length_le (by rw [List.length_drop]; omega)]
def spNumber : Sp := fun vs H Q _ => ∃ (v : V) (a b : Nat), vs = [v] ∧ Tp H v (.tuple [.int (a : Int), .int (b : Int)]) ∧ a < 1000000 ∧ b < 1000000 ∧ Q (.str (uS (numTxt a b))) H
section
variable {P : Program} {w : World} {K : Frag} {mg : Str → Option Value} {base : Heap}
abbrev s_law_number : Stmt := top 47
theorem sc_law_number : FnScope ["_law_number_here", "_law_digits", "_law_places"] ["_law_number_here"] (defScope s_law_number) := ⟨rfl, rfl, rfl, by decide +kernel, rfl, by decide +kernel, by decide +kernel⟩
theorem cal_law_number (dx : DefAt K mg "_law_number" s_law_number) (B : Bl mg) : Cal P w K mg base 1 "_law_number" ["_law_number_here"] spNumber := by
  refine cal_mk dx sc_law_number (fun _ _ _ _ _ _ us hl => match us, hl with | [_], _ => rfl) (fun vs H Q E h => ?_) (fun fn cdv A outer s H vs Q E hr h => ?_)
  · obtain ⟨v, a, b, rfl, _⟩ := h
    rfl
  · obtain ⟨v, a, b, rfl, ht, ha, hb, kq⟩ := h
    refine ⟨_, (pss_cons (ps_set (i := 1) sc_law_number.nd rfl (Or.inl rfl) (pe_callTy call_str_int (by rfl) B.str (by decide +kernel) (pa_cons (pe_ix ix_tup (pv 0) pe_int (fun _ _ => rfl)) pa_nil)))
      (pss_cons (ps_set (i := 2) sc_law_number.nd rfl (Or.inl rfl) (pe_op op_sub (pe_callB call_len_str (by rfl) B.len PySem.boot_len (pa_cons (pe_callTy call_str_int (by rfl) B.str (by decide +kernel) (pa_cons (pe_ix ix_tup (pv 0) pe_int (fun _ _ => rfl)) pa_nil)) pa_nil)) pe_int))
      (pss_cons (ps_if (pt_cmpR op_eq (pv 2) pe_int (nomark _))
      (pss_one (ps_ret (pv 1)))
      pss_nil)
      (pss_cons (ps_set (i := 1) sc_law_number.nd rfl (Or.inl rfl) (pe_op op_add_str (pe_op op_mulS pe_str (pe_callB (call_max2 rfl) (by rfl) B.max (by decide +kernel) (pa_cons pe_int (pa_cons (pe_op op_sub (pe_op op_add (pv 2) pe_int) (pe_callB call_len_str (by rfl) B.len PySem.boot_len (pa_cons (pv 1) pa_nil))) pa_nil)))) (pv 1)))
      (pss_one (ps_ret (pe_op op_add_str (pe_op op_add_str (pe_slice sl_str (pv 1) po_none (po_some (pe_op op_sub (pe_callB call_len_str (by rfl) B.len PySem.boot_len (pa_cons (pv 1) pa_nil)) (pv 2)))) pe_str) (pe_slice sl_str (pv 1) (po_some (pe_op op_sub (pe_callB call_len_str (by rfl) B.len PySem.boot_len (pa_cons (pv 1) pa_nil)) (pv 2))) po_none)))))))), ?_⟩
    cases ht with
    | @tup t xs ds h1 h2 =>
      obtain ⟨x0, e0, y0⟩ := h2.get (i := 0) rfl
      obtain ⟨x1, e1, y1⟩ := h2.get (i := 1) rfl
      cases y0
      cases y1
      have la := numS_len ha
      have lb := numS_len hb
      have lb1 : 1 ≤ (numS b).length := by
        cases hq : numS b with
        | nil => exact absurd hq (numS_ne b)
        | cons c l => rw [List.length_cons]; omega
      walk_at "rq"
      refine r_ixT (n := 0) (SqT.of h1) e0 ?_
      walk_at "rq"
      refine ⟨log_ok (by omega), ?_⟩
      rw [show ((toString ((a : Nat) : Int) : String) : Str) = uS (numS a) from rfl]
      walk_at "rq"
      refine r_ixT (n := 1) (SqT.of h1) e1 ?_
      walk_at "rq"
      refine ⟨log_ok (by omega), ?_⟩
      rw [show ((toString ((b : Nat) : Int) : String) : Str) = uS (numS b) from rfl]
      have ka : (uS (numS a)).length = (numS a).length := rfl
      have kb : (uS (numS b)).length = (numS b).length := rfl
      walk_at "rq"
      refine r_ite (fun c => ?_) (fun c => ?_)
      · have c := of_decide_eq_true c
        walk_at "rq"
        have e : numTxt a b = numS a := by unfold numTxt; rw [if_pos (by omega)]
        rw [e] at kq
        exact kq
      · have c := of_decide_eq_false c
        walk_at "rq"
        generalize hr : (numS b).length - (numS a).length = r at *
        have e3 : (if ((uS (numS b)).length : Int) - 1 + 1 - ((uS (numS a)).length : Int) > 0 then ((uS (numS b)).length : Int) - 1 + 1 - ((uS (numS a)).length : Int) else 0) = ((r : Nat) : Int) := by
          rw [ka, kb]; split <;> omega
        rw [e3]
        refine r_mulS (by omega) (by show 1 * r ≤ 1000000; omega) ?_
        rw [timesS_zero']
        have k0 : (uS (List.replicate r 48)).length = r := List.length_replicate
        walk_at "rq"
        rw [uS_app]
        generalize hE : List.replicate r 48 ++ numS a = T at *
        have hTl : T.length = r + (numS a).length := by rw [← hE, List.length_append, List.length_replicate]
        have kT : (uS T).length = T.length := rfl
        have e4 : ((uS T).length : Int) - (((uS (numS b)).length : Int) - 1) = ((T.length - ((numS b).length - 1) : Nat) : Int) := by rw [kT, kb]; omega
        walk_at "rq"
        rw [e4]
        refine r_slS (by rw [sizeLine_eq, kT]; omega) ?_
        rw [cutS_to (by omega)]
        have k5 : (uS (T.take (T.length - ((numS b).length - 1)))).length ≤ 20 := by show (T.take _).length ≤ 20; rw [List.length_take]; omega
        have k1 : ("." : Str).length = 1 := by decide +kernel
        walk_at "rq"
        rw [show uS (T.take (T.length - ((numS b).length - 1))) ++ ("." : Str) = uS (T.take (T.length - ((numS b).length - 1)) ++ [46]) from uS_app ..]
        rw [e4]
        refine r_slS (by rw [sizeLine_eq, kT]; omega) ?_
        rw [cutS_from (by omega)]
        have k6 : (uS (T.drop (T.length - ((numS b).length - 1)))).length ≤ 20 := by show (T.drop _).length ≤ 20; rw [List.length_drop]; omega
        have k7 : (uS (T.take (T.length - ((numS b).length - 1)) ++ [46])).length ≤ 30 := by
          show (T.take _ ++ [46]).length ≤ 30
          rw [List.length_append, List.length_take]
          show _ + 1 ≤ 30
          omega
        walk_at "rq"
        rw [uS_app]
        have e : numTxt a b = T.take (T.length - ((numS b).length - 1)) ++ [46] ++ T.drop (T.length - ((numS b).length - 1)) := by
          unfold numTxt
          rw [if_neg (by omega), hr, hE]
        rw [e] at kq
        exact kq
end
end Al
namespace Al
open PySem PySem.Spec PyProof.Rows L2 NdefX PySem.W
/-! ### k01: texts put together; more readings -/
/-! two texts joined, as lists -/
theorem app_su (s : Str) (l : List Nat) : s ++ uS l = uS (lS s ++ l) := by rw [← uS_app, uS_lS]
theorem app_us (s : Str) (l : List Nat) : uS l ++ s = uS (l ++ lS s) := by rw [← uS_app, uS_lS]
theorem len_uS (l : List Nat) : (uS l).length = l.length := rfl
theorem join_uS (s : List Nat) (ls : List (List Nat)) : Txt.join (uS s) (ls.map uS) = uS (TL.joinL s ls) := by
  rw [TL.join_eq]
  have e : TL.tl (Str.join (uS s) (ls.map uS)) = TL.joinL s ls := by
    rw [TL.tl_join, List.map_map]
    have : (TL.tl ∘ uS : List Nat → List Nat) = id := rfl
    rw [this, List.map_id]
    rfl
  rw [← e]
  rfl
theorem joinL_len (s : List Nat) (n : Nat) : ∀ ls : List (List Nat), (∀ p ∈ ls, p.length ≤ n) → (TL.joinL s ls).length ≤ ls.length * (n + s.length)
  | [], _ => Nat.zero_le _
  | [p], h => by
    have := h p List.mem_cons_self
    show p.length ≤ 1 * (n + s.length)
    omega
  | p :: q :: r, h => by
    have h1 := h p List.mem_cons_self
    have h2 := joinL_len s n (q :: r) fun x hx => h x (List.mem_cons_of_mem _ hx)
    show (p ++ (s ++ TL.joinL s (q :: r))).length ≤ ((q :: r).length + 1) * (n + s.length)
    rw [List.length_append, List.length_append, Nat.succ_mul]
    omega
theorem join_sum (n k : Nat) (ls : List (List Nat)) (hn : ∀ l ∈ ls, l.length ≤ n) (hz : ls.length * (n + k) ≤ 1000000) : ((ls.map uS).map (·.length)).sum + (ls.map uS).length * k ≤ 16777216 := by
  have hs : ((ls.map uS).map (·.length)).sum ≤ ls.length * n := by
    clear hz
    induction ls with
    | nil => exact Nat.zero_le _
    | cons l ls ih =>
      have h1 := hn l List.mem_cons_self
      have h2 := ih fun x hx => hn x (List.mem_cons_of_mem _ hx)
      show l.length + ((ls.map uS).map (·.length)).sum ≤ (ls.length + 1) * n
      rw [Nat.succ_mul]
      omega
  rw [List.length_map]
  rw [Nat.mul_add] at hz
  omega
theorem join_lit (s : Str) (ls : List (List Nat)) : Txt.join s (ls.map uS) = uS (TL.joinL (lS s) ls) := by
  have := join_uS (lS s) ls
  rwa [uS_lS] at this
theorem sql_uS {K : Frag} {H : Hp} {p : Addr} {ls : List (List Nat)} (h : H p = some (.lst (ls.map fun l => V.str (uS l)))) : SqL K H p ((ls.map uS).map V.str) := by
  rw [List.map_map]
  exact SqL.of h
theorem TpAll.tep {H : Hp} : ∀ {vs : List V} {ds : List PyData} {i : Nat} {v : V}, TpAll H vs ds → vs[i]? = some v → ∃ d, ds[i]? = some d ∧ Tp H v d
  | _, _, _, _, .nil, h => by simp at h
  | _, _, 0, _, .cons a _, h => by
    simp at h; subst h; exact ⟨_, rfl, a⟩
  | _, _, i + 1, _, .cons _ t, h => by
    obtain ⟨d, h1, h2⟩ := TpAll.tep (i := i) t (by simpa using h)
    exact ⟨d, by simpa using h1, h2⟩
theorem Tp.tupI {H : Hp} {v : V} {ds : List PyData} (h : Tp H v (.tuple ds)) : ∃ a xs, v = .ref a ∧ H a = some (.tup xs) ∧ TpAll H xs ds := by
  cases h with
  | tup a b => exact ⟨_, _, rfl, a, b⟩
theorem TpAll.consI {H : Hp} {xs : List V} {d : PyData} {ds : List PyData} (h : TpAll H xs (d :: ds)) : ∃ x r, xs = x :: r ∧ Tp H x d ∧ TpAll H r ds := by
  cases h with
  | cons a b => exact ⟨_, _, rfl, a, b⟩
theorem TpAll.nilI {H : Hp} {xs : List V} (h : TpAll H xs []) : xs = [] := by cases h; rfl
theorem pg_tupK {X : Cx} {K : Frag} {pos : Pos} {es : List Expr} {k : Nat} {t : TGs} {n : Nat} (hK : X.K = K) (hc : X.calm = true) (h : PGs X es t)
    (hn : (assignEach es X.env).length = n := by rfl) (hst : (assignEach es X.env).findIdx? (·.1) = none := by rfl) : PG X (.Tuple es k pos) (gTup K n t) := by
  subst hK
  exact pg_tup hc h hn hst
theorem r_gtup {K : Frag} {n : Nat} {t : TGs} {a : Addr} {xs : List V} {σ : L2.St} {H : Hp} {Q : L2.St → Hp → Prop} (h : SqT K H a xs) (hn : xs.length = n) (q : t xs σ H Q) : gTup K n t (.ref a) σ H Q := ⟨a, xs, rfl, h, hn, q⟩
theorem r_gcons {t : TG} {u : TGs} {v : V} {r : List V} {σ : L2.St} {H : Hp} {Q : L2.St → Hp → Prop} (h : t v σ H fun σ' H' => u r σ' H' Q) : gCons t u (v :: r) σ H Q := ⟨v, r, rfl, h⟩
theorem r_gnil {σ : L2.St} {H : Hp} {Q : L2.St → Hp → Prop} (h : Q σ H) : gNil [] σ H Q := ⟨rfl, h⟩
/-- over a tuple; any target that the block leaves -/
theorem lcw_tup {K : Frag} {σ : L2.St} {g : TG} {a D : Addr} {xs : List V} {te : TE} {vs : List Nat} {H1 : Hp} {Qd : Hp → Prop} (Pv : Nat → Hp → Prop) (h0 : Pv 0 (upd H1 D (.lst []))) (hl : ∀ i H, i ≤ xs.length → Pv i H → SqT K H a xs)
    (hs : ∀ i x H, xs[i]? = some x → Pv i H → g x (wipe σ vs) H fun σ2 H2 => wipe σ2 vs = wipe σ vs ∧ te σ2 H2 fun y H4 => ∃ acc, H4 D = some (.lst acc) ∧ acc.length < sizeLine ∧ Pv (i + 1) (upd H4 D (.lst (acc ++ [y]))))
    (hd : ∀ H, Pv xs.length H → Qd H) (hg : ∀ {x σ H} {Q R : L2.St → Hp → Prop}, (∀ σ H, Q σ H → R σ H) → g x σ H Q → g x σ H R) : LcW (Itt K a) g tYes te vs σ H1 D Qd := by
  refine lc_tup Pv h0 hl (fun i x H hx h => ?_) hd
  refine hg (fun σ2 H2 hh => ⟨hh.1, ?_⟩) (hs i x H hx h)
  show tYes _ _ _
  refine r_yes ?_
  rw [if_pos rfl]
  exact hh.2
/-! texts of whole numbers and products -/
theorem str_pow {p : Int} (h : p.natAbs ≤ 9) : ((toString p : String) : Str) = uS (ren (iPc p)) := by
  have key : ∀ k : Nat, k < 19 → ((toString ((k : Int) - 9) : String) : Str) = uS (ren (iPc ((k : Int) - 9))) := by decide +kernel
  have := key (p + 9).toNat (by omega)
  rwa [show (((p + 9).toNat : Nat) : Int) - 9 = p by omega] at this
theorem log_okI {p : Int} (h : p.natAbs ≤ 9) : p.natAbs.log2 < 1920 := by
  have := log_ok (n := p.natAbs) (by omega)
  rwa [Int.natAbs_natCast] at this
theorem iPc_len {p : Int} (h : p.natAbs ≤ 9) : (ren (iPc p)).length ≤ 2 := by
  have key : ∀ k : Nat, k < 19 → (ren (iPc ((k : Int) - 9))).length ≤ 2 := by decide +kernel
  have := key (p + 9).toNat (by omega)
  rwa [show (((p + 9).toNat : Nat) : Int) - 9 = p by omega] at this
def uParts (u : Un) : List (List Nat) := u.map fun q => lS q.1 ++ ren (ePc q.2)
theorem uIn_join : ∀ u : Un, TL.joinL [32] (uParts u) = ren (uIn u)
  | [] => rfl
  | [(z, p)] => rfl
  | (z, p) :: q :: r => by
    have ih := uIn_join (q :: r)
    show (lS z ++ ren (ePc p)) ++ ([32] ++ TL.joinL [32] (uParts (q :: r))) = lS z ++ ren (ePc p ++ .sp :: uIn (q :: r))
    rw [ih, ren_app, List.append_assoc]
    rfl
theorem uPc_ren (u : Un) : ren (uPc u) = (lS "[" ++ ren (uIn u)) ++ lS "]" := by
  show lS "[" ++ ren (uIn u ++ [.sign 15]) = _
  rw [ren_app, List.append_assoc]
  rfl
theorem ePc_len {p : Int} (h : p.natAbs ≤ 9) : (ren (ePc p)).length ≤ 3 := by
  unfold ePc
  split
  · exact Nat.zero_le _
  · show ([94] ++ ren (iPc p)).length ≤ 3
    have := iPc_len h
    rw [List.length_append]
    show 1 + _ ≤ 3
    omega
theorem nm_len {z : Str} (h : z ∈ NMS) : (lS z).length ≤ 3 := (by decide +kernel : ∀ z ∈ NMS, (lS z).length ≤ 3) z h
theorem uParts_len {u : Un} (h : uOk u) (hn : uNm u) : ∀ l ∈ uParts u, l.length ≤ 6 := by
  intro l hl
  obtain ⟨q, hq, rfl⟩ := List.mem_map.mp hl
  have h1 := ePc_len (h q hq)
  have h2 := nm_len (hn q hq)
  rw [List.length_append]
  omega
structure UW (u : Un) : Prop where
  ok : uOk u
  nm : uNm u
  sm : u.length ≤ 2
theorem uIn_len {u : Un} (h : UW u) : (ren (uIn u)).length ≤ 14 := by
  rw [← uIn_join]
  have h1 := joinL_len [32] 6 (uParts u) (uParts_len h.ok h.nm)
  have h2 : (uParts u).length = u.length := List.length_map ..
  have h3 := h.sm
  have : (uParts u).length * (6 + ([32] : List Nat).length) ≤ 2 * 7 := Nat.mul_le_mul_right _ (by omega)
  omega
theorem uPc_len {u : Un} (h : UW u) : (ren (uPc u)).length ≤ 16 := by
  have := uIn_len h
  rw [uPc_ren, List.length_append, List.length_append]
  show 1 + _ + 1 ≤ 16
  omega
theorem uD0_get : ∀ (u : Un) (i : Nat) (d : PyData), (uD0 u)[i]? = some d → ∃ q, u[i]? = some q ∧ d = .tuple [.str q.1, .int q.2, .int 0]
  | [], i, d, h => by simp [uD0] at h
  | q :: u, 0, d, h => by
    obtain ⟨z, p⟩ := q
    simp [uD0] at h
    exact ⟨_, rfl, h.symm⟩
  | q :: u, i + 1, d, h => by
    obtain ⟨z, p⟩ := q
    simp only [uD0, List.getElem?_cons_succ] at h
    obtain ⟨q', h1, h2⟩ := uD0_get u i d h
    exact ⟨q', by simpa using h1, h2⟩
theorem uD0_len : ∀ u : Un, (uD0 u).length = u.length
  | [] => rfl
  | (z, p) :: u => congrArg (· + 1) (uD0_len u)
/-! lengths of the law's texts -/
theorem ll_0 : (lS "]").length = 1 := by decide +kernel
theorem lt_0 : ("]" : Str).length = 1 := by decide +kernel
theorem ll_1 : (lS "[").length = 1 := by decide +kernel
theorem lt_1 : ("[" : Str).length = 1 := by decide +kernel
theorem ll_2 : (lS " ").length = 1 := by decide +kernel
theorem lt_2 : (" " : Str).length = 1 := by decide +kernel
theorem ll_3 : (lS "").length = 0 := by decide +kernel
theorem lt_3 : ("" : Str).length = 0 := by decide +kernel
theorem ll_4 : (lS "^").length = 1 := by decide +kernel
theorem lt_4 : ("^" : Str).length = 1 := by decide +kernel
theorem ll_5 : (lS "number").length = 6 := by decide +kernel
theorem lt_5 : ("number" : Str).length = 6 := by decide +kernel
theorem ll_6 : (lS "bool").length = 4 := by decide +kernel
theorem lt_6 : ("bool" : Str).length = 4 := by decide +kernel
theorem ll_7 : (lS "var").length = 3 := by decide +kernel
theorem lt_7 : ("var" : Str).length = 3 := by decide +kernel
theorem ll_8 : (lS "call").length = 4 := by decide +kernel
theorem lt_8 : ("call" : Str).length = 4 := by decide +kernel
theorem ll_9 : (lS "iterate").length = 7 := by decide +kernel
theorem lt_9 : ("iterate" : Str).length = 7 := by decide +kernel
theorem ll_10 : (lS "power").length = 5 := by decide +kernel
theorem lt_10 : ("power" : Str).length = 5 := by decide +kernel
theorem ll_11 : (lS "not").length = 3 := by decide +kernel
theorem lt_11 : ("not" : Str).length = 3 := by decide +kernel
theorem ll_12 : (lS "if").length = 2 := by decide +kernel
theorem lt_12 : ("if" : Str).length = 2 := by decide +kernel
theorem ll_13 : (lS "let").length = 3 := by decide +kernel
theorem lt_13 : ("let" : Str).length = 3 := by decide +kernel
theorem ll_14 : (lS "))").length = 2 := by decide +kernel
theorem lt_14 : ("))" : Str).length = 2 := by decide +kernel
theorem ll_15 : (lS ")").length = 1 := by decide +kernel
theorem lt_15 : (")" : Str).length = 1 := by decide +kernel
theorem ll_16 : (lS "add").length = 3 := by decide +kernel
theorem lt_16 : ("add" : Str).length = 3 := by decide +kernel
theorem ll_17 : (lS "sub").length = 3 := by decide +kernel
theorem lt_17 : ("sub" : Str).length = 3 := by decide +kernel
theorem ll_18 : (lS "mul").length = 3 := by decide +kernel
theorem lt_18 : ("mul" : Str).length = 3 := by decide +kernel
theorem ll_19 : (lS "div").length = 3 := by decide +kernel
theorem lt_19 : ("div" : Str).length = 3 := by decide +kernel
theorem ll_20 : (lS "lt").length = 2 := by decide +kernel
theorem lt_20 : ("lt" : Str).length = 2 := by decide +kernel
theorem ll_21 : (lS "le").length = 2 := by decide +kernel
theorem lt_21 : ("le" : Str).length = 2 := by decide +kernel
theorem ll_22 : (lS "eq").length = 2 := by decide +kernel
theorem lt_22 : ("eq" : Str).length = 2 := by decide +kernel
theorem ll_23 : (lS "and").length = 3 := by decide +kernel
theorem lt_23 : ("and" : Str).length = 3 := by decide +kernel
theorem ll_24 : (lS "or").length = 2 := by decide +kernel
theorem lt_24 : ("or" : Str).length = 2 := by decide +kernel
theorem ll_25 : (lS "+").length = 1 := by decide +kernel
theorem lt_25 : ("+" : Str).length = 1 := by decide +kernel
theorem ll_26 : (lS "-").length = 1 := by decide +kernel
theorem lt_26 : ("-" : Str).length = 1 := by decide +kernel
theorem ll_27 : (lS "*").length = 1 := by decide +kernel
theorem lt_27 : ("*" : Str).length = 1 := by decide +kernel
theorem ll_28 : (lS "/").length = 1 := by decide +kernel
theorem lt_28 : ("/" : Str).length = 1 := by decide +kernel
theorem ll_29 : (lS "<").length = 1 := by decide +kernel
theorem lt_29 : ("<" : Str).length = 1 := by decide +kernel
theorem ll_30 : (lS "<=").length = 2 := by decide +kernel
theorem lt_30 : ("<=" : Str).length = 2 := by decide +kernel
theorem ll_31 : (lS "==").length = 2 := by decide +kernel
theorem lt_31 : ("==" : Str).length = 2 := by decide +kernel
theorem ll_32 : (lS "false").length = 5 := by decide +kernel
theorem lt_32 : ("false" : Str).length = 5 := by decide +kernel
theorem ll_33 : (lS "true").length = 4 := by decide +kernel
theorem lt_33 : ("true" : Str).length = 4 := by decide +kernel
theorem ll_34 : (lS ")^").length = 2 := by decide +kernel
theorem lt_34 : (")^" : Str).length = 2 := by decide +kernel
theorem ll_35 : (lS "(not (").length = 6 := by decide +kernel
theorem lt_35 : ("(not (" : Str).length = 6 := by decide +kernel
theorem ll_36 : (lS " (").length = 2 := by decide +kernel
theorem lt_36 : (" (" : Str).length = 2 := by decide +kernel
theorem ll_37 : (lS "(").length = 1 := by decide +kernel
theorem lt_37 : ("(" : Str).length = 1 := by decide +kernel
theorem ll_38 : (lS " from (").length = 7 := by decide +kernel
theorem lt_38 : (" from (" : Str).length = 7 := by decide +kernel
theorem ll_39 : (lS " else ").length = 6 := by decide +kernel
theorem lt_39 : (" else " : Str).length = 6 := by decide +kernel
theorem ll_40 : (lS " in ").length = 4 := by decide +kernel
theorem lt_40 : (" in " : Str).length = 4 := by decide +kernel
theorem ll_41 : (lS ", ").length = 2 := by decide +kernel
theorem lt_41 : (", " : Str).length = 2 := by decide +kernel
theorem ll_42 : (lS ") ").length = 2 := by decide +kernel
theorem lt_42 : (") " : Str).length = 2 := by decide +kernel
theorem ll_43 : (lS " then ").length = 6 := by decide +kernel
theorem lt_43 : (" then " : Str).length = 6 := by decide +kernel
theorem ll_44 : (lS " = ").length = 3 := by decide +kernel
theorem lt_44 : (" = " : Str).length = 3 := by decide +kernel
theorem ll_45 : (lS "((").length = 2 := by decide +kernel
theorem lt_45 : ("((" : Str).length = 2 := by decide +kernel
theorem ll_46 : (lS "iterate ").length = 8 := by decide +kernel
theorem lt_46 : ("iterate " : Str).length = 8 := by decide +kernel
theorem ll_47 : (lS "(if ").length = 4 := by decide +kernel
theorem lt_47 : ("(if " : Str).length = 4 := by decide +kernel
theorem ll_48 : (lS "(let ").length = 5 := by decide +kernel
theorem lt_48 : ("(let " : Str).length = 5 := by decide +kernel
theorem ll_49 : (lS "base").length = 4 := by decide +kernel
theorem lt_49 : ("base" : Str).length = 4 := by decide +kernel
theorem ll_50 : (lS "base m;").length = 7 := by decide +kernel
theorem lt_50 : ("base m;" : Str).length = 7 := by decide +kernel
theorem ll_51 : (lS "unit").length = 4 := by decide +kernel
theorem lt_51 : ("unit" : Str).length = 4 := by decide +kernel
theorem ll_52 : (lS "fun").length = 3 := by decide +kernel
theorem lt_52 : ("fun" : Str).length = 3 := by decide +kernel
theorem ll_53 : (lS "show").length = 4 := by decide +kernel
theorem lt_53 : ("show" : Str).length = 4 := by decide +kernel
theorem ll_54 : (lS ";").length = 1 := by decide +kernel
theorem lt_54 : (";" : Str).length = 1 := by decide +kernel
theorem ll_55 : (lS ": ").length = 2 := by decide +kernel
theorem lt_55 : (": " : Str).length = 2 := by decide +kernel
theorem ll_56 : (lS "unit km = 2.5 ").length = 14 := by decide +kernel
theorem lt_56 : ("unit km = 2.5 " : Str).length = 14 := by decide +kernel
theorem ll_57 : (lS "show ").length = 5 := by decide +kernel
theorem lt_57 : ("show " : Str).length = 5 := by decide +kernel
theorem ll_58 : (lS "fun f(").length = 6 := by decide +kernel
theorem lt_58 : ("fun f(" : Str).length = 6 := by decide +kernel
theorem ll_59 : (lS "oversized").length = 9 := by decide +kernel
theorem lt_59 : ("oversized" : Str).length = 9 := by decide +kernel
theorem ll_60 : (lS "depth").length = 5 := by decide +kernel
theorem lt_60 : ("depth" : Str).length = 5 := by decide +kernel
theorem ll_61 : (lS "\n ").length = 2 := by decide +kernel
theorem lt_61 : ("\n " : Str).length = 2 := by decide +kernel
theorem ll_62 : (lS "read").length = 4 := by decide +kernel
theorem lt_62 : ("read" : Str).length = 4 := by decide +kernel
theorem ll_63 : (lS "malformed").length = 9 := by decide +kernel
theorem lt_63 : ("malformed" : Str).length = 9 := by decide +kernel
theorem ll_64 : (lS " base ").length = 6 := by decide +kernel
theorem lt_64 : (" base " : Str).length = 6 := by decide +kernel
end Al
namespace Al
open PySem PySem.Spec PyProof.Rows L2 NdefX PySem.W
local macro_rules | `(tactic| walk_at "rd1") => `(tactic| with_reducible first
  | (show tVar _ _ _ _; refine r_var (by with_unfolding_all rfl) ?_) | refine r_c ?_ | refine r_op ?_ | refine r_I0 ?_ | refine r_un ?_ | refine r_U ?_
  | (show rI _ _ _ _ _ _; refine r_I (by with_unfolding_all first | exact ⟨by decide, by decide⟩ | (show (0 : Int) < _; decide)) ?_)
  | refine r_eqI ?_ | refine r_neI ?_ | refine r_eqS ?_ | refine r_neS ?_ | refine r_eqB ?_ | refine r_neB ?_ | refine r_chain ?_
  | refine r_test ?_ | refine r_B ?_ | refine r_bl ?_ | refine r_int ?_ | refine r_and ?_ | refine r_or ?_ | refine r_not ?_ | refine r_andV ?_ | refine r_orV ?_ | refine r_notV ?_
  | refine r_if ?_ | refine r_nil ?_ | refine r_cons ?_ | refine r_cb ?_ | refine r_call ?_ | refine r_callS ?_ | refine r_tup ?_ | refine r_lst ?_ | refine r_seq ?_ | refine r_next ?_ | refine r_asg ?_
  | refine r_name ?_ | refine r_ifS ?_ | refine r_ret ?_ | refine r_retN ?_ | refine r_drop ?_ | refine r_brk ?_ | refine r_ct ?_ | refine r_sl ?_ | refine r_part ?_ | refine r_nopart ?_
  | refine r_bm ?_ | refine r_bm0 ?_ | refine r_raiseX ?_ | refine r_mkO ?_ | refine iteF ?_ | refine iteT ?_ | refine r_int1 ?_ | refine r_int1b ?_ | (show _ ≤ sizeLine ∧ _; refine r_sz (by with_unfolding_all first | omega | (simp only [List.length_cons, List.length_nil]; omega)) ?_)
  | (show ∃ _, _; refine ⟨_, rfl, ?_⟩) | (show ∃ _, _; refine ⟨_, _, rfl, rfl, ?_⟩) | (show ∃ _, _; refine ⟨_, _, rfl, ?_⟩))
local macro_rules | `(tactic| walk_at "rd") => `(tactic| repeat (walk_at "rd1"))
local macro_rules | `(tactic| walk_at "rd2") => `(tactic| with_reducible first
  | (show tFld _ _ _ _ _ _; refine r_fldI (by with_unfolding_all rfl) (by with_unfolding_all assumption) (by with_unfolding_all assumption) (by with_unfolding_all assumption) (by with_unfolding_all rfl) ?_)
  | (show tMetS _ _ _ _ _ _ _ _ _; refine r_rm (by with_unfolding_all assumption) (by with_unfolding_all rfl) (by decide) ?_)
  | refine r_sfl ?_ | refine iteNF ?_ | refine iteNT ?_ | refine r_makS ?_)
local macro_rules | `(tactic| walk_at "rp") => `(tactic| repeat first | walk_at "rd1" | walk_at "rd2")
local macro_rules | `(tactic| walk_at "rq1") => `(tactic| with_reducible first | refine r_rng1 ?_ | refine r_rng2 ?_ | refine r_forL ?_ | refine r_forT ?_ | refine r_dget ?_ | refine r_pnil ?_ | refine r_pcons ?_ | refine r_lcL ?_ | refine r_lcT ?_ | refine r_lcR ?_ | refine r_yes ?_ | refine r_disp ?_)
local macro_rules | `(tactic| walk_at "rq") => `(tactic| repeat first | walk_at "rd1" | walk_at "rd2" | walk_at "rq1")
local macro_rules | `(tactic| walk_at "slen") => `(tactic| (simp only [sizeLine_eq, len_uS, List.length_append, ll_0, lt_0, ll_1, lt_1, ll_2, lt_2, ll_3, lt_3, ll_4, lt_4, ll_5, lt_5, ll_6, lt_6, ll_7, lt_7, ll_8, lt_8, ll_9, lt_9, ll_10, lt_10, ll_11, lt_11, ll_12, lt_12, ll_13, lt_13, ll_14, lt_14, ll_15, lt_15, ll_16, lt_16, ll_17, lt_17, ll_18, lt_18, ll_19, lt_19, ll_20, lt_20, ll_21, lt_21, ll_22, lt_22, ll_23, lt_23, ll_24, lt_24, ll_25, lt_25, ll_26, lt_26, ll_27, lt_27, ll_28, lt_28, ll_29, lt_29, ll_30, lt_30, ll_31, lt_31, ll_32, lt_32, ll_33, lt_33, ll_34, lt_34, ll_35, lt_35, ll_36, lt_36, ll_37, lt_37, ll_38, lt_38, ll_39, lt_39, ll_40, lt_40, ll_41, lt_41, ll_42, lt_42, ll_43, lt_43, ll_44, lt_44, ll_45, lt_45, ll_46, lt_46, ll_47, lt_47, ll_48, lt_48, ll_49, lt_49, ll_50, lt_50, ll_51, lt_51, ll_52, lt_52, ll_53, lt_53, ll_54, lt_54, ll_55, lt_55, ll_56, lt_56, ll_57, lt_57, ll_58, lt_58, ll_59, lt_59, ll_60, lt_60, ll_61, lt_61, ll_62, lt_62, ll_63, lt_63, ll_64, lt_64]; with_unfolding_all omega))
local macro_rules | `(tactic| walk_at "rt1") => `(tactic| with_reducible (show _ + _ ≤ sizeLine ∧ _; refine ⟨by walk_at "slen", ?_⟩; first | rw [uS_app] | rw [app_su] | rw [app_us] | skip))
local macro_rules | `(tactic| walk_at "rt") => `(tactic| repeat first | walk_at "rt1" | walk_at "rd1" | walk_at "rd2" | walk_at "rq1")

/-! ### k01: products printed, walked -/
def spUnits : Sp := fun vs H Q _ => ∃ (v : V) (u : Un), vs = [v] ∧ Tp H v (.tuple (uD0 u)) ∧ UW u ∧ ∀ H', Same H H' → Q (.str (uS (ren (uPc u)))) H'
section
variable {P : Program} {w : World} {K : Frag} {mg : Str → Option Value} {base : Heap}
abbrev s_law_units : Stmt := top 48
theorem sc_law_units : FnScope ["_law_product", "_law_name", "_law_power", "_law_at"] ["_law_product"] (defScope s_law_units) := ⟨rfl, rfl, rfl, by decide +kernel, rfl, by decide +kernel, by decide +kernel⟩
theorem cal_law_units (dx : DefAt K mg "_law_units" s_law_units) (B : Bl mg) : Cal P w K mg base 1 "_law_units" ["_law_product"] spUnits := by
  refine cal_mk dx sc_law_units (fun _ _ _ _ _ _ us hl => match us, hl with | [_], _ => rfl) (fun vs H Q E h => ?_) (fun fn cdv A outer s H vs Q E hr h => ?_)
  · obtain ⟨v, u, rfl, _⟩ := h
    rfl
  · obtain ⟨v, u, rfl, ht, hu, kq⟩ := h
    refine ⟨_, (pss_one (ps_ret (pe_op op_add_str (pe_op op_add_str pe_str (pe_bm PySem.F.plainAttrs_str PySem.F.slot_str_join PySem.F.type_str_join mt_join pe_str (pa_cons (pe_lc (own := [("_law_name", 1), ("_law_power", 2), ("_law_at", 3)]) rfl sc_law_units.nd (pi_tup (pv 0)) (blkOk_by (N := ["_law_product", "_law_name", "_law_power", "_law_at"]) (sc := defScope s_law_units) (by decide +kernel)) (fun _ _ _ _ _ => (pg_tupK (K := K) (n := 3) rfl rfl (pgs_cons (pg_name (i := 1) sc_law_units.nd rfl (Or.inl rfl)) (pgs_cons (pg_name (i := 2) sc_law_units.nd rfl (Or.inl rfl)) (pgs_cons (pg_name (i := 3) sc_law_units.nd rfl (Or.inl rfl)) pgs_nil))))) (fun _ _ _ _ _ => pts_nil) (fun _ _ _ _ _ => (pe_op op_add_str (pv 1) (pe_ix (ix_listK (K := K) rfl) (pe_lst (pa_cons pe_str (pa_cons (pe_op op_add_str pe_str (pe_callTy call_str_int (by rfl) B.str (by decide +kernel) (pa_cons (pv 2) pa_nil))) pa_nil))) (pe_callTy call_int1 (by rfl) B.int (by decide +kernel) (pa_cons (pe_cmpR op_ne (pv 2) pe_int (nomark _)) pa_nil)) (fun _ _ => rfl))))) pa_nil))) pe_str))), ?_⟩
    obtain ⟨a, xs, rfl, ha, hxs⟩ := ht.tupI
    have hl : xs.length = u.length := by rw [hxs.len, uD0_len]
    walk_at "rt"
    refine ⟨rfl, ?_⟩
    walk_at "rt"
    refine ⟨⟨xs, SqT.of ha⟩, fun D hD => ?_⟩
    refine lcw_tup (fun i H' => Same H H' ∧ ∃ acc, H' D = some (.lst acc) ∧ acc = ((uParts u).take i).map fun l => V.str (uS l)) ⟨Same.new hD, [], upd_same, rfl⟩ (fun i H' _ h => SqT.of (h.1 _ _ ha)) ?_ ?_ ?_
    · rintro i x H1 hx ⟨sm, acc, hacc, rfl⟩
      obtain ⟨d, hd, tx⟩ := hxs.tep hx
      obtain ⟨⟨z, p⟩, hq, rfl⟩ := uD0_get u i d hd
      obtain ⟨b, ys, rfl, hb, hys⟩ := tx.tupI
      obtain ⟨y0, r0, rfl, t0, hys⟩ := hys.consI
      obtain ⟨y1, r1, rfl, t1, hys⟩ := hys.consI
      obtain ⟨y2, r2, rfl, t2, hys⟩ := hys.consI
      cases hys.nilI
      cases t0
      cases t1
      cases t2
      refine r_gtup (SqT.of (sm _ _ hb)) rfl ?_
      refine r_gcons ?_
      walk_at "rt"
      refine r_gcons ?_
      walk_at "rt"
      refine r_gcons ?_
      walk_at "rt"
      refine r_gnil ?_
      refine ⟨rfl, ?_⟩
      have hp : p.natAbs ≤ 9 := hu.ok (z, p) (List.mem_of_getElem? hq)
      have hz : (lS z).length ≤ 3 := nm_len (hu.nm (z, p) (List.mem_of_getElem? hq))
      have hz' : z.length ≤ 3 := hz
      have hi := iPc_len hp
      have hup : (uParts u)[i]? = some (lS z ++ ren (ePc p)) := by unfold uParts; rw [List.getElem?_map, hq]; rfl
      have hil : i < u.length := by
        rcases Nat.lt_or_ge i u.length with h | h
        · exact h
        · rw [List.getElem?_eq_none h] at hq; cases hq
      have hal : (((uParts u).take i).map fun l => V.str (uS l)).length = i := by
        have : (uParts u).length = u.length := List.length_map ..
        rw [List.length_map, List.length_take]; omega
      have hsm := hu.sm
      have he : (uParts u).take (i + 1) = (uParts u).take i ++ [lS z ++ ren (ePc p)] := by rw [List.take_succ, hup]; rfl
      rw [he, List.map_append]
      generalize ((uParts u).take i).map (fun l => V.str (uS l)) = acc at *
      dsimp only
      walk_at "rt"
      refine ⟨log_okI hp, ?_⟩
      rw [str_pow hp]
      walk_at "rt"
      intro q1 hq1
      have a1 : upd H1 q1 (.lst [.str "", .str (uS (lS "^" ++ ren (iPc p)))]) q1 = some (.lst [.str "", .str (uS (lS "^" ++ ren (iPc p)))]) := upd_same
      have s1 : Same H1 (upd H1 q1 (.lst [.str "", .str (uS (lS "^" ++ ren (iPc p)))])) := Same.new hq1
      generalize upd H1 q1 (.lst [.str "", .str (uS (lS "^" ++ ren (iPc p)))]) = H2 at *
      walk_at "rt"
      by_cases h1 : p = 1
      · have e1 : (if (!decide (p = 1)) = true then (1 : Int) else 0) = ((0 : Nat) : Int) := by rw [decide_eq_true h1]; rfl
        rw [e1]
        refine r_ixL (SqL.of a1) rfl ?_
        walk_at "rt"
        have hD2 := s1 _ _ hacc
        rw [show (z ++ ("" : Str)) = uS (lS z ++ lS "") from by rw [← uS_app, uS_lS, uS_lS]]
        refine ⟨acc, hD2, by rw [sizeLine_eq]; omega, Same.mut (fun a u h => s1 a u (sm a u h)) hD, acc ++ [.str (uS (lS z ++ lS ""))], upd_same, ?_⟩
        subst h1
        rfl
      · have e1 : (if (!decide (p = 1)) = true then (1 : Int) else 0) = ((1 : Nat) : Int) := by rw [decide_eq_false h1]; rfl
        rw [e1]
        refine r_ixL (SqL.of a1) rfl ?_
        walk_at "rt"
        have hD2 := s1 _ _ hacc
        refine ⟨acc, hD2, by rw [sizeLine_eq]; omega, Same.mut (fun a u h => s1 a u (sm a u h)) hD, acc ++ [.str (uS (lS z ++ (lS "^" ++ ren (iPc p))))], upd_same, ?_⟩
        unfold ePc
        rw [if_neg h1]
        rfl
    · rintro H1 ⟨sm, acc, hacc, rfl⟩
      have hk : (uParts u).length = u.length := List.length_map ..
      rw [hl, ← hk, List.take_length] at hacc
      have hsm := hu.sm
      walk_at "rt"
      refine ⟨" ", D, (uParts u).map uS, rfl, rfl, .inl (sql_uS hacc), join_sum 6 1 _ (uParts_len hu.ok hu.nm) (by omega), ?_⟩
      rw [join_lit, show lS " " = [32] from rfl, uIn_join]
      have hin := uIn_len hu
      walk_at "rt"
      rw [← uPc_ren]
      exact kq _ sm
    · rintro x σ H Q R hQ ⟨a, xs, e1, h1, h2, v, r, e2, v2, r2, e3, v3, r3, e4, e5, h⟩
      exact ⟨a, xs, e1, h1, h2, v, r, e2, v2, r2, e3, v3, r3, e4, e5, hQ _ _ h⟩
end
end Al
namespace Al
open PySem PySem.Spec PyProof.Rows L2 NdefX PySem.W
/-! ### k01: texts of trees -/
theorem r_iteSY {a : Str} {A B : Prop} [Decidable (a = a)] (h : A) : if decide (a = a) = true then A else B := by
  rw [if_pos (decide_eq_true rfl)]
  exact h
theorem r_iteSN {a b : Str} {A B : Prop} [Decidable (a = b)] (hn : a ≠ b) (h : B) : if decide (a = b) = true then A else B := by
  rw [if_neg (by rw [decide_eq_false hn]; exact Bool.false_ne_true)]
  exact h
theorem lcw_tup1 {K : Frag} {σ : L2.St} {a D : Addr} {xs : List V} {te : TE} {j : Nat} {H1 : Hp} {Qd : Hp → Prop} (Pv : Nat → Hp → Prop) (h0 : Pv 0 (upd H1 D (.lst []))) (hl : ∀ i H, i ≤ xs.length → Pv i H → SqT K H a xs)
    (hs : ∀ i x H, xs[i]? = some x → Pv i H → te ((wipe σ [j]).set j (some x)) H fun y H4 => ∃ acc, H4 D = some (.lst acc) ∧ acc.length < sizeLine ∧ Pv (i + 1) (upd H4 D (.lst (acc ++ [y]))))
    (hd : ∀ H, Pv xs.length H → Qd H) : LcW (Itt K a) (gName j) tYes te [j] σ H1 D Qd := by
  refine lc_tup Pv h0 hl (fun i x H hx h => ?_) hd
  refine ⟨wipe1 σ j (some x), ?_⟩
  show tYes _ _ _
  refine r_yes ?_
  rw [if_pos rfl]
  exact hs i x H hx h
theorem app_ss (s t : Str) : s ++ t = uS (lS s ++ lS t) := by rw [← uS_app, uS_lS, uS_lS]
theorem join_sumS (n k : Nat) (s : Str) (hk : s.length = k) (ls : List (List Nat)) (hn : ∀ l ∈ ls, l.length ≤ n) (hz : ls.length * (n + k) ≤ 1000000) : ((ls.map uS).map (·.length)).sum + (ls.map uS).length * s.length ≤ 16777216 := by
  rw [hk]
  exact join_sum n k ls hn hz
theorem ren_call0 (z : Str) : ren (Ex.call0 z).pcs = ((lS z ++ lS "(") ++ TL.joinL (lS ", ") []) ++ lS ")" := by
  show lS z ++ ([40] ++ ([41] ++ [])) = _
  simp only [List.append_assoc]
  rfl
theorem ren_call1 (z : Str) (a : Ex) : ren (Ex.call1 z a).pcs = ((lS z ++ lS "(") ++ TL.joinL (lS ", ") [ren a.pcs]) ++ lS ")" := by
  show lS z ++ ([40] ++ ren (a.pcs ++ [RP])) = ((lS z ++ [40]) ++ ren a.pcs) ++ [41]
  rw [ren_app]
  simp only [List.append_assoc]
  rfl
theorem ren_call2 (z : Str) (a b : Ex) : ren (Ex.call2 z a b).pcs = ((lS z ++ lS "(") ++ TL.joinL (lS ", ") [ren a.pcs, ren b.pcs]) ++ lS ")" := by
  show lS z ++ ([40] ++ ren (a.pcs ++ .sign 9 :: .sp :: (b.pcs ++ [RP]))) = ((lS z ++ [40]) ++ (ren a.pcs ++ (lS ", " ++ ren b.pcs))) ++ [41]
  rw [ren_app, show ren (.sign 9 :: .sp :: (b.pcs ++ [RP])) = lS ", " ++ ren (b.pcs ++ [RP]) from rfl, ren_app]
  simp only [List.append_assoc]
  rfl
theorem ren_iter (z : Str) (c : Nat) (a : Ex) : ren (Ex.iter z c a).pcs = (((((lS "iterate " ++ lS z) ++ lS " ") ++ numS c) ++ lS " from (") ++ ren a.pcs) ++ lS ")" := by
  show lS "iterate " ++ (lS z ++ (lS " " ++ (numS c ++ (lS " from (" ++ ren (a.pcs ++ [RP]))))) = _
  rw [ren_app]
  simp only [List.append_assoc]
  rfl
theorem ren_pow (a : Ex) (k : Int) : ren (Ex.pow a k).pcs = ((lS "(" ++ ren a.pcs) ++ lS ")^") ++ ren (iPc k) := by
  show lS "(" ++ ren (a.pcs ++ RP :: .sign 8 :: iPc k) = _
  rw [ren_app, show ren (RP :: .sign 8 :: iPc k) = lS ")^" ++ ren (iPc k) from rfl]
  simp only [List.append_assoc]
theorem ren_not (a : Ex) : ren (Ex.not a).pcs = (lS "(not (" ++ ren a.pcs) ++ lS "))" := by
  show lS "(not (" ++ ren (a.pcs ++ [RP, RP]) = _
  rw [ren_app]
  simp only [List.append_assoc]
  rfl
theorem ren_ite (c a b : Ex) : ren (Ex.ite c a b).pcs = (((((lS "(if " ++ ren c.pcs) ++ lS " then ") ++ ren a.pcs) ++ lS " else ") ++ ren b.pcs) ++ lS ")" := by
  show lS "(if " ++ ren (c.pcs ++ .sp :: .word "then" :: .sp :: (a.pcs ++ .sp :: .word "else" :: .sp :: (b.pcs ++ [RP]))) = _
  rw [ren_app, show ren (.sp :: .word "then" :: .sp :: (a.pcs ++ .sp :: .word "else" :: .sp :: (b.pcs ++ [RP]))) = lS " then " ++ ren (a.pcs ++ .sp :: .word "else" :: .sp :: (b.pcs ++ [RP])) from rfl,
    ren_app, show ren (.sp :: .word "else" :: .sp :: (b.pcs ++ [RP])) = lS " else " ++ ren (b.pcs ++ [RP]) from rfl, ren_app]
  simp only [List.append_assoc]
  rfl
theorem ren_lett (z : Str) (a b : Ex) : ren (Ex.lett z a b).pcs = (((((lS "(let " ++ lS z) ++ lS " = ") ++ ren a.pcs) ++ lS " in ") ++ ren b.pcs) ++ lS ")" := by
  show lS "(let " ++ (lS z ++ (lS " = " ++ ren (a.pcs ++ .sp :: .word "in" :: .sp :: (b.pcs ++ [RP])))) = _
  rw [ren_app, show ren (.sp :: .word "in" :: .sp :: (b.pcs ++ [RP])) = lS " in " ++ ren (b.pcs ++ [RP]) from rfl, ren_app]
  simp only [List.append_assoc]
  rfl
theorem op_w (o : Op2) : o.pc.w = lS o.txt := by cases o <;> rfl
theorem ren_op (o : Op2) (a b : Ex) : ren (Ex.op o a b).pcs = (((((lS "((" ++ ren a.pcs) ++ lS ") ") ++ lS o.txt) ++ lS " (") ++ ren b.pcs) ++ lS "))" := by
  show lS "((" ++ ren (a.pcs ++ RP :: .sp :: o.pc :: .sp :: LP :: (b.pcs ++ [RP, RP])) = _
  rw [ren_app, show ren (RP :: .sp :: o.pc :: .sp :: LP :: (b.pcs ++ [RP, RP])) = lS ") " ++ (o.pc.w ++ (lS " (" ++ ren (b.pcs ++ [RP, RP]))) from rfl, ren_app, op_w]
  simp only [List.append_assoc]
  rfl
/-! how long they are -/
def xB : Nat → Nat
  | 0 => 30
  | d + 1 => 3 * xB d + 30
theorem xB_mono : ∀ {a b : Nat}, a ≤ b → xB a ≤ xB b
  | 0, 0, _ => Nat.le_refl _
  | 0, b + 1, _ => by have := xB_mono (Nat.zero_le b); show _ ≤ 3 * xB b + 30; omega
  | a + 1, 0, h => by omega
  | a + 1, b + 1, h => by
    have := xB_mono (show a ≤ b by omega)
    show 3 * xB a + 30 ≤ 3 * xB b + 30
    omega
theorem xB_one (d : Nat) : xB (1 + d) = 3 * xB d + 30 := by rw [Nat.add_comm]; rfl
theorem numS_le2 {c : Nat} (h : c ≤ 20) : (numS c).length ≤ 2 := (by decide +kernel : ∀ c < 21, (numS c).length ≤ 2) c (by omega)
theorem op_len (o : Op2) : (lS o.txt).length ≤ 3 := by cases o <;> decide +kernel
theorem ren_len : ∀ e : Ex, e.ok → e.nm → e.sm → (ren e.pcs).length ≤ xB e.dep
  | .num k u, ho, hm, hs => by
    have h1 := uPc_len (u := u) ⟨ho.2, hm, hs⟩
    have h2 := (by decide +kernel : ∀ k < 5, (numW.getD k []).length ≤ 6) k ho.1
    show (numW.getD k [] ++ ren (if u = [] then [] else .sp :: uPc u)).length ≤ 30
    split
    · rw [List.length_append]; show _ + 0 ≤ 30; omega
    · rw [List.length_append]; show _ + ([32] ++ ren (uPc u)).length ≤ 30
      rw [List.length_append]; show _ + (1 + _) ≤ 30; omega
  | .bool b, _, _, _ => by cases b <;> decide +kernel
  | .var x, _, hm, _ => by
    have := nm_len hm
    show (lS x ++ []).length ≤ 30
    rw [List.append_nil]; omega
  | .call0 x, _, hm, _ => by
    have := nm_len hm
    show (lS x ++ [40, 41]).length ≤ 3 * 30 + 30
    rw [List.length_append]; show _ + 2 ≤ _; omega
  | .call1 x a, ho, hm, hs => by
    have := nm_len hm.1
    have h1 := ren_len a ho hm.2 hs
    show _ ≤ xB (1 + a.dep)
    rw [ren_call1, xB_one]
    show (((lS x ++ lS "(") ++ ren a.pcs) ++ lS ")").length ≤ _
    simp only [List.length_append, ll_37, ll_15]
    omega
  | .call2 x a b, ho, hm, hs => by
    have := nm_len hm.1
    have h1 := ren_len a ho.1 hm.2.1 hs.1
    have h2 := ren_len b ho.2 hm.2.2 hs.2
    have m1 := xB_mono (Nat.le_max_left a.dep b.dep)
    have m2 := xB_mono (Nat.le_max_right a.dep b.dep)
    show _ ≤ xB (1 + max a.dep b.dep)
    rw [ren_call2, xB_one]
    show (((lS x ++ lS "(") ++ (ren a.pcs ++ (lS ", " ++ ren b.pcs))) ++ lS ")").length ≤ _
    simp only [List.length_append, ll_37, ll_15, ll_41]
    omega
  | .iter x c a, ho, hm, hs => by
    have := nm_len hm.1
    have h1 := ren_len a ho.2 hm.2 hs
    have h2 := numS_le2 ho.1
    show _ ≤ xB (1 + a.dep)
    rw [ren_iter, xB_one]
    simp only [List.length_append, ll_46, ll_2, ll_38, ll_15]
    omega
  | .pow a k, ho, hm, hs => by
    have h1 := ren_len a ho.2 hm hs
    have h2 := iPc_len ho.1
    show _ ≤ xB (1 + a.dep)
    rw [ren_pow, xB_one]
    simp only [List.length_append, ll_37, ll_34]
    omega
  | .not a, ho, hm, hs => by
    have h1 := ren_len a ho hm hs
    show _ ≤ xB (1 + a.dep)
    rw [ren_not, xB_one]
    simp only [List.length_append, ll_35, ll_14]
    omega
  | .ite c a b, ho, hm, hs => by
    have h0 := ren_len c ho.1 hm.1 hs.1
    have h1 := ren_len a ho.2.1 hm.2.1 hs.2.1
    have h2 := ren_len b ho.2.2 hm.2.2 hs.2.2
    have m0 := xB_mono (Nat.le_max_left c.dep (max a.dep b.dep))
    have m1 := xB_mono (Nat.le_trans (Nat.le_max_left a.dep b.dep) (Nat.le_max_right c.dep _))
    have m2 := xB_mono (Nat.le_trans (Nat.le_max_right a.dep b.dep) (Nat.le_max_right c.dep _))
    show _ ≤ xB (1 + max c.dep (max a.dep b.dep))
    rw [ren_ite, xB_one]
    simp only [List.length_append, ll_47, ll_43, ll_39, ll_15]
    omega
  | .lett x a b, ho, hm, hs => by
    have := nm_len hm.1
    have h1 := ren_len a ho.1 hm.2.1 hs.1
    have h2 := ren_len b ho.2 hm.2.2 hs.2
    have m1 := xB_mono (Nat.le_max_left a.dep b.dep)
    have m2 := xB_mono (Nat.le_max_right a.dep b.dep)
    show _ ≤ xB (1 + max a.dep b.dep)
    rw [ren_lett, xB_one]
    simp only [List.length_append, ll_48, ll_44, ll_40, ll_15]
    omega
  | .op o a b, ho, hm, hs => by
    have := op_len o
    have h1 := ren_len a ho.1 hm.1 hs.1
    have h2 := ren_len b ho.2 hm.2 hs.2
    have m1 := xB_mono (Nat.le_max_left a.dep b.dep)
    have m2 := xB_mono (Nat.le_max_right a.dep b.dep)
    show _ ≤ xB (1 + max a.dep b.dep)
    rw [ren_op, xB_one]
    simp only [List.length_append, ll_45, ll_42, ll_36, ll_14]
    omega
theorem ren_len4 {e : Ex} (h : e.ok ∧ e.nm ∧ e.sm) (hd : e.dep ≤ 4) : (ren e.pcs).length ≤ 3630 := Nat.le_trans (ren_len e h.1 h.2.1 h.2.2) (Nat.le_trans (xB_mono hd) (by decide))
def sgD : List (Key × V) := [(.inr "add", .str "+"), (.inr "sub", .str "-"), (.inr "mul", .str "*"), (.inr "div", .str "/"), (.inr "lt", .str "<"), (.inr "le", .str "<="), (.inr "eq", .str "=="), (.inr "and", .str "and"), (.inr "or", .str "or")]
theorem sgD_mk : mergeK [] sgD = sgD := by with_unfolding_all rfl
theorem sgD_get (o : Op2) : valV sgD (.inr o.head) = some (.str o.txt) := by cases o <;> with_unfolding_all rfl
theorem str_nat {c : Nat} : ((toString ((c : Nat) : Int) : String) : Str) = uS (numS c) := rfl
/-! None, compared -/
section
variable {A B : Prop} {a : Addr}
theorem r_iteN1 [Decidable (V.non = V.non)] (h : A) : if decide (V.non = V.non) = true then A else B := by
  rw [if_pos (decide_eq_true rfl)]
  exact h
theorem r_iteN2 [Decidable (V.ref a = V.non)] (h : B) : if decide (V.ref a = V.non) = true then A else B := by
  rw [if_neg (by rw [decide_eq_false (fun h => by cases h)]; exact Bool.false_ne_true)]
  exact h
theorem r_iteN3 [Decidable (V.non = V.non)] (h : B) : if (!decide (V.non = V.non)) = true then A else B := by
  rw [decide_eq_true rfl]
  exact h
theorem r_iteN4 [Decidable (V.ref a = V.non)] (h : A) : if (!decide (V.ref a = V.non)) = true then A else B := by
  rw [decide_eq_false (fun h => by cases h)]
  exact h
end
/-! texts of lines -/
def tolT (m : List Nat) : Option Un → List Nat
  | none => []
  | some u => m ++ ren (uPc u)
def oSm : Option Un → Prop
  | none => True
  | some u => u.length ≤ 2
def Ln.sm : Ln → Prop
  | .base => True
  | .unit u => u.length ≤ 2
  | .fn ps t e => ps.length ≤ 2 ∧ (∀ p ∈ ps, oSm p.2) ∧ oSm t ∧ e.sm ∧ e.dep ≤ 4
  | .shw e t => e.sm ∧ oSm t ∧ e.dep ≤ 4
theorem opt_sm (N : List Nat) (a : Nat) : oSm (opt N a).1 := by
  obtain ⟨h1, h2, h3⟩ := brk_ok N a
  unfold opt
  dsimp only
  split
  · trivial
  · exact h3
theorem pmL_sm (N : List Nat) : ∀ (zs : List Str) (a : Nat), (pmL N zs a).1.length = zs.length ∧ ∀ p ∈ (pmL N zs a).1, oSm p.2
  | [], a => ⟨rfl, fun p h => by cases h⟩
  | z :: r, a => by
    obtain ⟨h1, h2⟩ := pmL_sm N r (opt N a).2
    refine ⟨congrArg (· + 1) h1, fun p h => ?_⟩
    rcases List.mem_cons.mp h with rfl | h
    · exact opt_sm N a
    · exact h2 p h
theorem lnD_sm (N : List Nat) (a : Nat) : (lnD N a).1.sm := by
  unfold lnD
  dsimp only
  split
  · trivial
  · split
    · exact (brk_ok N (a + 1)).2.2
    · split
      · have hp := pmL_sm N ((["x", "y"] : List Str).take (tkN N 3 (a + 1))) (a + 2)
        generalize hps : pmL N ((["x", "y"] : List Str).take (tkN N 3 (a + 1))) (a + 2) = ps at *
        have he := drw_ok N 4 (opt N ps.2).2
        refine ⟨?_, hp.2, opt_sm N _, he.sm, he.dp⟩
        show ps.1.length ≤ 2
        rw [hp.1, List.length_take]
        show min _ 2 ≤ 2
        omega
      · have he := drw_ok N 4 (a + 1)
        exact ⟨he.sm, opt_sm N _, he.dp⟩
theorem lnsD_sm (N : List Nat) : ∀ n a, ∀ l ∈ (lnsD N n a).1, l.sm
  | 0, a, l, h => by cases h
  | n + 1, a, l, h => by
    rcases List.mem_cons.mp h with rfl | h
    · exact lnD_sm N a
    · exact lnsD_sm N n _ l h
theorem oUW {u : Un} (h1 : oOk (some u)) (h2 : oNm (some u)) (h3 : oSm (some u)) : UW u := ⟨h1, h2, h3⟩
theorem tol_len {m : List Nat} {t : Option Un} (hl : m.length ≤ 4) (h1 : oOk t) (h2 : oNm t) (h3 : oSm t) : (tolT m t).length ≤ 20 := by
  cases t with
  | none => exact Nat.zero_le _
  | some u =>
    have := uPc_len (oUW h1 h2 h3)
    show (m ++ ren (uPc u)).length ≤ 20
    rw [List.length_append]
    omega
theorem oPc_ren (t : Option Un) : ren (oPc t) = tolT (lS ": ") t := by cases t <;> rfl
theorem inPc_ren (t : Option Un) : ren (inPc t) = tolT (lS " in ") t := by cases t <;> rfl
def pmT (p : Pm) : List Nat := lS p.1 ++ tolT (lS ": ") p.2
theorem pmPc_ren (p : Pm) : ren (pmPc p) = pmT p := by
  show lS p.1 ++ ren (oPc p.2) = _
  rw [oPc_ren]
  rfl
theorem pmsPc_ren : ∀ ps : List Pm, ren (pmsPc ps) = TL.joinL (lS ", ") (ps.map pmT)
  | [] => rfl
  | [p] => pmPc_ren p
  | p :: q :: r => by
    show ren (pmPc p ++ .sign 9 :: .sp :: pmsPc (q :: r)) = pmT p ++ (lS ", " ++ TL.joinL (lS ", ") ((q :: r).map pmT))
    rw [ren_app, show ren (.sign 9 :: .sp :: pmsPc (q :: r)) = lS ", " ++ ren (pmsPc (q :: r)) from rfl, pmsPc_ren (q :: r), pmPc_ren]
theorem ren_unit (u : Un) : ren (Ln.unit u).pcs = (lS "unit km = 2.5 " ++ ren (uPc u)) ++ lS ";" := by
  show lS "unit km = 2.5 " ++ ren (uPc u ++ [.sign 10]) = _
  rw [ren_app, List.append_assoc]
  rfl
theorem ren_shw (e : Ex) (t : Option Un) : ren (Ln.shw e t).pcs = ((lS "show " ++ ren e.pcs) ++ tolT (lS " in ") t) ++ lS ";" := by
  show lS "show " ++ ren (e.pcs ++ (inPc t ++ [.sign 10])) = _
  rw [ren_app, ren_app, inPc_ren]
  simp only [List.append_assoc]
  rfl
theorem ren_fn (ps : List Pm) (t : Option Un) (e : Ex) : ren (Ln.fn ps t e).pcs = (((((lS "fun f(" ++ TL.joinL (lS ", ") (ps.map pmT)) ++ lS ")") ++ tolT (lS ": ") t) ++ lS " = ") ++ ren e.pcs) ++ lS ";" := by
  show lS "fun f(" ++ ren (pmsPc ps ++ RP :: (oPc t ++ .sp :: .sign 2 :: .sp :: (e.pcs ++ [.sign 10]))) = _
  rw [ren_app, pmsPc_ren, show ren (RP :: (oPc t ++ .sp :: .sign 2 :: .sp :: (e.pcs ++ [.sign 10]))) = lS ")" ++ ren (oPc t ++ .sp :: .sign 2 :: .sp :: (e.pcs ++ [.sign 10])) from rfl, ren_app, oPc_ren,
    show ren (.sp :: .sign 2 :: .sp :: (e.pcs ++ [.sign 10])) = lS " = " ++ ren (e.pcs ++ [.sign 10]) from rfl, ren_app]
  simp only [List.append_assoc]
  rfl
theorem pmT_len {ps : List Pm} (h1 : ∀ p ∈ ps, oOk p.2) (h2 : ∀ p ∈ ps, p.1 ∈ NMS ∧ oNm p.2) (h3 : ∀ p ∈ ps, oSm p.2) : ∀ l ∈ ps.map pmT, l.length ≤ 30 := by
  intro l hl
  obtain ⟨p, hp, rfl⟩ := List.mem_map.mp hl
  have a1 := tol_len (m := lS ": ") (by rw [ll_55]; decide) (h1 p hp) (h2 p hp).2 (h3 p hp)
  have a2 := nm_len (h2 p hp).1
  unfold pmT
  rw [List.length_append]
  omega
theorem ln_len {l : Ln} (h1 : l.ok) (h2 : l.nm) (h3 : l.sm) : (ren l.pcs).length ≤ 4000 := by
  cases l with
  | base => decide +kernel
  | unit u =>
    have := uPc_len (u := u) ⟨h1, h2, h3⟩
    rw [ren_unit]
    simp only [List.length_append, ll_56, ll_54]
    omega
  | shw e t =>
    have a1 := ren_len4 (e := e) ⟨h1.1, h2.1, h3.1⟩ h3.2.2
    have a2 := tol_len (m := lS " in ") (by rw [ll_40]; decide) h1.2.2 h2.2 h3.2.1
    rw [ren_shw]
    simp only [List.length_append, ll_57, ll_54]
    omega
  | fn ps t e =>
    have a1 := ren_len4 (e := e) ⟨h1.2.2.1, h2.2.2, h3.2.2.2.1⟩ h3.2.2.2.2
    have a2 := tol_len (m := lS ": ") (by rw [ll_55]; decide) h1.2.1 h2.2.1 h3.2.2.1
    have a3 := joinL_len (lS ", ") 30 _ (pmT_len h1.1 h2.1 h3.2.1)
    have a4 : (ps.map pmT).length * (30 + (lS ", ").length) ≤ 2 * 32 := by
      rw [List.length_map, ll_41]
      exact Nat.mul_le_mul_right _ h3.1
    rw [ren_fn]
    simp only [List.length_append, ll_58, ll_15, ll_44, ll_54]
    omega
theorem pmD0_get : ∀ (ps : List Pm) (i : Nat) (d : PyData), (pmD0 ps)[i]? = some d → ∃ p, ps[i]? = some p ∧ d = .tuple [.str p.1, oD0 p.2]
  | [], i, d, h => by simp [pmD0] at h
  | q :: u, 0, d, h => by
    simp [pmD0] at h
    exact ⟨_, rfl, h.symm⟩
  | q :: u, i + 1, d, h => by
    simp only [pmD0, List.getElem?_cons_succ] at h
    obtain ⟨q', h1, h2⟩ := pmD0_get u i d h
    exact ⟨q', by simpa using h1, h2⟩
theorem pmD0_len : ∀ ps : List Pm, (pmD0 ps).length = ps.length
  | [] => rfl
  | p :: ps => congrArg (· + 1) (pmD0_len ps)
end Al
namespace Al
open PySem PySem.Spec PyProof.Rows L2 NdefX PySem.W
local macro_rules | `(tactic| walk_at "rd1") => `(tactic| with_reducible first
  | (show tVar _ _ _ _; refine r_var (by with_unfolding_all rfl) ?_) | refine r_c ?_ | refine r_op ?_ | refine r_I0 ?_ | refine r_un ?_ | refine r_U ?_
  | (show rI _ _ _ _ _ _; refine r_I (by with_unfolding_all first | exact ⟨by decide, by decide⟩ | (show (0 : Int) < _; decide)) ?_)
  | refine r_eqI ?_ | refine r_neI ?_ | refine r_eqS ?_ | refine r_neS ?_ | refine r_eqB ?_ | refine r_neB ?_ | refine r_chain ?_
  | refine r_test ?_ | refine r_B ?_ | refine r_bl ?_ | refine r_int ?_ | refine r_and ?_ | refine r_or ?_ | refine r_not ?_ | refine r_andV ?_ | refine r_orV ?_ | refine r_notV ?_
  | refine r_if ?_ | refine r_nil ?_ | refine r_cons ?_ | refine r_cb ?_ | refine r_call ?_ | refine r_callS ?_ | refine r_tup ?_ | refine r_lst ?_ | refine r_seq ?_ | refine r_next ?_ | refine r_asg ?_
  | refine r_name ?_ | refine r_ifS ?_ | refine r_ret ?_ | refine r_retN ?_ | refine r_drop ?_ | refine r_brk ?_ | refine r_ct ?_ | refine r_sl ?_ | refine r_part ?_ | refine r_nopart ?_
  | refine r_bm ?_ | refine r_bm0 ?_ | refine r_raiseX ?_ | refine r_mkO ?_ | refine iteF ?_ | refine iteT ?_ | refine r_int1 ?_ | refine r_int1b ?_ | (show _ ≤ sizeLine ∧ _; refine r_sz (by with_unfolding_all first | omega | (simp only [List.length_cons, List.length_nil]; omega)) ?_)
  | (show ∃ _, _; refine ⟨_, rfl, ?_⟩) | (show ∃ _, _; refine ⟨_, _, rfl, rfl, ?_⟩) | (show ∃ _, _; refine ⟨_, _, rfl, ?_⟩))
local macro_rules | `(tactic| walk_at "rd") => `(tactic| repeat (walk_at "rd1"))
local macro_rules | `(tactic| walk_at "rd2") => `(tactic| with_reducible first
  | (show tFld _ _ _ _ _ _; refine r_fldI (by with_unfolding_all rfl) (by with_unfolding_all assumption) (by with_unfolding_all assumption) (by with_unfolding_all assumption) (by with_unfolding_all rfl) ?_)
  | (show tMetS _ _ _ _ _ _ _ _ _; refine r_rm (by with_unfolding_all assumption) (by with_unfolding_all rfl) (by decide) ?_)
  | refine r_sfl ?_ | refine iteNF ?_ | refine iteNT ?_ | refine r_makS ?_)
local macro_rules | `(tactic| walk_at "rp") => `(tactic| repeat first | walk_at "rd1" | walk_at "rd2")
local macro_rules | `(tactic| walk_at "rq1") => `(tactic| with_reducible first | refine r_rng1 ?_ | refine r_rng2 ?_ | refine r_forL ?_ | refine r_forT ?_ | refine r_dget ?_ | refine r_pnil ?_ | refine r_pcons ?_ | refine r_lcL ?_ | refine r_lcT ?_ | refine r_lcR ?_ | refine r_yes ?_ | refine r_disp ?_)
local macro_rules | `(tactic| walk_at "rq") => `(tactic| repeat first | walk_at "rd1" | walk_at "rd2" | walk_at "rq1")
local macro_rules | `(tactic| walk_at "slen") => `(tactic| (simp only [sizeLine_eq, len_uS, List.length_append, ll_0, lt_0, ll_1, lt_1, ll_2, lt_2, ll_3, lt_3, ll_4, lt_4, ll_5, lt_5, ll_6, lt_6, ll_7, lt_7, ll_8, lt_8, ll_9, lt_9, ll_10, lt_10, ll_11, lt_11, ll_12, lt_12, ll_13, lt_13, ll_14, lt_14, ll_15, lt_15, ll_16, lt_16, ll_17, lt_17, ll_18, lt_18, ll_19, lt_19, ll_20, lt_20, ll_21, lt_21, ll_22, lt_22, ll_23, lt_23, ll_24, lt_24, ll_25, lt_25, ll_26, lt_26, ll_27, lt_27, ll_28, lt_28, ll_29, lt_29, ll_30, lt_30, ll_31, lt_31, ll_32, lt_32, ll_33, lt_33, ll_34, lt_34, ll_35, lt_35, ll_36, lt_36, ll_37, lt_37, ll_38, lt_38, ll_39, lt_39, ll_40, lt_40, ll_41, lt_41, ll_42, lt_42, ll_43, lt_43, ll_44, lt_44, ll_45, lt_45, ll_46, lt_46, ll_47, lt_47, ll_48, lt_48, ll_49, lt_49, ll_50, lt_50, ll_51, lt_51, ll_52, lt_52, ll_53, lt_53, ll_54, lt_54, ll_55, lt_55, ll_56, lt_56, ll_57, lt_57, ll_58, lt_58, ll_59, lt_59, ll_60, lt_60, ll_61, lt_61, ll_62, lt_62, ll_63, lt_63, ll_64, lt_64]; with_unfolding_all omega))
local macro_rules | `(tactic| walk_at "rt1") => `(tactic| with_reducible (show _ + _ ≤ sizeLine ∧ _; refine ⟨by walk_at "slen", ?_⟩; first | rw [uS_app] | rw [app_su] | rw [app_us] | skip))
local macro_rules | `(tactic| walk_at "rs1") => `(tactic| with_reducible first | refine r_iteSY ?_ | refine r_iteN1 ?_ | refine r_iteN2 ?_ | refine r_iteN3 ?_ | refine r_iteN4 ?_ | (show V.non = V.non ∧ _; refine ⟨rfl, ?_⟩) | refine r_iteSN (by with_unfolding_all first | assumption | decide +kernel) ?_)
local macro_rules | `(tactic| walk_at "rt") => `(tactic| repeat first | walk_at "rt1" | walk_at "rs1" | walk_at "rd1" | walk_at "rd2" | walk_at "rq1")

/-! ### k01: trees printed, walked -/
def spText (n : Nat) : Sp := fun vs H Q _ => ∃ (v : V) (e : Ex), vs = [v] ∧ Tp H v e.d0 ∧ e.dep < n ∧ n ≤ 5 ∧ (e.ok ∧ e.nm ∧ e.sm) ∧ ∀ H', Same H H' → Q (.str (uS (ren e.pcs))) H'
section
variable {P : Program} {w : World} {K : Frag} {mg : Str → Option Value} {base : Heap}
abbrev s_law_text : Stmt := top 49
theorem sc_law_text : FnScope ["_law_e", "_law_head", "_law_one", "_law_sign"] ["_law_e"] (defScope s_law_text) := ⟨rfl, rfl, rfl, by decide +kernel, rfl, by decide +kernel, by decide +kernel⟩
theorem cal_law_text0 (dx : DefAt K mg "_law_text" s_law_text) : Cal P w K mg base 2 "_law_text" ["_law_e"] (spText 0) := by
  refine cal_mk (k := 1) dx sc_law_text (fun _ _ _ _ _ _ us hl => match us, hl with | [_], _ => rfl) (fun vs H Q E h => ?_) (fun fn cdv A outer s H vs Q E hr h => ?_)
  · obtain ⟨v, e, _, _, h, _⟩ := h
    omega
  · obtain ⟨v, e, _, _, h, _⟩ := h
    omega
theorem cal_law_text (dx : DefAt K mg "_law_text" s_law_text) (B : Bl mg) (G_law_number : Cal P w K mg base 1 "_law_number" ["_law_number_here"] spNumber) (G_law_units : Cal P w K mg base 1 "_law_units" ["_law_product"] spUnits) {n k : Nat} (hk : 2 ≤ k)
    (G_law_text : Cal P w K mg base k "_law_text" ["_law_e"] (spText n)) : Cal P w K mg base (k + 1) "_law_text" ["_law_e"] (spText (n + 1)) := by
  refine cal_mk dx sc_law_text (fun _ _ _ _ _ _ us hl => match us, hl with | [_], _ => rfl) (fun vs H Q E h => ?_) (fun fn cdv A outer s H vs Q E hr h => ?_)
  · obtain ⟨v, e, rfl, _⟩ := h
    rfl
  · obtain ⟨v, e, rfl, ht, hd, hn, ⟨ho, hm, hs⟩, kq⟩ := h
    have tk : L2N.Takes (cxOf (L2N.CX P w) P w K mg base ["_law_e", "_law_head", "_law_one", "_law_sign"] "_law_text" (defScope s_law_text) fn cdv A outer s H E) (fun cls d _ H => E cls d H) := L2N.takes_of rfl rfl rfl rfl
    have hu := hu_of hr
    have hs0 : Same H H := fun b o h => h
    have s0 : Same H H := fun b o h => h
    refine ⟨_, (pss_cons (ps_set (i := 1) sc_law_text.nd rfl (Or.inl rfl) (pe_ix ix_tup (pv 0) pe_int (fun _ _ => rfl)))
      (pss_cons (ps_if (pt_cmpR op_eq (pv 1) pe_str (nomark _))
      (pss_one (ps_ret (pe_op op_add_str (pe_cal G_law_number (hr.mono (by first | decide | omega)) tk (pa_cons (pe_ix ix_tup (pv 0) pe_int (fun _ _ => rfl)) pa_nil)) (pe_ix ix_list (pe_lst (pa_cons pe_str (pa_cons (pe_op op_add_str pe_str (pe_cal G_law_units (hr.mono (by first | decide | omega)) tk (pa_cons (pe_ix ix_tup (pv 0) pe_int (fun _ _ => rfl)) pa_nil))) pa_nil))) (pe_callTy call_int1 (by rfl) B.int (by decide +kernel) (pa_cons (pe_cmpR op_gt (pe_callB call_len_seq (by rfl) B.len PySem.boot_len (pa_cons (pe_ix ix_tup (pv 0) pe_int (fun _ _ => rfl)) pa_nil)) pe_int (nomark _)) pa_nil)) (fun _ _ => rfl)))))
      pss_nil)
      (pss_cons (ps_if (pt_cmpR op_eq (pv 1) pe_str (nomark _))
      (pss_one (ps_ret (pe_ix ix_list (pe_lst (pa_cons pe_str (pa_cons pe_str pa_nil))) (pe_callTy call_int1 (by rfl) B.int (by decide +kernel) (pa_cons (pe_ix ix_tup (pv 0) pe_int (fun _ _ => rfl)) pa_nil)) (fun _ _ => rfl))))
      pss_nil)
      (pss_cons (ps_if (pt_cmpR op_eq (pv 1) pe_str (nomark _))
      (pss_one (ps_ret (pe_ix ix_tup (pv 0) pe_int (fun _ _ => rfl))))
      pss_nil)
      (pss_cons (ps_if (pt_cmpR op_eq (pv 1) pe_str (nomark _))
      (pss_one (ps_ret (pe_op op_add_str (pe_op op_add_str (pe_op op_add_str (pe_ix ix_tup (pv 0) pe_int (fun _ _ => rfl)) pe_str) (pe_bm PySem.F.plainAttrs_str PySem.F.slot_str_join PySem.F.type_str_join mt_join pe_str (pa_cons (pe_lc (own := [("_law_one", 2)]) rfl sc_law_text.nd (pi_tup (pe_ix ix_tup (pv 0) pe_int (fun _ _ => rfl))) (blkOk_by (N := ["_law_e", "_law_head", "_law_one", "_law_sign"]) (sc := defScope s_law_text) (by decide +kernel)) (fun _ _ _ _ _ => (pg_name (i := 2) sc_law_text.nd rfl (Or.inl rfl))) (fun _ _ _ _ _ => pts_nil) (fun _ _ _ _ _ => (pe_calN G_law_text (hr.mono (by first | decide | omega)) (pa_cons (pv 2) pa_nil)))) pa_nil))) pe_str)))
      pss_nil)
      (pss_cons (ps_if (pt_cmpR op_eq (pv 1) pe_str (nomark _))
      (pss_one (ps_ret (pe_op op_add_str (pe_op op_add_str (pe_op op_add_str (pe_op op_add_str (pe_op op_add_str (pe_op op_add_str pe_str (pe_ix ix_tup (pv 0) pe_int (fun _ _ => rfl))) pe_str) (pe_callTy call_str_int (by rfl) B.str (by decide +kernel) (pa_cons (pe_ix ix_tup (pv 0) pe_int (fun _ _ => rfl)) pa_nil))) pe_str) (pe_cal G_law_text (hr.mono (by first | decide | omega)) tk (pa_cons (pe_ix ix_tup (pv 0) pe_int (fun _ _ => rfl)) pa_nil))) pe_str)))
      pss_nil)
      (pss_cons (ps_if (pt_cmpR op_eq (pv 1) pe_str (nomark _))
      (pss_one (ps_ret (pe_op op_add_str (pe_op op_add_str (pe_op op_add_str pe_str (pe_cal G_law_text (hr.mono (by first | decide | omega)) tk (pa_cons (pe_ix ix_tup (pv 0) pe_int (fun _ _ => rfl)) pa_nil))) pe_str) (pe_callTy call_str_int (by rfl) B.str (by decide +kernel) (pa_cons (pe_ix ix_tup (pv 0) pe_int (fun _ _ => rfl)) pa_nil)))))
      pss_nil)
      (pss_cons (ps_if (pt_cmpR op_eq (pv 1) pe_str (nomark _))
      (pss_one (ps_ret (pe_op op_add_str (pe_op op_add_str pe_str (pe_cal G_law_text (hr.mono (by first | decide | omega)) tk (pa_cons (pe_ix ix_tup (pv 0) pe_int (fun _ _ => rfl)) pa_nil))) pe_str)))
      pss_nil)
      (pss_cons (ps_if (pt_cmpR op_eq (pv 1) pe_str (nomark _))
      (pss_one (ps_ret (pe_op op_add_str (pe_op op_add_str (pe_op op_add_str (pe_op op_add_str (pe_op op_add_str (pe_op op_add_str pe_str (pe_cal G_law_text (hr.mono (by first | decide | omega)) tk (pa_cons (pe_ix ix_tup (pv 0) pe_int (fun _ _ => rfl)) pa_nil))) pe_str) (pe_cal G_law_text (hr.mono (by first | decide | omega)) tk (pa_cons (pe_ix ix_tup (pv 0) pe_int (fun _ _ => rfl)) pa_nil))) pe_str) (pe_cal G_law_text (hr.mono (by first | decide | omega)) tk (pa_cons (pe_ix ix_tup (pv 0) pe_int (fun _ _ => rfl)) pa_nil))) pe_str)))
      pss_nil)
      (pss_cons (ps_if (pt_cmpR op_eq (pv 1) pe_str (nomark _))
      (pss_one (ps_ret (pe_op op_add_str (pe_op op_add_str (pe_op op_add_str (pe_op op_add_str (pe_op op_add_str (pe_op op_add_str pe_str (pe_ix ix_tup (pv 0) pe_int (fun _ _ => rfl))) pe_str) (pe_cal G_law_text (hr.mono (by first | decide | omega)) tk (pa_cons (pe_ix ix_tup (pv 0) pe_int (fun _ _ => rfl)) pa_nil))) pe_str) (pe_cal G_law_text (hr.mono (by first | decide | omega)) tk (pa_cons (pe_ix ix_tup (pv 0) pe_int (fun _ _ => rfl)) pa_nil))) pe_str)))
      pss_nil)
      (pss_cons (ps_set (i := 3) sc_law_text.nd rfl (Or.inl rfl) (pe_dget hu (pe_disp (pps_cons pe_str pe_str (pps_cons pe_str pe_str (pps_cons pe_str pe_str (pps_cons pe_str pe_str (pps_cons pe_str pe_str (pps_cons pe_str pe_str (pps_cons pe_str pe_str (pps_cons pe_str pe_str (pps_cons pe_str pe_str pps_nil))))))))) (by rfl) (by rfl) (fun z => by cases z) (by decide)) (pv 1) (fun _ _ => rfl)))
      (pss_one (ps_ret (pe_op op_add_str (pe_op op_add_str (pe_op op_add_str (pe_op op_add_str (pe_op op_add_str (pe_op op_add_str pe_str (pe_cal G_law_text (hr.mono (by first | decide | omega)) tk (pa_cons (pe_ix ix_tup (pv 0) pe_int (fun _ _ => rfl)) pa_nil))) pe_str) (pv 3)) pe_str) (pe_cal G_law_text (hr.mono (by first | decide | omega)) tk (pa_cons (pe_ix ix_tup (pv 0) pe_int (fun _ _ => rfl)) pa_nil))) pe_str)))))))))))))), ?_⟩
    by_cases hcall : ∃ (z : Str) (es : List Ex), e.d0 = .tuple [.str "call", .str z, .tuple (es.map Ex.d0), .int 0] ∧ z ∈ NMS ∧ (∀ e ∈ es, e.dep < n ∧ e.ok ∧ e.nm ∧ e.sm) ∧ es.length ≤ 2 ∧ ren e.pcs = ((lS z ++ lS "(") ++ TL.joinL (lS ", ") (es.map fun e => ren e.pcs)) ++ lS ")"
    · obtain ⟨z, es, he, hz0, hes, hel, hrn⟩ := hcall
      rw [he] at ht
      rw [hrn] at kq
      obtain ⟨a, xs, rfl, ha, hxs⟩ := ht.tupI
      obtain ⟨y0, r0, rfl, t0, hxs⟩ := hxs.consI
      obtain ⟨y1, r1, rfl, t1, hxs⟩ := hxs.consI
      obtain ⟨y2, r2, rfl, t2, hxs⟩ := hxs.consI
      obtain ⟨y3, r3, rfl, t3, hxs⟩ := hxs.consI
      cases hxs.nilI
      cases t0
      cases t1
      cases t3
      obtain ⟨b, us, rfl, hb, hus⟩ := t2.tupI
      have hul : us.length = es.length := by rw [hus.len, List.length_map]
      have hz := nm_len hz0
      have hz' : z.length ≤ 3 := hz
      walk_at "rt"
      refine r_ixT (n := 0) (SqT.of ha) rfl ?_
      walk_at "rt"
      refine r_ixT (n := 1) (SqT.of ha) rfl ?_
      walk_at "rt"
      refine ⟨rfl, ?_⟩
      walk_at "rt"
      refine r_ixT (n := 2) (SqT.of ha) rfl ?_
      walk_at "rt"
      refine ⟨⟨us, SqT.of hb⟩, fun D hD => ?_⟩
      refine lcw_tup1 (fun i H' => Same H H' ∧ ∃ acc, H' D = some (.lst acc) ∧ acc = ((es.map fun e => ren e.pcs).take i).map fun l => V.str (uS l)) ⟨Same.new hD, [], upd_same, rfl⟩ (fun i H' _ h => SqT.of (h.1 _ _ hb)) ?_ ?_
      · rintro i x H1 hx ⟨sm, acc, hacc, rfl⟩
        obtain ⟨d, hd, tx⟩ := hus.tep hx
        rw [List.getElem?_map] at hd
        obtain ⟨e', he', rfl⟩ := Option.map_eq_some_iff.mp hd
        obtain ⟨g1, g2⟩ := hes e' (List.mem_of_getElem? he')
        have hte : (es.map fun e => ren e.pcs).take (i + 1) = (es.map fun e => ren e.pcs).take i ++ [ren e'.pcs] := by rw [List.take_succ, List.getElem?_map, he']; rfl
        have hal : (((es.map fun e => ren e.pcs).take i).map fun l => V.str (uS l)).length ≤ 2 := by
          rw [List.length_map, List.length_take, List.length_map]; omega
        rw [hte, List.map_append]
        generalize ((es.map fun e => ren e.pcs).take i).map (fun l => V.str (uS l)) = acc at *
        walk_at "rt"
        refine ⟨x, e', rfl, tx.keep (Same.keep sm), g1, by omega, g2, fun H2 s2 => ?_⟩
        exact ⟨acc, s2 _ _ hacc, by rw [sizeLine_eq]; omega, Same.mut (fun a u h => s2 _ _ (sm a u h)) hD, acc ++ [.str (uS (ren e'.pcs))], upd_same, rfl⟩
      · rintro H1 ⟨sm, acc, hacc, rfl⟩
        have hk2 : (es.map fun e => ren e.pcs).length = es.length := List.length_map ..
        rw [hul, ← hk2, List.take_length] at hacc
        have hll : ∀ l ∈ es.map fun e => ren e.pcs, l.length ≤ 3630 := by
          intro l hl
          obtain ⟨e', he', rfl⟩ := List.mem_map.mp hl
          obtain ⟨g1, g2⟩ := hes e' he'
          exact ren_len4 g2 (by omega)
        have hjl := joinL_len (lS ", ") 3630 _ hll
        rw [ll_41, hk2] at hjl
        have hjb : (es.map fun e => ren e.pcs).length * (3630 + 2) ≤ 1000000 := by rw [hk2]; omega
        have hq := join_sumS 3630 2 ", " lt_41 _ hll hjb
        walk_at "rt"
        refine ⟨", ", D, (es.map fun e => ren e.pcs).map uS, rfl, rfl, .inl (sql_uS hacc), ?_, ?_⟩
        · exact hq
        rw [join_lit, app_ss]
        walk_at "rt"
        exact kq _ sm
    · cases e with
      | num kk u =>
        obtain ⟨a, xs, rfl, ha, hxs⟩ := ht.tupI
        obtain ⟨y0, r0, rfl, t0, hxs⟩ := hxs.consI
        obtain ⟨y1, r1, rfl, t1, hxs⟩ := hxs.consI
        obtain ⟨y2, r2, rfl, t2, hxs⟩ := hxs.consI
        obtain ⟨y3, r3, rfl, t3, hxs⟩ := hxs.consI
        cases hxs.nilI
        cases t0
        cases t3
        obtain ⟨hk5, hu9⟩ := ho
        obtain ⟨b, us, rfl, hb, hus⟩ := t2.tupI
        have hul : us.length = u.length := by rw [hus.len, uD0_len]
        walk_at "rt"
        refine r_ixT (n := 0) (SqT.of (hs0 _ _ ha)) rfl ?_
        walk_at "rt"
        refine r_ixT (n := 1) (SqT.of (hs0 _ _ ha)) rfl ?_
        walk_at "rt"
        refine ⟨y1, numA.getD kk 0, numB.getD kk 1, rfl, t1, (by decide +kernel : ∀ k < 5, numA.getD k 0 < 1000000) kk hk5, (by decide +kernel : ∀ k < 5, numB.getD k 1 < 1000000) kk hk5, ?_⟩
        rw [numTxt_ok kk hk5]
        have hnl := (by decide +kernel : ∀ k < 5, (numW.getD k []).length ≤ 6) kk hk5
        walk_at "rt"
        refine r_ixT (n := 2) (SqT.of (hs0 _ _ ha)) rfl ?_
        walk_at "rt"
        refine ⟨_, u, rfl, t2, ⟨hu9, hm, hs⟩, fun H1 s1 => ?_⟩
        have hpl := uPc_len (u := u) ⟨hu9, hm, hs⟩
        walk_at "rt"
        intro q hq
        have a1 : upd H1 q (.lst [.str "", .str (uS (lS " " ++ ren (uPc u)))]) q = some (.lst [.str "", .str (uS (lS " " ++ ren (uPc u)))]) := upd_same
        have s2 : Same H (upd H1 q (.lst [.str "", .str (uS (lS " " ++ ren (uPc u)))])) := fun b o h => Same.new hq _ _ (s1 _ _ h)
        generalize upd H1 q (.lst [.str "", .str (uS (lS " " ++ ren (uPc u)))]) = H2 at *
        walk_at "rt"
        refine r_ixT (n := 2) (SqT.of (s2 _ _ ha)) rfl ?_
        walk_at "rt"
        refine ⟨b, us, rfl, .inr (SqT.of (s2 _ _ hb)), ?_⟩
        rw [hul]
        walk_at "rt"
        by_cases h1 : u = []
        · subst h1
          have e1 : (if decide (((([] : Un).length : Nat) : Int) > 0) = true then (1 : Int) else 0) = ((0 : Nat) : Int) := rfl
          rw [e1]
          refine r_ixL (SqL.of a1) rfl ?_
          walk_at "rt"
          exact kq _ s2
        · have h2 : 0 < u.length := by cases u with
            | nil => exact absurd rfl h1
            | cons q u => exact Nat.succ_pos _
          have e1 : (if decide (((u.length : Nat) : Int) > 0) = true then (1 : Int) else 0) = ((1 : Nat) : Int) := by rw [decide_eq_true (by omega)]; rfl
          rw [e1]
          refine r_ixL (SqL.of a1) rfl ?_
          walk_at "rt"
          have e2 : ren (Ex.num kk u).pcs = numW.getD kk [] ++ (lS " " ++ ren (uPc u)) := by
            show ren (nPc kk :: (if u = [] then [] else .sp :: uPc u)) = _
            rw [if_neg h1]
            rfl
          rw [e2] at kq
          exact kq _ s2
      | bool b =>
        obtain ⟨a, xs, rfl, ha, hxs⟩ := ht.tupI
        obtain ⟨y0, r0, rfl, t0, hxs⟩ := hxs.consI
        obtain ⟨y1, r1, rfl, t1, hxs⟩ := hxs.consI
        cases hxs.nilI
        cases t0
        cases t1
        walk_at "rt"
        refine r_ixT (n := 0) (SqT.of (hs0 _ _ ha)) rfl ?_
        walk_at "rt"
        intro q hq
        have a1 : upd H q (.lst [.str "false", .str "true"]) q = some (.lst [.str "false", .str "true"]) := upd_same
        have s2 : Same H (upd H q (.lst [.str "false", .str "true"])) := Same.new hq
        generalize upd H q (.lst [.str "false", .str "true"]) = H2 at *
        walk_at "rt"
        refine r_ixT (n := 1) (SqT.of (s2 _ _ ha)) rfl ?_
        walk_at "rt"
        cases b with
        | true =>
          have e1 : (if true = true then (1 : Int) else 0) = ((1 : Nat) : Int) := rfl
          try rw [e1]
          refine r_ixL (n := 1) (SqL.of a1) rfl ?_
          walk_at "rt"
          exact kq _ s2
        | false =>
          refine r_ixL (n := 0) (SqL.of a1) rfl ?_
          walk_at "rt"
          exact kq _ s2
      | var x =>
        obtain ⟨a, xs, rfl, ha, hxs⟩ := ht.tupI
        obtain ⟨y0, r0, rfl, t0, hxs⟩ := hxs.consI
        obtain ⟨y1, r1, rfl, t1, hxs⟩ := hxs.consI
        obtain ⟨y2, r2, rfl, t2, hxs⟩ := hxs.consI
        cases hxs.nilI
        cases t0
        cases t1
        cases t2
        walk_at "rt"
        refine r_ixT (n := 0) (SqT.of (hs0 _ _ ha)) rfl ?_
        walk_at "rt"
        refine r_ixT (n := 1) (SqT.of (hs0 _ _ ha)) rfl ?_
        walk_at "rt"
        rw [show ren (Ex.var x).pcs = lS x from List.append_nil _, uS_lS] at kq
        exact kq _ hs0
      | call0 x => exact (hcall ⟨x, [], rfl, hm, (fun e he => by cases he), (show 0 ≤ 2 by decide), ren_call0 x⟩).elim
      | call1 x e1 => exact (hcall ⟨x, [e1], rfl, hm.1, (fun e he => by rw [List.mem_singleton.mp he]; exact ⟨(by have : 1 + e1.dep < n + 1 := hd; omega), ho, hm.2, hs⟩), (show 1 ≤ 2 by decide), ren_call1 x e1⟩).elim
      | call2 x e1 e2 => exact (hcall ⟨x, [e1, e2], rfl, hm.1, (fun e he => by
          have hd : 1 + max e1.dep e2.dep < n + 1 := hd
          rcases List.mem_cons.mp he with rfl | he
          · exact ⟨by omega, ho.1, hm.2.1, hs.1⟩
          · rw [List.mem_singleton.mp he]; exact ⟨by omega, ho.2, hm.2.2, hs.2⟩), (show 2 ≤ 2 by decide), ren_call2 x e1 e2⟩).elim
      | iter x c e1 =>
        obtain ⟨a, xs, rfl, ha, hxs⟩ := ht.tupI
        obtain ⟨y0, r0, rfl, t0, hxs⟩ := hxs.consI
        obtain ⟨y1, r1, rfl, t1, hxs⟩ := hxs.consI
        obtain ⟨y2, r2, rfl, t2, hxs⟩ := hxs.consI
        obtain ⟨y3, r3, rfl, t3, hxs⟩ := hxs.consI
        obtain ⟨y4, r4, rfl, t4, hxs⟩ := hxs.consI
        cases hxs.nilI
        cases t0
        cases t1
        cases t2
        cases t4
        have hz := nm_len hm.1
        have hz' : x.length ≤ 3 := hz
        have hc2 := numS_le2 ho.1
        walk_at "rt"
        refine r_ixT (n := 0) (SqT.of (hs0 _ _ ha)) rfl ?_
        walk_at "rt"
        refine r_ixT (n := 1) (SqT.of (hs0 _ _ ha)) rfl ?_
        walk_at "rt"
        rw [app_ss]
        walk_at "rt"
        refine r_ixT (n := 2) (SqT.of (hs0 _ _ ha)) rfl ?_
        walk_at "rt"
        refine ⟨log_ok (by have := ho.1; omega), ?_⟩
        rw [str_nat]
        walk_at "rt"
        refine r_ixT (n := 3) (SqT.of (s0 _ _ ha)) rfl ?_
        walk_at "rt"
        refine ⟨y3, e1, rfl, t3.keep (Same.keep s0), (by have : 1 + e1.dep < n + 1 := hd; omega), by omega, ⟨ho.2, hm.2, hs⟩, fun H1 g1 => ?_⟩
        have l1 := ren_len4 (e := e1) ⟨ho.2, hm.2, hs⟩ (by have : 1 + e1.dep < n + 1 := hd; omega)
        have s1 : Same H H1 := fun b o h => g1 _ _ (s0 _ _ h)
        walk_at "rt"
        rw [ren_iter] at kq
        exact kq _ s1
      | pow e1 j =>
        obtain ⟨a, xs, rfl, ha, hxs⟩ := ht.tupI
        obtain ⟨y0, r0, rfl, t0, hxs⟩ := hxs.consI
        obtain ⟨y1, r1, rfl, t1, hxs⟩ := hxs.consI
        obtain ⟨y2, r2, rfl, t2, hxs⟩ := hxs.consI
        obtain ⟨y3, r3, rfl, t3, hxs⟩ := hxs.consI
        cases hxs.nilI
        cases t0
        cases t2
        cases t3
        have hj := iPc_len ho.1
        walk_at "rt"
        refine r_ixT (n := 0) (SqT.of (hs0 _ _ ha)) rfl ?_
        walk_at "rt"
        refine r_ixT (n := 1) (SqT.of (s0 _ _ ha)) rfl ?_
        walk_at "rt"
        refine ⟨y1, e1, rfl, t1.keep (Same.keep s0), (by have : 1 + e1.dep < n + 1 := hd; omega), by omega, ⟨ho.2, hm, hs⟩, fun H1 g1 => ?_⟩
        have l1 := ren_len4 (e := e1) ⟨ho.2, hm, hs⟩ (by have : 1 + e1.dep < n + 1 := hd; omega)
        have s1 : Same H H1 := fun b o h => g1 _ _ (s0 _ _ h)
        walk_at "rt"
        refine r_ixT (n := 2) (SqT.of (s1 _ _ ha)) rfl ?_
        walk_at "rt"
        refine ⟨log_okI ho.1, ?_⟩
        rw [str_pow ho.1]
        walk_at "rt"
        rw [ren_pow] at kq
        exact kq _ s1
      | not e1 =>
        obtain ⟨a, xs, rfl, ha, hxs⟩ := ht.tupI
        obtain ⟨y0, r0, rfl, t0, hxs⟩ := hxs.consI
        obtain ⟨y1, r1, rfl, t1, hxs⟩ := hxs.consI
        obtain ⟨y2, r2, rfl, t2, hxs⟩ := hxs.consI
        cases hxs.nilI
        cases t0
        cases t2
        walk_at "rt"
        refine r_ixT (n := 0) (SqT.of (hs0 _ _ ha)) rfl ?_
        walk_at "rt"
        refine r_ixT (n := 1) (SqT.of (s0 _ _ ha)) rfl ?_
        walk_at "rt"
        refine ⟨y1, e1, rfl, t1.keep (Same.keep s0), (by have : 1 + e1.dep < n + 1 := hd; omega), by omega, ⟨ho, hm, hs⟩, fun H1 g1 => ?_⟩
        have l1 := ren_len4 (e := e1) ⟨ho, hm, hs⟩ (by have : 1 + e1.dep < n + 1 := hd; omega)
        have s1 : Same H H1 := fun b o h => g1 _ _ (s0 _ _ h)
        walk_at "rt"
        rw [ren_not] at kq
        exact kq _ s1
      | ite e1 e2 e3 =>
        obtain ⟨a, xs, rfl, ha, hxs⟩ := ht.tupI
        obtain ⟨y0, r0, rfl, t0, hxs⟩ := hxs.consI
        obtain ⟨y1, r1, rfl, t1, hxs⟩ := hxs.consI
        obtain ⟨y2, r2, rfl, t2, hxs⟩ := hxs.consI
        obtain ⟨y3, r3, rfl, t3, hxs⟩ := hxs.consI
        obtain ⟨y4, r4, rfl, t4, hxs⟩ := hxs.consI
        cases hxs.nilI
        cases t0
        cases t4
        walk_at "rt"
        refine r_ixT (n := 0) (SqT.of (hs0 _ _ ha)) rfl ?_
        walk_at "rt"
        refine r_ixT (n := 1) (SqT.of (s0 _ _ ha)) rfl ?_
        walk_at "rt"
        refine ⟨y1, e1, rfl, t1.keep (Same.keep s0), (by have : 1 + max e1.dep (max e2.dep e3.dep) < n + 1 := hd; omega), by omega, ⟨ho.1, hm.1, hs.1⟩, fun H1 g1 => ?_⟩
        have l1 := ren_len4 (e := e1) ⟨ho.1, hm.1, hs.1⟩ (by have : 1 + max e1.dep (max e2.dep e3.dep) < n + 1 := hd; omega)
        have s1 : Same H H1 := fun b o h => g1 _ _ (s0 _ _ h)
        walk_at "rt"
        refine r_ixT (n := 2) (SqT.of (s1 _ _ ha)) rfl ?_
        walk_at "rt"
        refine ⟨y2, e2, rfl, t2.keep (Same.keep s1), (by have : 1 + max e1.dep (max e2.dep e3.dep) < n + 1 := hd; omega), by omega, ⟨ho.2.1, hm.2.1, hs.2.1⟩, fun H2 g2 => ?_⟩
        have l2 := ren_len4 (e := e2) ⟨ho.2.1, hm.2.1, hs.2.1⟩ (by have : 1 + max e1.dep (max e2.dep e3.dep) < n + 1 := hd; omega)
        have s2 : Same H H2 := fun b o h => g2 _ _ (s1 _ _ h)
        walk_at "rt"
        refine r_ixT (n := 3) (SqT.of (s2 _ _ ha)) rfl ?_
        walk_at "rt"
        refine ⟨y3, e3, rfl, t3.keep (Same.keep s2), (by have : 1 + max e1.dep (max e2.dep e3.dep) < n + 1 := hd; omega), by omega, ⟨ho.2.2, hm.2.2, hs.2.2⟩, fun H3 g3 => ?_⟩
        have l3 := ren_len4 (e := e3) ⟨ho.2.2, hm.2.2, hs.2.2⟩ (by have : 1 + max e1.dep (max e2.dep e3.dep) < n + 1 := hd; omega)
        have s3 : Same H H3 := fun b o h => g3 _ _ (s2 _ _ h)
        walk_at "rt"
        rw [ren_ite] at kq
        exact kq _ s3
      | lett x e1 e2 =>
        obtain ⟨a, xs, rfl, ha, hxs⟩ := ht.tupI
        obtain ⟨y0, r0, rfl, t0, hxs⟩ := hxs.consI
        obtain ⟨y1, r1, rfl, t1, hxs⟩ := hxs.consI
        obtain ⟨y2, r2, rfl, t2, hxs⟩ := hxs.consI
        obtain ⟨y3, r3, rfl, t3, hxs⟩ := hxs.consI
        obtain ⟨y4, r4, rfl, t4, hxs⟩ := hxs.consI
        cases hxs.nilI
        cases t0
        cases t1
        cases t4
        have hz := nm_len hm.1
        have hz' : x.length ≤ 3 := hz
        walk_at "rt"
        refine r_ixT (n := 0) (SqT.of (hs0 _ _ ha)) rfl ?_
        walk_at "rt"
        refine r_ixT (n := 1) (SqT.of (hs0 _ _ ha)) rfl ?_
        walk_at "rt"
        rw [app_ss]
        walk_at "rt"
        refine r_ixT (n := 2) (SqT.of (s0 _ _ ha)) rfl ?_
        walk_at "rt"
        refine ⟨y2, e1, rfl, t2.keep (Same.keep s0), (by have : 1 + max e1.dep e2.dep < n + 1 := hd; omega), by omega, ⟨ho.1, hm.2.1, hs.1⟩, fun H1 g1 => ?_⟩
        have l1 := ren_len4 (e := e1) ⟨ho.1, hm.2.1, hs.1⟩ (by have : 1 + max e1.dep e2.dep < n + 1 := hd; omega)
        have s1 : Same H H1 := fun b o h => g1 _ _ (s0 _ _ h)
        walk_at "rt"
        refine r_ixT (n := 3) (SqT.of (s1 _ _ ha)) rfl ?_
        walk_at "rt"
        refine ⟨y3, e2, rfl, t3.keep (Same.keep s1), (by have : 1 + max e1.dep e2.dep < n + 1 := hd; omega), by omega, ⟨ho.2, hm.2.2, hs.2⟩, fun H2 g2 => ?_⟩
        have l2 := ren_len4 (e := e2) ⟨ho.2, hm.2.2, hs.2⟩ (by have : 1 + max e1.dep e2.dep < n + 1 := hd; omega)
        have s2 : Same H H2 := fun b o h => g2 _ _ (s1 _ _ h)
        walk_at "rt"
        rw [ren_lett] at kq
        exact kq _ s2
      | op o e1 e2 =>
        obtain ⟨a, xs, rfl, ha, hxs⟩ := ht.tupI
        obtain ⟨y0, r0, rfl, t0, hxs⟩ := hxs.consI
        obtain ⟨y1, r1, rfl, t1, hxs⟩ := hxs.consI
        obtain ⟨y2, r2, rfl, t2, hxs⟩ := hxs.consI
        obtain ⟨y3, r3, rfl, t3, hxs⟩ := hxs.consI
        cases hxs.nilI
        cases t0
        cases t3
        have n0 : o.head ≠ "number" := by cases o <;> decide +kernel
        have n1 : o.head ≠ "bool" := by cases o <;> decide +kernel
        have n2 : o.head ≠ "var" := by cases o <;> decide +kernel
        have n3 : o.head ≠ "call" := by cases o <;> decide +kernel
        have n4 : o.head ≠ "iterate" := by cases o <;> decide +kernel
        have n5 : o.head ≠ "power" := by cases o <;> decide +kernel
        have n6 : o.head ≠ "not" := by cases o <;> decide +kernel
        have n7 : o.head ≠ "if" := by cases o <;> decide +kernel
        have n8 : o.head ≠ "let" := by cases o <;> decide +kernel
        have ho3 := op_len o
        have ho3' : o.txt.length ≤ 3 := ho3
        walk_at "rt"
        refine r_ixT (n := 0) (SqT.of (hs0 _ _ ha)) rfl ?_
        walk_at "rt"
        intro q hq
        walk_at "rt"
        refine ⟨upd_same, sgD, rfl, by decide, ?_⟩
        rw [sgD_mk]
        have s1 : Same H (upd (upd H q (.dK [])) q (.dK sgD)) := Same.mut (Same.new hq) hq
        have ad : upd (upd H q (.dK [])) q (.dK sgD) q = some (.dK sgD) := upd_same
        generalize upd (upd H q (.dK [])) q (.dK sgD) = H1 at *
        walk_at "rt"
        have hdg : DGet H1 q (.str o.head) (some (.str o.txt)) := by
          have := DGet.k (k := Sum.inr o.head) ad
          rw [sgD_get] at this
          exact this
        refine ⟨q, _, rfl, hdg, ?_⟩
        walk_at "rt"
        refine r_ixT (n := 1) (SqT.of (s1 _ _ ha)) rfl ?_
        walk_at "rt"
        refine ⟨y1, e1, rfl, t1.keep (Same.keep s1), (by have : 1 + max e1.dep e2.dep < n + 1 := hd; omega), by omega, ⟨ho.1, hm.1, hs.1⟩, fun H2 g2 => ?_⟩
        have l2 := ren_len4 (e := e1) ⟨ho.1, hm.1, hs.1⟩ (by have : 1 + max e1.dep e2.dep < n + 1 := hd; omega)
        have s2 : Same H H2 := fun b o h => g2 _ _ (s1 _ _ h)
        walk_at "rt"
        refine r_ixT (n := 2) (SqT.of (s2 _ _ ha)) rfl ?_
        walk_at "rt"
        refine ⟨y2, e2, rfl, t2.keep (Same.keep s2), (by have : 1 + max e1.dep e2.dep < n + 1 := hd; omega), by omega, ⟨ho.2, hm.2, hs.2⟩, fun H3 g3 => ?_⟩
        have l3 := ren_len4 (e := e2) ⟨ho.2, hm.2, hs.2⟩ (by have : 1 + max e1.dep e2.dep < n + 1 := hd; omega)
        have s3 : Same H H3 := fun b o h => g3 _ _ (s2 _ _ h)
        walk_at "rt"
        rw [ren_op] at kq
        exact kq _ s3
theorem law_text_all (dx : DefAt K mg "_law_text" s_law_text) (B : Bl mg) (G_law_number : Cal P w K mg base 1 "_law_number" ["_law_number_here"] spNumber) (G_law_units : Cal P w K mg base 1 "_law_units" ["_law_product"] spUnits) : ∀ n, Cal P w K mg base (2 + n) "_law_text" ["_law_e"] (spText n)
  | 0 => cal_law_text0 dx
  | n + 1 => cal_law_text dx B G_law_number G_law_units (k := 2 + n) (by omega) (law_text_all dx B G_law_number G_law_units n)
end
end Al
namespace Al
open PySem PySem.Spec PyProof.Rows L2 NdefX PySem.W
local macro_rules | `(tactic| walk_at "rd1") => `(tactic| with_reducible first
  | (show tVar _ _ _ _; refine r_var (by with_unfolding_all rfl) ?_) | refine r_c ?_ | refine r_op ?_ | refine r_I0 ?_ | refine r_un ?_ | refine r_U ?_
  | (show rI _ _ _ _ _ _; refine r_I (by with_unfolding_all first | exact ⟨by decide, by decide⟩ | (show (0 : Int) < _; decide)) ?_)
  | refine r_eqI ?_ | refine r_neI ?_ | refine r_eqS ?_ | refine r_neS ?_ | refine r_eqB ?_ | refine r_neB ?_ | refine r_chain ?_
  | refine r_test ?_ | refine r_B ?_ | refine r_bl ?_ | refine r_int ?_ | refine r_and ?_ | refine r_or ?_ | refine r_not ?_ | refine r_andV ?_ | refine r_orV ?_ | refine r_notV ?_
  | refine r_if ?_ | refine r_nil ?_ | refine r_cons ?_ | refine r_cb ?_ | refine r_call ?_ | refine r_callS ?_ | refine r_tup ?_ | refine r_lst ?_ | refine r_seq ?_ | refine r_next ?_ | refine r_asg ?_
  | refine r_name ?_ | refine r_ifS ?_ | refine r_ret ?_ | refine r_retN ?_ | refine r_drop ?_ | refine r_brk ?_ | refine r_ct ?_ | refine r_sl ?_ | refine r_part ?_ | refine r_nopart ?_
  | refine r_bm ?_ | refine r_bm0 ?_ | refine r_raiseX ?_ | refine r_mkO ?_ | refine iteF ?_ | refine iteT ?_ | refine r_int1 ?_ | refine r_int1b ?_ | (show _ ≤ sizeLine ∧ _; refine r_sz (by with_unfolding_all first | omega | (simp only [List.length_cons, List.length_nil]; omega)) ?_)
  | (show ∃ _, _; refine ⟨_, rfl, ?_⟩) | (show ∃ _, _; refine ⟨_, _, rfl, rfl, ?_⟩) | (show ∃ _, _; refine ⟨_, _, rfl, ?_⟩))
local macro_rules | `(tactic| walk_at "rd") => `(tactic| repeat (walk_at "rd1"))
local macro_rules | `(tactic| walk_at "rd2") => `(tactic| with_reducible first
  | (show tFld _ _ _ _ _ _; refine r_fldI (by with_unfolding_all rfl) (by with_unfolding_all assumption) (by with_unfolding_all assumption) (by with_unfolding_all assumption) (by with_unfolding_all rfl) ?_)
  | (show tMetS _ _ _ _ _ _ _ _ _; refine r_rm (by with_unfolding_all assumption) (by with_unfolding_all rfl) (by decide) ?_)
  | refine r_sfl ?_ | refine iteNF ?_ | refine iteNT ?_ | refine r_makS ?_)
local macro_rules | `(tactic| walk_at "rp") => `(tactic| repeat first | walk_at "rd1" | walk_at "rd2")
local macro_rules | `(tactic| walk_at "rq1") => `(tactic| with_reducible first | refine r_rng1 ?_ | refine r_rng2 ?_ | refine r_forL ?_ | refine r_forT ?_ | refine r_dget ?_ | refine r_pnil ?_ | refine r_pcons ?_ | refine r_lcL ?_ | refine r_lcT ?_ | refine r_lcR ?_ | refine r_yes ?_ | refine r_disp ?_)
local macro_rules | `(tactic| walk_at "rq") => `(tactic| repeat first | walk_at "rd1" | walk_at "rd2" | walk_at "rq1")
local macro_rules | `(tactic| walk_at "slen") => `(tactic| (simp only [sizeLine_eq, len_uS, List.length_append, ll_0, lt_0, ll_1, lt_1, ll_2, lt_2, ll_3, lt_3, ll_4, lt_4, ll_5, lt_5, ll_6, lt_6, ll_7, lt_7, ll_8, lt_8, ll_9, lt_9, ll_10, lt_10, ll_11, lt_11, ll_12, lt_12, ll_13, lt_13, ll_14, lt_14, ll_15, lt_15, ll_16, lt_16, ll_17, lt_17, ll_18, lt_18, ll_19, lt_19, ll_20, lt_20, ll_21, lt_21, ll_22, lt_22, ll_23, lt_23, ll_24, lt_24, ll_25, lt_25, ll_26, lt_26, ll_27, lt_27, ll_28, lt_28, ll_29, lt_29, ll_30, lt_30, ll_31, lt_31, ll_32, lt_32, ll_33, lt_33, ll_34, lt_34, ll_35, lt_35, ll_36, lt_36, ll_37, lt_37, ll_38, lt_38, ll_39, lt_39, ll_40, lt_40, ll_41, lt_41, ll_42, lt_42, ll_43, lt_43, ll_44, lt_44, ll_45, lt_45, ll_46, lt_46, ll_47, lt_47, ll_48, lt_48, ll_49, lt_49, ll_50, lt_50, ll_51, lt_51, ll_52, lt_52, ll_53, lt_53, ll_54, lt_54, ll_55, lt_55, ll_56, lt_56, ll_57, lt_57, ll_58, lt_58, ll_59, lt_59, ll_60, lt_60, ll_61, lt_61, ll_62, lt_62, ll_63, lt_63, ll_64, lt_64]; with_unfolding_all omega))
local macro_rules | `(tactic| walk_at "rt1") => `(tactic| with_reducible (show _ + _ ≤ sizeLine ∧ _; refine ⟨by walk_at "slen", ?_⟩; first | rw [uS_app] | rw [app_su] | rw [app_us] | skip))
local macro_rules | `(tactic| walk_at "rs1") => `(tactic| with_reducible first | refine r_iteSY ?_ | refine r_iteN1 ?_ | refine r_iteN2 ?_ | refine r_iteN3 ?_ | refine r_iteN4 ?_ | (show V.non = V.non ∧ _; refine ⟨rfl, ?_⟩) | refine r_iteSN (by with_unfolding_all first | assumption | decide +kernel) ?_)
local macro_rules | `(tactic| walk_at "rt") => `(tactic| repeat first | walk_at "rt1" | walk_at "rs1" | walk_at "rd1" | walk_at "rd2" | walk_at "rq1")

/-! ### k01: lines printed, walked -/
def spShown : Sp := fun vs H Q _ => ∃ (v : V) (l : Ln), vs = [v] ∧ Tp H v l.d0 ∧ (l.ok ∧ l.nm ∧ l.sm) ∧ ∀ H', Same H H' → Q (.str (uS (ren l.pcs))) H'
section
variable {P : Program} {w : World} {K : Frag} {mg : Str → Option Value} {base : Heap}
abbrev s_law_shown : Stmt := top 50
theorem sc_law_shown : FnScope ["_law_line_here", "_law_mark", "_law_product", "_law_told", "_law_shown_here", "_law_name", "_law_one"] ["_law_line_here"] (defScope s_law_shown) := ⟨rfl, rfl, rfl, by decide +kernel, rfl, by decide +kernel, by decide +kernel⟩
theorem cal_law_shown (dx : DefAt K mg "_law_shown" s_law_shown) (B : Bl mg) (G_law_units : Cal P w K mg base 1 "_law_units" ["_law_product"] spUnits)
    (G_law_text : Cal P w K mg base 7 "_law_text" ["_law_e"] (spText 5)) : Cal P w K mg base 8 "_law_shown" ["_law_line_here"] spShown := by
  refine cal_mk dx sc_law_shown (fun _ _ _ _ _ _ us hl => match us, hl with | [_], _ => rfl) (fun vs H Q E h => ?_) (fun fn cdv A outer s H vs Q E hr h => ?_)
  · obtain ⟨v, l, rfl, _⟩ := h
    rfl
  · obtain ⟨v, l, rfl, ht, ⟨ho, hm, hs⟩, kq⟩ := h
    have tk : L2N.Takes (cxOf (L2N.CX P w) P w K mg base ["_law_line_here", "_law_mark", "_law_product", "_law_told", "_law_shown_here", "_law_name", "_law_one"] "_law_shown" (defScope s_law_shown) fn cdv A outer s H E) (fun cls d _ H => E cls d H) := L2N.takes_of rfl rfl rfl rfl
    have s0 : Same H H := fun b o h => h
    refine ⟨_, (pss_cons (ps_if (pt_cmpR op_eq (pe_ix ix_tup (pv 0) pe_int (fun _ _ => rfl)) pe_str (nomark _))
      (pss_one (ps_ret pe_str))
      pss_nil)
      (pss_cons (ps_if (pt_cmpR op_eq (pe_ix ix_tup (pv 0) pe_int (fun _ _ => rfl)) pe_str (nomark _))
      (pss_one (ps_ret (pe_op op_add_str (pe_op op_add_str pe_str (pe_cal G_law_units (hr.mono (by first | decide | omega)) tk (pa_cons (pe_ix ix_tup (pv 0) pe_int (fun _ _ => rfl)) pa_nil))) pe_str)))
      pss_nil)
      (pss_cons (ps_set (i := 1) sc_law_shown.nd rfl (Or.inl rfl) (pe_ix ix_list (pe_lst (pa_cons pe_str (pa_cons pe_str pa_nil))) (pe_callTy call_int1 (by rfl) B.int (by decide +kernel) (pa_cons (pe_cmpR op_eq (pe_ix ix_tup (pv 0) pe_int (fun _ _ => rfl)) pe_str (nomark _)) pa_nil)) (fun _ _ => rfl)))
      (pss_cons (ps_set (i := 2) sc_law_shown.nd rfl (Or.inl rfl) (pe_ix ix_tup (pv 0) pe_int (fun _ _ => rfl)))
      (pss_cons (ps_if (pt_cmpR op_eq (pe_ix ix_tup (pv 0) pe_int (fun _ _ => rfl)) pe_str (nomark _))
      (pss_one (ps_set (i := 2) sc_law_shown.nd rfl (Or.inl rfl) (pe_ix ix_tup (pv 0) pe_int (fun _ _ => rfl))))
      pss_nil)
      (pss_cons (ps_set (i := 3) sc_law_shown.nd rfl (Or.inl rfl) pe_str)
      (pss_cons (ps_if (pt_cmpR op_notN (pv 2) pe_non (nomark _))
      (pss_one (ps_set (i := 3) sc_law_shown.nd rfl (Or.inl rfl) (pe_op op_add_str (pv 1) (pe_cal G_law_units (hr.mono (by first | decide | omega)) tk (pa_cons (pv 2) pa_nil)))))
      pss_nil)
      (pss_cons (ps_if (pt_cmpR op_eq (pe_ix ix_tup (pv 0) pe_int (fun _ _ => rfl)) pe_str (nomark _))
      (pss_one (ps_ret (pe_op op_add_str (pe_op op_add_str (pe_op op_add_str pe_str (pe_cal G_law_text (hr.mono (by first | decide | omega)) tk (pa_cons (pe_ix ix_tup (pv 0) pe_int (fun _ _ => rfl)) pa_nil))) (pv 3)) pe_str)))
      pss_nil)
      (pss_cons (ps_set (i := 4) sc_law_shown.nd rfl (Or.inl rfl) (pe_lst pa_nil))
      (pss_cons (ps_for (passes_of rfl) rfl (pi_tup (pe_ix ix_tup (pv 0) pe_int (fun _ _ => rfl))) (pg_tup rfl (pgs_cons (pg_name (i := 5) sc_law_shown.nd rfl (Or.inl rfl)) (pgs_cons (pg_name (i := 6) sc_law_shown.nd rfl (Or.inl rfl)) pgs_nil)))
      (pss_one (ps_if (pt_cmpR op_isN (pv 6) pe_non (nomark _))
      (pss_one (ps_expr (pe_bm PySem.F.plainAttrs_list PySem.F.slot_list_append PySem.F.type_list_append mt_append (pv 4) (pa_cons (pv 5) pa_nil))))
      (pss_one (ps_expr (pe_bm PySem.F.plainAttrs_list PySem.F.slot_list_append PySem.F.type_list_append mt_append (pv 4) (pa_cons (pe_op op_add_str (pe_op op_add_str (pv 5) pe_str) (pe_cal G_law_units (hr.mono (by first | decide | omega)) tk (pa_cons (pv 6) pa_nil))) pa_nil)))))))
      (pss_one (ps_ret (pe_op op_add_str (pe_op op_add_str (pe_op op_add_str (pe_op op_add_str (pe_op op_add_str (pe_op op_add_str pe_str (pe_bm PySem.F.plainAttrs_str PySem.F.slot_str_join PySem.F.type_str_join mt_join pe_str (pa_cons (pv 4) pa_nil))) pe_str) (pv 3)) pe_str) (pe_cal G_law_text (hr.mono (by first | decide | omega)) tk (pa_cons (pe_ix ix_tup (pv 0) pe_int (fun _ _ => rfl)) pa_nil))) pe_str))))))))))))), ?_⟩
    cases l with
    | base =>
      obtain ⟨a, xs, rfl, ha, hxs⟩ := ht.tupI
      obtain ⟨y0, r0, rfl, t0, hxs⟩ := hxs.consI
      cases t0
      walk_at "rt"
      refine r_ixT (n := 0) (SqT.of ha) rfl ?_
      walk_at "rt"
      rw [show ren Ln.base.pcs = lS "base m;" from rfl, uS_lS] at kq
      exact kq _ s0
    | unit u =>
      obtain ⟨a, xs, rfl, ha, hxs⟩ := ht.tupI
      obtain ⟨y0, r0, rfl, t0, hxs⟩ := hxs.consI
      obtain ⟨y1, r1, rfl, t1, hxs⟩ := hxs.consI
      obtain ⟨y2, r2, rfl, t2, hxs⟩ := hxs.consI
      obtain ⟨y3, r3, rfl, t3, hxs⟩ := hxs.consI
      cases t0
      walk_at "rt"
      refine r_ixT (n := 0) (SqT.of ha) rfl ?_
      walk_at "rt"
      refine r_ixT (n := 0) (SqT.of ha) rfl ?_
      walk_at "rt"
      refine r_ixT (n := 3) (SqT.of ha) rfl ?_
      walk_at "rt"
      have hu : UW u := ⟨ho, hm, hs⟩
      refine ⟨y3, u, rfl, t3, hu, fun H1 s1 => ?_⟩
      have hl := uPc_len hu
      walk_at "rt"
      rw [ren_unit] at kq
      exact kq _ s1
    | shw e t =>
      obtain ⟨a, xs, rfl, ha, hxs⟩ := ht.tupI
      obtain ⟨y0, r0, rfl, t0, hxs⟩ := hxs.consI
      obtain ⟨y1, r1, rfl, t1, hxs⟩ := hxs.consI
      obtain ⟨y2, r2, rfl, t2, hxs⟩ := hxs.consI
      cases t0
      walk_at "rt"
      refine r_ixT (n := 0) (SqT.of ha) rfl ?_
      walk_at "rt"
      refine r_ixT (n := 0) (SqT.of ha) rfl ?_
      walk_at "rt"
      intro q hq
      have aq : upd H q (.lst [.str " in ", .str ": "]) q = some (.lst [.str " in ", .str ": "]) := upd_same
      have sq : Same H (upd H q (.lst [.str " in ", .str ": "])) := Same.new hq
      generalize upd H q (.lst [.str " in ", .str ": "]) = H1 at *
      walk_at "rt"
      refine r_ixT (n := 0) (SqT.of (sq _ _ ha)) rfl ?_
      walk_at "rt"
      rw [show (if decide (("show" : Str) = "fun") = true then (1 : Int) else 0) = ((0 : Nat) : Int) from by rw [decide_eq_false (by decide +kernel)]; rfl]
      refine r_ixL (SqL.of aq) rfl ?_
      walk_at "rt"
      refine r_ixT (n := 2) (SqT.of (sq _ _ ha)) rfl ?_
      walk_at "rt"
      refine r_ixT (n := 0) (SqT.of (sq _ _ ha)) rfl ?_
      have hT := tol_len (m := lS " in ") (by rw [ll_40]; decide) ho.2.2 hm.2 hs.2.1
      have le := ren_len4 (e := e) ⟨ho.1, hm.1, hs.1⟩ hs.2.2
      rw [ren_shw] at kq
      cases t with
      | none =>
        cases t2
        walk_at "rt"
        refine r_ixT (n := 0) (SqT.of (sq _ _ ha)) rfl ?_
        walk_at "rt"
        refine r_ixT (n := 1) (SqT.of (sq _ _ ha)) rfl ?_
        walk_at "rt"
        refine ⟨y1, e, rfl, t1.keep (Same.keep sq), (by have := hs.2.2; omega), by omega, ⟨ho.1, hm.1, hs.1⟩, fun H2 s2 => ?_⟩
        walk_at "rt"
        exact kq _ fun b o h => s2 _ _ (sq _ _ h)
      | some u =>
        have hu : UW u := ⟨ho.2.2, hm.2, hs.2.1⟩
        have hl := uPc_len hu
        obtain ⟨b, us, rfl, hb, hus⟩ := t2.tupI
        walk_at "rt"
        refine ⟨_, u, rfl, t2.keep (Same.keep sq), hu, fun H2 s2 => ?_⟩
        have sq2 : Same H H2 := fun b o h => s2 _ _ (sq _ _ h)
        walk_at "rt"
        refine r_ixT (n := 0) (SqT.of (sq2 _ _ ha)) rfl ?_
        walk_at "rt"
        refine r_ixT (n := 1) (SqT.of (sq2 _ _ ha)) rfl ?_
        walk_at "rt"
        refine ⟨y1, e, rfl, t1.keep (Same.keep sq2), (by have := hs.2.2; omega), by omega, ⟨ho.1, hm.1, hs.1⟩, fun H3 s3 => ?_⟩
        walk_at "rt"
        exact kq _ fun b o h => s3 _ _ (sq2 _ _ h)
    | fn ps t e =>
      obtain ⟨a, xs, rfl, ha, hxs⟩ := ht.tupI
      obtain ⟨y0, r0, rfl, t0, hxs⟩ := hxs.consI
      obtain ⟨y1, r1, rfl, t1, hxs⟩ := hxs.consI
      obtain ⟨y2, r2, rfl, t2, hxs⟩ := hxs.consI
      obtain ⟨y3, r3, rfl, t3, hxs⟩ := hxs.consI
      obtain ⟨y4, r4, rfl, t4, hxs⟩ := hxs.consI
      cases t0
      obtain ⟨b, us, rfl, hb, hus⟩ := t2.tupI
      have hul : us.length = ps.length := by rw [hus.len, pmD0_len]
      walk_at "rt"
      refine r_ixT (n := 0) (SqT.of ha) rfl ?_
      walk_at "rt"
      refine r_ixT (n := 0) (SqT.of ha) rfl ?_
      walk_at "rt"
      intro q hq
      have aq : upd H q (.lst [.str " in ", .str ": "]) q = some (.lst [.str " in ", .str ": "]) := upd_same
      have sq : Same H (upd H q (.lst [.str " in ", .str ": "])) := Same.new hq
      generalize upd H q (.lst [.str " in ", .str ": "]) = H1 at *
      walk_at "rt"
      refine r_ixT (n := 0) (SqT.of (sq _ _ ha)) rfl ?_
      walk_at "rt"
      rw [show (if decide (("fun" : Str) = "fun") = true then (1 : Int) else 0) = ((1 : Nat) : Int) from by rw [decide_eq_true rfl]; rfl]
      refine r_ixL (SqL.of aq) rfl ?_
      walk_at "rt"
      refine r_ixT (n := 2) (SqT.of (sq _ _ ha)) rfl ?_
      walk_at "rt"
      refine r_ixT (n := 0) (SqT.of (sq _ _ ha)) rfl ?_
      walk_at "rt"
      refine r_ixT (n := 3) (SqT.of (sq _ _ ha)) rfl ?_
      have hT := tol_len (m := lS ": ") (by rw [ll_55]; decide) ho.2.1 hm.2.1 hs.2.2.1
      have le := ren_len4 (e := e) ⟨ho.2.2.1, hm.2.2, hs.2.2.2.1⟩ hs.2.2.2.2
      have hpl := pmT_len ho.1 hm.1 hs.2.1
      have hps := hs.1
      rw [ren_fn] at kq
      cases t with
      | none =>
        cases t3
        walk_at "rt"
        refine r_ixT (n := 0) (SqT.of (sq _ _ ha)) rfl ?_
        rw [show ("" : Str) = uS (tolT (lS ": ") none) from rfl]
        generalize tolT (lS ": ") none = T at *
        have sh : Same H H1 := sq
        walk_at "rt"
        intro p hp
        have ap : upd H1 p (.lst []) p = some (.lst []) := upd_same
        have sp : Same H1 (upd H1 p (.lst [])) := Same.new hp
        generalize upd H1 p (.lst []) = H3 at *
        walk_at "rt"
        refine r_ixT (n := 2) (SqT.of (sp _ _ (sh _ _ ha))) rfl ?_
        refine ⟨b, rfl, ⟨us, SqT.of (sp _ _ (sh _ _ hb))⟩, ?_⟩
        refine for_tup (fun i σ' H' => ∃ (v5 v6 : Option V) (acc : List V), σ' = [_, _, _, _, some (.ref p), v5, v6] ∧ Same H1 H' ∧ H' p = some (.lst acc) ∧ acc = ((ps.map pmT).take i).map fun l => V.str (uS l)) ⟨_, _, _, rfl, sp, ap, rfl⟩
          (fun i σ' H' _ h => by obtain ⟨_, _, _, _, h, _⟩ := h; exact SqT.of (h _ _ (sh _ _ hb))) ?_ ?_
        · rintro i x σ' H' hx ⟨v5, v6, acc, rfl, sm, hacc, rfl⟩
          obtain ⟨d, hd, tx⟩ := hus.tep hx
          obtain ⟨⟨zn, to⟩, hpm, rfl⟩ := pmD0_get ps i d hd
          replace tx : Tp _ x (.tuple [.str zn, oD0 to]) := tx
          obtain ⟨c, ys, rfl, hc, hys⟩ := tx.tupI
          obtain ⟨x0, q0, rfl, u0, hys⟩ := hys.consI
          obtain ⟨x1, q1, rfl, u1, hys⟩ := hys.consI
          cases hys.nilI
          cases u0
          have hmem := List.mem_of_getElem? hpm
          have hz : (lS zn).length ≤ 3 := nm_len (hm.1 _ hmem).1
          have hz' : zn.length ≤ 3 := hz
          have hto : (ps.map pmT).take (i + 1) = (ps.map pmT).take i ++ [pmT (zn, to)] := by rw [List.take_succ, List.getElem?_map, hpm]; rfl
          have hal : (((ps.map pmT).take i).map fun l => V.str (uS l)).length ≤ 2 := by rw [List.length_map, List.length_take, List.length_map]; omega
          refine r_gtup (SqT.of (sm _ _ (sh _ _ hc))) rfl ?_
          refine r_gcons ?_
          walk_at "rt"
          refine r_gcons ?_
          walk_at "rt"
          refine r_gnil ?_
          walk_at "rt"
          have hw1 : oOk to := ho.1 _ hmem
          have hw2 : oNm to := (hm.1 _ hmem).2
          have hw3 : oSm to := hs.2.1 _ hmem
          cases to with
          | none =>
            cases u1
            walk_at "rt"
            refine ⟨.inl ⟨rfl, _, SqL.of hacc⟩, ?_⟩
            walk_at "rt"
            refine ⟨p, _, _, rfl, rfl, hacc, by rw [sizeLine_eq]; omega, ?_⟩
            walk_at "rt"
            refine ⟨_, _, _, rfl, Same.mut sm hp, upd_same, ?_⟩
            rw [hto, List.map_append]
            show _ = _ ++ [V.str (uS (lS zn ++ []))]
            rw [List.append_nil, uS_lS]
          | some u =>
            have hu : UW u := ⟨hw1, hw2, hw3⟩
            have hl := uPc_len hu
            obtain ⟨b4, us4, rfl, hb4, hus4⟩ := u1.tupI
            walk_at "rt"
            refine ⟨.inl ⟨rfl, _, SqL.of hacc⟩, ?_⟩
            walk_at "rt"
            refine ⟨_, u, rfl, (u1.keep (Same.keep sh)).keep (Same.keep sm), hu, fun H5 s5 => ?_⟩
            walk_at "rt"
            rw [app_ss]
            walk_at "rt"
            refine ⟨p, _, _, rfl, rfl, s5 _ _ hacc, by rw [sizeLine_eq]; omega, ?_⟩
            walk_at "rt"
            refine ⟨_, _, _, rfl, Same.mut (fun b o h => s5 _ _ (sm _ _ h)) hp, upd_same, ?_⟩
            rw [hto, List.map_append, List.append_assoc]
            rfl
        · rintro σ' H' ⟨v5, v6, acc, rfl, sm, hacc, rfl⟩
          have hk2 : (ps.map pmT).length = ps.length := List.length_map ..
          rw [hul, ← hk2, List.take_length] at hacc
          have hjl := joinL_len (lS ", ") 30 _ hpl
          rw [ll_41, hk2] at hjl
          have hjb : (ps.map pmT).length * (30 + 2) ≤ 1000000 := by rw [hk2]; omega
          have hq := join_sumS 30 2 ", " lt_41 _ hpl hjb
          walk_at "rt"
          refine ⟨rfl, ?_⟩
          walk_at "rt"
          refine ⟨", ", p, (ps.map pmT).map uS, rfl, rfl, .inl (sql_uS hacc), ?_, ?_⟩
          · exact hq
          rw [join_lit]
          walk_at "rt"
          refine r_ixT (n := 4) (SqT.of (sm _ _ (sh _ _ ha))) rfl ?_
          walk_at "rt"
          refine ⟨y4, e, rfl, (t4.keep (Same.keep sh)).keep (Same.keep sm), (by have := hs.2.2.2.2; omega), by omega, ⟨ho.2.2.1, hm.2.2, hs.2.2.2.1⟩, fun H5 s5 => ?_⟩
          walk_at "rt"
          exact kq _ fun b o h => s5 _ _ (sm _ _ (sh _ _ h))
      | some u =>
        have hu : UW u := ⟨ho.2.1, hm.2.1, hs.2.2.1⟩
        have hl := uPc_len hu
        obtain ⟨b3, us3, rfl, hb3, hus3⟩ := t3.tupI
        walk_at "rt"
        refine ⟨_, u, rfl, t3.keep (Same.keep sq), hu, fun H2 s2 => ?_⟩
        have sh : Same H H2 := fun b o h => s2 _ _ (sq _ _ h)
        walk_at "rt"
        refine r_ixT (n := 0) (SqT.of (sh _ _ ha)) rfl ?_
        rw [show lS ": " ++ ren (uPc u) = tolT (lS ": ") (some u) from rfl]
        generalize tolT (lS ": ") (some u) = T at *
        walk_at "rt"
        intro p hp
        have ap : upd H2 p (.lst []) p = some (.lst []) := upd_same
        have sp : Same H2 (upd H2 p (.lst [])) := Same.new hp
        generalize upd H2 p (.lst []) = H3 at *
        walk_at "rt"
        refine r_ixT (n := 2) (SqT.of (sp _ _ (sh _ _ ha))) rfl ?_
        refine ⟨b, rfl, ⟨us, SqT.of (sp _ _ (sh _ _ hb))⟩, ?_⟩
        refine for_tup (fun i σ' H' => ∃ (v5 v6 : Option V) (acc : List V), σ' = [_, _, _, _, some (.ref p), v5, v6] ∧ Same H2 H' ∧ H' p = some (.lst acc) ∧ acc = ((ps.map pmT).take i).map fun l => V.str (uS l)) ⟨_, _, _, rfl, sp, ap, rfl⟩
          (fun i σ' H' _ h => by obtain ⟨_, _, _, _, h, _⟩ := h; exact SqT.of (h _ _ (sh _ _ hb))) ?_ ?_
        · rintro i x σ' H' hx ⟨v5, v6, acc, rfl, sm, hacc, rfl⟩
          obtain ⟨d, hd, tx⟩ := hus.tep hx
          obtain ⟨⟨zn, to⟩, hpm, rfl⟩ := pmD0_get ps i d hd
          replace tx : Tp _ x (.tuple [.str zn, oD0 to]) := tx
          obtain ⟨c, ys, rfl, hc, hys⟩ := tx.tupI
          obtain ⟨x0, q0, rfl, u0, hys⟩ := hys.consI
          obtain ⟨x1, q1, rfl, u1, hys⟩ := hys.consI
          cases hys.nilI
          cases u0
          have hmem := List.mem_of_getElem? hpm
          have hz : (lS zn).length ≤ 3 := nm_len (hm.1 _ hmem).1
          have hz' : zn.length ≤ 3 := hz
          have hto : (ps.map pmT).take (i + 1) = (ps.map pmT).take i ++ [pmT (zn, to)] := by rw [List.take_succ, List.getElem?_map, hpm]; rfl
          have hal : (((ps.map pmT).take i).map fun l => V.str (uS l)).length ≤ 2 := by rw [List.length_map, List.length_take, List.length_map]; omega
          refine r_gtup (SqT.of (sm _ _ (sh _ _ hc))) rfl ?_
          refine r_gcons ?_
          walk_at "rt"
          refine r_gcons ?_
          walk_at "rt"
          refine r_gnil ?_
          walk_at "rt"
          have hw1 : oOk to := ho.1 _ hmem
          have hw2 : oNm to := (hm.1 _ hmem).2
          have hw3 : oSm to := hs.2.1 _ hmem
          cases to with
          | none =>
            cases u1
            walk_at "rt"
            refine ⟨.inl ⟨rfl, _, SqL.of hacc⟩, ?_⟩
            walk_at "rt"
            refine ⟨p, _, _, rfl, rfl, hacc, by rw [sizeLine_eq]; omega, ?_⟩
            walk_at "rt"
            refine ⟨_, _, _, rfl, Same.mut sm hp, upd_same, ?_⟩
            rw [hto, List.map_append]
            show _ = _ ++ [V.str (uS (lS zn ++ []))]
            rw [List.append_nil, uS_lS]
          | some u =>
            have hu : UW u := ⟨hw1, hw2, hw3⟩
            have hl := uPc_len hu
            obtain ⟨b4, us4, rfl, hb4, hus4⟩ := u1.tupI
            walk_at "rt"
            refine ⟨.inl ⟨rfl, _, SqL.of hacc⟩, ?_⟩
            walk_at "rt"
            refine ⟨_, u, rfl, (u1.keep (Same.keep sh)).keep (Same.keep sm), hu, fun H5 s5 => ?_⟩
            walk_at "rt"
            rw [app_ss]
            walk_at "rt"
            refine ⟨p, _, _, rfl, rfl, s5 _ _ hacc, by rw [sizeLine_eq]; omega, ?_⟩
            walk_at "rt"
            refine ⟨_, _, _, rfl, Same.mut (fun b o h => s5 _ _ (sm _ _ h)) hp, upd_same, ?_⟩
            rw [hto, List.map_append, List.append_assoc]
            rfl
        · rintro σ' H' ⟨v5, v6, acc, rfl, sm, hacc, rfl⟩
          have hk2 : (ps.map pmT).length = ps.length := List.length_map ..
          rw [hul, ← hk2, List.take_length] at hacc
          have hjl := joinL_len (lS ", ") 30 _ hpl
          rw [ll_41, hk2] at hjl
          have hjb : (ps.map pmT).length * (30 + 2) ≤ 1000000 := by rw [hk2]; omega
          have hq := join_sumS 30 2 ", " lt_41 _ hpl hjb
          walk_at "rt"
          refine ⟨rfl, ?_⟩
          walk_at "rt"
          refine ⟨", ", p, (ps.map pmT).map uS, rfl, rfl, .inl (sql_uS hacc), ?_, ?_⟩
          · exact hq
          rw [join_lit]
          walk_at "rt"
          refine r_ixT (n := 4) (SqT.of (sm _ _ (sh _ _ ha))) rfl ?_
          walk_at "rt"
          refine ⟨y4, e, rfl, (t4.keep (Same.keep sh)).keep (Same.keep sm), (by have := hs.2.2.2.2; omega), by omega, ⟨ho.2.2.1, hm.2.2, hs.2.2.2.1⟩, fun H5 s5 => ?_⟩
          walk_at "rt"
          exact kq _ fun b o h => s5 _ _ (sm _ _ (sh _ _ h))
end
end Al
namespace Al
open PySem PySem.Spec PyProof.Rows L2 NdefX PySem.W
/-! ### k01: data of small depth; isinstance -/
def isTupD : PyData → Bool
  | .tuple _ => true
  | _ => false
def isStrD : PyData → Bool
  | .str _ => true
  | _ => false
def isBoolD : PyData → Bool
  | .bool _ => true
  | _ => false
section
variable {K : Frag} {H : Hp} {v : V} {d : PyData} {Q : VK}
theorem r_isiT (ht : Tp H v d) (q : Q (.bl (isTupD d)) H) : rIsi K [v, .ty "tuple"] H Q := by
  cases ht with
  | non => exact ⟨_, _, _, _, _, rfl, .ty _, .base .non, rfl, q⟩
  | bl b => exact ⟨_, _, _, _, _, rfl, .ty _, .base (.bl b), rfl, q⟩
  | int b => exact ⟨_, _, _, _, _, rfl, .ty _, .base (.int b), rfl, q⟩
  | str b => exact ⟨_, _, _, _, _, rfl, .ty _, .base (.str b), rfl, q⟩
  | tup h _ => exact ⟨_, _, _, _, _, rfl, .ty _, .base (.tup h), rfl, q⟩
theorem r_isiS (ht : Tp H v d) (q : Q (.bl (isStrD d)) H) : rIsi K [v, .ty "str"] H Q := by
  cases ht with
  | non => exact ⟨_, _, _, _, _, rfl, .ty _, .base .non, rfl, q⟩
  | bl b => exact ⟨_, _, _, _, _, rfl, .ty _, .base (.bl b), rfl, q⟩
  | int b => exact ⟨_, _, _, _, _, rfl, .ty _, .base (.int b), rfl, q⟩
  | str b => exact ⟨_, _, _, _, _, rfl, .ty _, .base (.str b), rfl, q⟩
  | tup h _ => exact ⟨_, _, _, _, _, rfl, .ty _, .base (.tup h), rfl, q⟩
theorem r_isiI (ht : Tp H v d) (q : Q (.bl (isInt d)) H) : rIsi K [v, .ty "int"] H Q := by
  cases ht with
  | non => exact ⟨_, _, _, _, _, rfl, .ty _, .base .non, rfl, q⟩
  | bl b => exact ⟨_, _, _, _, _, rfl, .ty _, .base (.bl b), rfl, q⟩
  | int b => exact ⟨_, _, _, _, _, rfl, .ty _, .base (.int b), rfl, q⟩
  | str b => exact ⟨_, _, _, _, _, rfl, .ty _, .base (.str b), rfl, q⟩
  | tup h _ => exact ⟨_, _, _, _, _, rfl, .ty _, .base (.tup h), rfl, q⟩
theorem r_isiB (ht : Tp H v d) (q : Q (.bl (isBoolD d)) H) : rIsi K [v, .ty "bool"] H Q := by
  cases ht with
  | non => exact ⟨_, _, _, _, _, rfl, .ty _, .base .non, rfl, q⟩
  | bl b => exact ⟨_, _, _, _, _, rfl, .ty _, .base (.bl b), rfl, q⟩
  | int b => exact ⟨_, _, _, _, _, rfl, .ty _, .base (.int b), rfl, q⟩
  | str b => exact ⟨_, _, _, _, _, rfl, .ty _, .base (.str b), rfl, q⟩
  | tup h _ => exact ⟨_, _, _, _, _, rfl, .ty _, .base (.tup h), rfl, q⟩
end
/-- of depth at most n, its tuples short -/
def dok : Nat → PyData → Prop
  | 0, d => match d with
    | .none => True
    | .bool _ => True
    | .int _ => True
    | .str _ => True
    | _ => False
  | n + 1, d => match d with
    | .none => True
    | .bool _ => True
    | .int _ => True
    | .str _ => True
    | .tuple ds => ds.length ≤ 10 ∧ ∀ e ∈ ds, dok n e
    | _ => False
theorem dok_mono : ∀ {n m : Nat} {d : PyData}, n ≤ m → dok n d → dok m d
  | 0, 0, _, _, h => h
  | 0, m + 1, d, _, h => by cases d <;> first | trivial | exact h.elim
  | n + 1, 0, _, hn, _ => by omega
  | n + 1, m + 1, d, hn, h => by
    cases d with
    | none => trivial
    | bool _ => trivial
    | int _ => trivial
    | str _ => trivial
    | tuple ds => exact ⟨h.1, fun e he => dok_mono (by omega) (h.2 e he)⟩
    | _ => exact h.elim
theorem dok_str (n : Nat) (z : Str) : dok n (.str z) := by cases n <;> trivial
theorem dok_int (n : Nat) (z : Int) : dok n (.int z) := by cases n <;> trivial
theorem dok_bool (n : Nat) (z : Bool) : dok n (.bool z) := by cases n <;> trivial
theorem dok_non (n : Nat) : dok n .none := by cases n <;> trivial
theorem dok_nil (n : Nat) : dok (n + 1) (.tuple []) := ⟨by decide, fun e h => by cases h⟩
theorem dok1 {n : Nat} {a : PyData} (ha : dok n a) : dok (n + 1) (.tuple [a]) := ⟨show 1 ≤ 10 by decide, fun e h => by
  rw [List.mem_singleton.mp h]; exact ha⟩
theorem dok2 {n : Nat} {a b : PyData} (ha : dok n a) (hb : dok n b) : dok (n + 1) (.tuple [a, b]) := ⟨show 2 ≤ 10 by decide, fun e h => by
  rcases List.mem_cons.mp h with rfl | h
  · exact ha
  · rw [List.mem_singleton.mp h]; exact hb⟩
theorem dok3 {n : Nat} {a b c : PyData} (ha : dok n a) (hb : dok n b) (hc : dok n c) : dok (n + 1) (.tuple [a, b, c]) := ⟨show 3 ≤ 10 by decide, fun e h => by
  rcases List.mem_cons.mp h with rfl | h
  · exact ha
  · exact (dok2 hb hc).2 e h⟩
theorem dok4 {n : Nat} {a b c d : PyData} (ha : dok n a) (hb : dok n b) (hc : dok n c) (hd : dok n d) : dok (n + 1) (.tuple [a, b, c, d]) := ⟨show 4 ≤ 10 by decide, fun e h => by
  rcases List.mem_cons.mp h with rfl | h
  · exact ha
  · exact (dok3 hb hc hd).2 e h⟩
theorem dok5 {n : Nat} {a b c d f : PyData} (ha : dok n a) (hb : dok n b) (hc : dok n c) (hd : dok n d) (hf : dok n f) : dok (n + 1) (.tuple [a, b, c, d, f]) := ⟨show 5 ≤ 10 by decide, fun e h => by
  rcases List.mem_cons.mp h with rfl | h
  · exact ha
  · exact (dok4 hb hc hd hf).2 e h⟩
theorem dok6 {n : Nat} {a b c d f g : PyData} (ha : dok n a) (hb : dok n b) (hc : dok n c) (hd : dok n d) (hf : dok n f) (hg : dok n g) : dok (n + 1) (.tuple [a, b, c, d, f, g]) := ⟨show 6 ≤ 10 by decide, fun e h => by
  rcases List.mem_cons.mp h with rfl | h
  · exact ha
  · exact (dok5 hb hc hd hf hg).2 e h⟩
theorem dok_uIt : ∀ (u : Un) (j : Nat), ∀ e ∈ uIt u j, dok 1 e
  | [], j, e, h => by cases h
  | (z, p) :: r, j, e, h => by
    rcases List.mem_cons.mp h with rfl | h
    · exact dok3 (dok_str _ _) (dok_int _ _) (dok_int _ _)
    · exact dok_uIt r _ e h
theorem uIt_len : ∀ (u : Un) (j : Nat), (uIt u j).length = u.length
  | [], _ => rfl
  | (z, p) :: r, j => congrArg (· + 1) (uIt_len r _)
theorem dok_un {u : Un} (h : u.length ≤ 2) (j : Nat) : dok 2 (.tuple (uIt u j)) := ⟨by rw [uIt_len]; omega, dok_uIt u j⟩
theorem dok_ex : ∀ (e : Ex) (i : Nat), e.sm → dok (2 * e.dep + 3) (e.tree i)
  | .num k u, i, h => dok4 (dok_str _ _) (dok2 (dok_int _ _) (dok_int _ _)) (dok_un h _) (dok_int _ _)
  | .bool b, i, _ => dok2 (dok_str _ _) (dok_bool _ _)
  | .var x, i, _ => dok3 (dok_str _ _) (dok_str _ _) (dok_int _ _)
  | .call0 x, i, _ => dok4 (dok_str _ _) (dok_str _ _) (dok_nil _) (dok_int _ _)
  | .call1 x a, i, h => by
    have ha := dok_ex a (i + (lS x).length + 1) h
    show dok (2 * (1 + a.dep) + 3) _
    rw [show 2 * (1 + a.dep) + 3 = (2 * a.dep + 3) + 1 + 1 by omega]
    exact dok4 (dok_str _ _) (dok_str _ _) (dok1 ha) (dok_int _ _)
  | .call2 x a b, i, h => by
    have ha := dok_ex a (i + (lS x).length + 1) h.1
    have hb := dok_ex b (i + (lS x).length + 1 + plen a.pcs + 2) h.2
    show dok (2 * (1 + max a.dep b.dep) + 3) _
    rw [show 2 * (1 + max a.dep b.dep) + 3 = (2 * max a.dep b.dep + 3) + 1 + 1 by omega]
    exact dok4 (dok_str _ _) (dok_str _ _) (dok2 (dok_mono (by omega) ha) (dok_mono (by omega) hb)) (dok_int _ _)
  | .iter x c a, i, h => by
    have ha := dok_ex a (i + 8 + (lS x).length + 1 + (numS c).length + 7) h
    show dok (2 * (1 + a.dep) + 3) _
    rw [show 2 * (1 + a.dep) + 3 = (2 * a.dep + 4) + 1 by omega]
    exact dok5 (dok_str _ _) (dok_str _ _) (dok_int _ _) (dok_mono (by omega) ha) (dok_int _ _)
  | .pow a k, i, h => by
    have ha := dok_ex a (i + 1) h
    show dok (2 * (1 + a.dep) + 3) _
    rw [show 2 * (1 + a.dep) + 3 = (2 * a.dep + 4) + 1 by omega]
    exact dok4 (dok_str _ _) (dok_mono (by omega) ha) (dok_int _ _) (dok_int _ _)
  | .not a, i, h => by
    have ha := dok_ex a (i + 6) h
    show dok (2 * (1 + a.dep) + 3) _
    rw [show 2 * (1 + a.dep) + 3 = (2 * a.dep + 4) + 1 by omega]
    exact dok3 (dok_str _ _) (dok_mono (by omega) ha) (dok_int _ _)
  | .ite c a b, i, h => by
    have hc := dok_ex c (i + 4) h.1
    have ha := dok_ex a (i + 4 + plen c.pcs + 6) h.2.1
    have hb := dok_ex b (i + 4 + plen c.pcs + 6 + plen a.pcs + 6) h.2.2
    show dok (2 * (1 + max c.dep (max a.dep b.dep)) + 3) _
    rw [show 2 * (1 + max c.dep (max a.dep b.dep)) + 3 = (2 * max c.dep (max a.dep b.dep) + 4) + 1 by omega]
    exact dok5 (dok_str _ _) (dok_mono (by omega) hc) (dok_mono (by omega) ha) (dok_mono (by omega) hb) (dok_int _ _)
  | .lett x a b, i, h => by
    have ha := dok_ex a (i + 5 + (lS x).length + 3) h.1
    have hb := dok_ex b (i + 5 + (lS x).length + 3 + plen a.pcs + 4) h.2
    show dok (2 * (1 + max a.dep b.dep) + 3) _
    rw [show 2 * (1 + max a.dep b.dep) + 3 = (2 * max a.dep b.dep + 4) + 1 by omega]
    exact dok5 (dok_str _ _) (dok_str _ _) (dok_mono (by omega) ha) (dok_mono (by omega) hb) (dok_int _ _)
  | .op o a b, i, h => by
    have ha := dok_ex a (i + 2) h.1
    have hb := dok_ex b (i + 2 + plen a.pcs + 2 + (lS o.txt).length + 2) h.2
    show dok (2 * (1 + max a.dep b.dep) + 3) _
    rw [show 2 * (1 + max a.dep b.dep) + 3 = (2 * max a.dep b.dep + 4) + 1 by omega]
    exact dok4 (dok_str _ _) (dok_mono (by omega) ha) (dok_mono (by omega) hb) (dok_int _ _)
theorem dok_opt {t : Option Un} (h : oSm t) (j : Nat) : dok 2 (oTr t j) := by
  cases t with
  | none => exact dok_non _
  | some u => exact dok_un h j
theorem dok_pm : ∀ (ps : List Pm) (j : Nat), (∀ p ∈ ps, oSm p.2) → ∀ e ∈ pmIt ps j, dok 3 e
  | [], j, _, e, h => by cases h
  | p :: r, j, hp, e, h => by
    rcases List.mem_cons.mp h with rfl | h
    · exact dok2 (dok_str _ _) (dok_opt (hp p List.mem_cons_self) _)
    · exact dok_pm r _ (fun q hq => hp q (List.mem_cons_of_mem _ hq)) e h
theorem pmIt_len : ∀ (ps : List Pm) (j : Nat), (pmIt ps j).length = ps.length
  | [], _ => rfl
  | p :: r, j => congrArg (· + 1) (pmIt_len r _)
theorem dok_ln {l : Ln} (h : l.sm) (i : Nat) : dok 12 (l.tree i) := by
  cases l with
  | base => exact dok_mono (n := 1) (by decide) (dok3 (dok_str _ _) (dok_str _ _) (dok_int _ _))
  | unit u => exact dok_mono (n := 3) (by decide) (dok5 (dok_str _ _) (dok_str _ _) (dok2 (dok_int _ _) (dok_int _ _)) (dok_un h _) (dok_int _ _))
  | fn ps t e =>
    have he := dok_ex e (i + 6 + plen (pmsPc ps) + 1 + plen (oPc t) + 3) h.2.2.2.1
    have hd := h.2.2.2.2
    exact dok6 (dok_str _ _) (dok_str _ _) (dok_mono (n := 4) (by decide) ⟨by rw [pmIt_len]; have := h.1; omega, dok_pm ps _ h.2.1⟩) (dok_mono (by decide) (dok_opt h.2.2.1 _)) (dok_mono (by omega) he) (dok_int _ _)
  | shw e t =>
    have he := dok_ex e (i + 5) h.1
    have hd := h.2.2
    exact dok4 (dok_str _ _) (dok_mono (by omega) he) (dok_mono (by decide) (dok_opt h.2.1 _)) (dok_int _ _)
theorem dok_pg : ∀ (ls : List Ln) (i : Nat), (∀ l ∈ ls, l.sm) → ∀ d ∈ pgT ls i, dok 12 d
  | [], i, _, d, hd => by cases hd
  | l :: r, i, h, d, hd => by
    rcases List.mem_cons.mp hd with rfl | hd
    · exact dok_ln (h l List.mem_cons_self) i
    · exact dok_pg r _ (fun q hq => h q (List.mem_cons_of_mem _ hq)) d hd
theorem r_niL {K : Frag} {H : Hp} {p : Addr} {xs : List V} {x : V} {Q : VK} (h : SqL K H p xs) (hx : flatV x = true) (hf : xs.all flatV = true) (q : Q (.bl (!inV x xs)) H) : rIn K true x (.ref p) H Q := ⟨p, xs, rfl, .inl h, hx, hf, q⟩
theorem r_iL {K : Frag} {H : Hp} {p : Addr} {xs : List V} {x : V} {Q : VK} (h : SqL K H p xs) (hx : flatV x = true) (hf : xs.all flatV = true) (q : Q (.bl (inV x xs)) H) : rIn K false x (.ref p) H Q := ⟨p, xs, rfl, .inl h, hx, hf, q⟩
theorem inV_trues : ∀ xs : List V, (∀ x ∈ xs, x = .bl true) → inV (.bl false) xs = false ∧ xs.all flatV = true
  | [], _ => ⟨rfl, rfl⟩
  | x :: xs, h => by
    obtain ⟨h1, h2⟩ := inV_trues xs fun y hy => h y (List.mem_cons_of_mem _ hy)
    rw [h x List.mem_cons_self]
    exact ⟨h1, h2⟩
/-! the law's bare, piece by piece -/
theorem bareL_map : ∀ ds : List PyData, bareL ds = ds.map bareD
  | [] => by rw [bareL]; rfl
  | d :: ds => by rw [bareL, bareL_map ds]; rfl
theorem bare_tup (ds : List PyData) : bareD (.tuple ds) = bareF ds (ds.map bareD) := by rw [bareD, bareL_map]
/-- what bare gives where its second test fails -/
def restD (ds fs : List PyData) : PyData := match ds with
  | .str z :: _ => bareR z ds fs
  | _ => .tuple fs
theorem r_pull {c : TT} {t u v : TS} {D : Ends} {σ : L2.St} {H : Hp} (φ : Hp → Prop) (hB : ∀ H1, φ H1 → u D σ H1) (h : (∀ H1, φ H1 → u D σ H1) → tSeq (tIfS c t v) u D σ H) : tSeq (tIfS c t v) u D σ H := h hB
theorem TpAll.app1 {H : Hp} {xs : List V} {ds : List PyData} {v : V} {d : PyData} (h : TpAll H xs ds) (hv : Tp H v d) : TpAll H (xs ++ [v]) (ds ++ [d]) := h.app (.cons hv .nil)
theorem TpAll.take {H : Hp} : ∀ {xs : List V} {ds : List PyData} (n : Nat), TpAll H xs ds → TpAll H (xs.take n) (ds.take n)
  | _, _, 0, _ => .nil
  | _, _, n + 1, .nil => .nil
  | _, _, n + 1, .cons a t => .cons a (TpAll.take n t)
theorem TpAll.mem {H : Hp} : ∀ {vs : List V} {ds : List PyData} {i : Nat} {d : PyData}, TpAll H vs ds → ds[i]? = some d → ∃ v, vs[i]? = some v ∧ Tp H v d
  | _, _, i, d, .nil, h => by simp at h
  | _, _, 0, _, .cons a _, h => by
    simp at h; subst h; exact ⟨_, rfl, a⟩
  | _, _, i + 1, _, .cons _ t, h => by
    obtain ⟨d, h1, h2⟩ := TpAll.mem (i := i) t (by simpa using h)
    exact ⟨d, by simpa using h1, h2⟩
end Al
namespace Al
open PySem PySem.Spec PyProof.Rows L2 NdefX PySem.W
local macro_rules | `(tactic| walk_at "rd1") => `(tactic| with_reducible first
  | (show tVar _ _ _ _; refine r_var (by with_unfolding_all rfl) ?_) | refine r_c ?_ | refine r_op ?_ | refine r_I0 ?_ | refine r_un ?_ | refine r_U ?_
  | (show rI _ _ _ _ _ _; refine r_I (by with_unfolding_all first | exact ⟨by decide, by decide⟩ | (show (0 : Int) < _; decide)) ?_)
  | refine r_eqI ?_ | refine r_neI ?_ | refine r_eqS ?_ | refine r_neS ?_ | refine r_eqB ?_ | refine r_neB ?_ | refine r_chain ?_
  | refine r_test ?_ | refine r_B ?_ | refine r_bl ?_ | refine r_int ?_ | refine r_and ?_ | refine r_or ?_ | refine r_not ?_ | refine r_andV ?_ | refine r_orV ?_ | refine r_notV ?_
  | refine r_if ?_ | refine r_nil ?_ | refine r_cons ?_ | refine r_cb ?_ | refine r_call ?_ | refine r_callS ?_ | refine r_tup ?_ | refine r_lst ?_ | refine r_seq ?_ | refine r_next ?_ | refine r_asg ?_
  | refine r_name ?_ | refine r_ifS ?_ | refine r_ret ?_ | refine r_retN ?_ | refine r_drop ?_ | refine r_brk ?_ | refine r_ct ?_ | refine r_sl ?_ | refine r_part ?_ | refine r_nopart ?_
  | refine r_bm ?_ | refine r_bm0 ?_ | refine r_raiseX ?_ | refine r_mkO ?_ | refine iteF ?_ | refine iteT ?_ | refine r_int1 ?_ | refine r_int1b ?_ | (show _ ≤ sizeLine ∧ _; refine r_sz (by with_unfolding_all first | omega | (simp only [List.length_cons, List.length_nil]; omega)) ?_)
  | (show ∃ _, _; refine ⟨_, rfl, ?_⟩) | (show ∃ _, _; refine ⟨_, _, rfl, rfl, ?_⟩) | (show ∃ _, _; refine ⟨_, _, rfl, ?_⟩))
local macro_rules | `(tactic| walk_at "rd") => `(tactic| repeat (walk_at "rd1"))
local macro_rules | `(tactic| walk_at "rd2") => `(tactic| with_reducible first
  | (show tFld _ _ _ _ _ _; refine r_fldI (by with_unfolding_all rfl) (by with_unfolding_all assumption) (by with_unfolding_all assumption) (by with_unfolding_all assumption) (by with_unfolding_all rfl) ?_)
  | (show tMetS _ _ _ _ _ _ _ _ _; refine r_rm (by with_unfolding_all assumption) (by with_unfolding_all rfl) (by decide) ?_)
  | refine r_sfl ?_ | refine iteNF ?_ | refine iteNT ?_ | refine r_makS ?_)
local macro_rules | `(tactic| walk_at "rp") => `(tactic| repeat first | walk_at "rd1" | walk_at "rd2")
local macro_rules | `(tactic| walk_at "rq1") => `(tactic| with_reducible first | refine r_rng1 ?_ | refine r_rng2 ?_ | refine r_forL ?_ | refine r_forT ?_ | refine r_dget ?_ | refine r_pnil ?_ | refine r_pcons ?_ | refine r_lcL ?_ | refine r_lcT ?_ | refine r_lcR ?_ | refine r_yes ?_ | refine r_disp ?_)
local macro_rules | `(tactic| walk_at "rq") => `(tactic| repeat first | walk_at "rd1" | walk_at "rd2" | walk_at "rq1")
local macro_rules | `(tactic| walk_at "slen") => `(tactic| (simp only [sizeLine_eq, len_uS, List.length_append, ll_0, lt_0, ll_1, lt_1, ll_2, lt_2, ll_3, lt_3, ll_4, lt_4, ll_5, lt_5, ll_6, lt_6, ll_7, lt_7, ll_8, lt_8, ll_9, lt_9, ll_10, lt_10, ll_11, lt_11, ll_12, lt_12, ll_13, lt_13, ll_14, lt_14, ll_15, lt_15, ll_16, lt_16, ll_17, lt_17, ll_18, lt_18, ll_19, lt_19, ll_20, lt_20, ll_21, lt_21, ll_22, lt_22, ll_23, lt_23, ll_24, lt_24, ll_25, lt_25, ll_26, lt_26, ll_27, lt_27, ll_28, lt_28, ll_29, lt_29, ll_30, lt_30, ll_31, lt_31, ll_32, lt_32, ll_33, lt_33, ll_34, lt_34, ll_35, lt_35, ll_36, lt_36, ll_37, lt_37, ll_38, lt_38, ll_39, lt_39, ll_40, lt_40, ll_41, lt_41, ll_42, lt_42, ll_43, lt_43, ll_44, lt_44, ll_45, lt_45, ll_46, lt_46, ll_47, lt_47, ll_48, lt_48, ll_49, lt_49, ll_50, lt_50, ll_51, lt_51, ll_52, lt_52, ll_53, lt_53, ll_54, lt_54, ll_55, lt_55, ll_56, lt_56, ll_57, lt_57, ll_58, lt_58, ll_59, lt_59, ll_60, lt_60, ll_61, lt_61, ll_62, lt_62, ll_63, lt_63, ll_64, lt_64]; with_unfolding_all omega))
local macro_rules | `(tactic| walk_at "rt1") => `(tactic| with_reducible (show _ + _ ≤ sizeLine ∧ _; refine ⟨by walk_at "slen", ?_⟩; first | rw [uS_app] | rw [app_su] | rw [app_us] | skip))
local macro_rules | `(tactic| walk_at "rs1") => `(tactic| with_reducible first | refine r_iteSY ?_ | refine r_iteN1 ?_ | refine r_iteN2 ?_ | refine r_iteN3 ?_ | refine r_iteN4 ?_ | (show V.non = V.non ∧ _; refine ⟨rfl, ?_⟩) | refine r_iteSN (by with_unfolding_all first | assumption | decide +kernel) ?_)
local macro_rules | `(tactic| walk_at "rt") => `(tactic| repeat first | walk_at "rt1" | walk_at "rs1" | walk_at "rd1" | walk_at "rd2" | walk_at "rq1")
local macro_rules | `(tactic| walk_at "rz") => `(tactic| repeat (with_reducible first | refine iteF ?_ | refine iteT ?_ | refine iteNF ?_ | refine iteNT ?_ | refine r_bl ?_ | (show ∃ _, _; refine ⟨_, rfl, ?_⟩) | refine r_iteSY ?_ | refine r_iteSN (by with_unfolding_all first | assumption | decide +kernel) ?_))

/-! ### k01: trees without their places, walked -/
def spBare (n : Nat) : Sp := fun vs H Q _ => ∃ (v : V) (d : PyData), vs = [v] ∧ Tp H v d ∧ 0 < n ∧ dok (n - 1) d ∧ ∀ v' H', Same H H' → Tp H' v' (bareD d) → Q v' H'
section
variable {P : Program} {w : World} {K : Frag} {mg : Str → Option Value} {base : Heap}
abbrev s_law_bare : Stmt := top 51
theorem sc_law_bare : FnScope ["_law_tree", "_law_found", "_law_part"] ["_law_tree"] (defScope s_law_bare) := ⟨rfl, rfl, rfl, by decide +kernel, rfl, by decide +kernel, by decide +kernel⟩
theorem cal_law_bare0 (dx : DefAt K mg "_law_bare" s_law_bare) : Cal P w K mg base 1 "_law_bare" ["_law_tree"] (spBare 0) := by
  refine cal_mk (k := 0) dx sc_law_bare (fun _ _ _ _ _ _ us hl => match us, hl with | [_], _ => rfl) (fun vs H Q E h => ?_) (fun fn cdv A outer s H vs Q E hr h => ?_)
  · obtain ⟨v, e, _, _, h, _⟩ := h
    omega
  · obtain ⟨v, e, _, _, h, _⟩ := h
    omega
theorem cal_law_bare (dx : DefAt K mg "_law_bare" s_law_bare) (B : Bl mg) {n k : Nat}
    (G_law_bare : Cal P w K mg base k "_law_bare" ["_law_tree"] (spBare n)) : Cal P w K mg base (k + 1) "_law_bare" ["_law_tree"] (spBare (n + 1)) := by
  refine cal_mk dx sc_law_bare (fun _ _ _ _ _ _ us hl => match us, hl with | [_], _ => rfl) (fun vs H Q E h => ?_) (fun fn cdv A outer s H vs Q E hr h => ?_)
  · obtain ⟨v, d, rfl, _⟩ := h
    rfl
  · obtain ⟨v, d, rfl, ht, _, hok, kq⟩ := h
    have hok : dok n d := hok
    refine ⟨_, (pss_cons (ps_if (PW.pt (pw_or (pt_not (pt_val (pe_callB call_isi (by rfl) B.isinstance (by decide +kernel) (pa_cons (pv 0) (pa_cons (pe_bltn (v := .ty "tuple") (by rfl) B.tuple (by decide +kernel) rfl) pa_nil))))) (pw_or1 (pt_cmpR op_eq (pe_callB call_len_seq (by rfl) B.len PySem.boot_len (pa_cons (pv 0) pa_nil)) pe_int (nomark _)))))
      (pss_one (ps_ret (pv 0)))
      pss_nil)
      (pss_cons (ps_if (PW.pt (pw_and (pt_val (pe_callB call_isi (by rfl) B.isinstance (by decide +kernel) (pa_cons (pe_ix ix_tup (pv 0) pe_int (fun _ _ => rfl)) (pa_cons (pe_bltn (v := .ty "str") (by rfl) B.str (by decide +kernel) rfl) pa_nil)))) (pw_and (pt_cmpR op_eq (pe_callB call_len_seq (by rfl) B.len PySem.boot_len (pa_cons (pv 0) pa_nil)) pe_int (nomark _)) (pw_and (pt_val (pe_callB call_isi (by rfl) B.isinstance (by decide +kernel) (pa_cons (pe_ix ix_tup (pv 0) pe_int (fun _ _ => rfl)) (pa_cons (pe_bltn (v := .ty "int") (by rfl) B.int (by decide +kernel) rfl) pa_nil)))) (pw_and1 (pt_not (pt_val (pe_callB call_isi (by rfl) B.isinstance (by decide +kernel) (pa_cons (pe_ix ix_tup (pv 0) pe_int (fun _ _ => rfl)) (pa_cons (pe_bltn (v := .ty "bool") (by rfl) B.bool (by decide +kernel) rfl) pa_nil))))))))))
      (pss_one (ps_ret (pe_tup (pa_cons (pe_ix ix_tup (pv 0) pe_int (fun _ _ => rfl)) (pa_cons (pe_ix ix_tup (pv 0) pe_int (fun _ _ => rfl)) (pa_cons pe_int pa_nil))))))
      pss_nil)
      (pss_cons (ps_set (i := 1) sc_law_bare.nd rfl (Or.inl rfl) (pe_callTy call_tuple_of (by rfl) B.tuple (by decide +kernel) (pa_cons (pe_lc (own := [("_law_part", 2)]) rfl sc_law_bare.nd (pi_tup (pv 0)) (blkOk_by (N := ["_law_tree", "_law_found", "_law_part"]) (sc := defScope s_law_bare) (by decide +kernel)) (fun _ _ _ _ _ => (pg_name (i := 2) sc_law_bare.nd rfl (Or.inl rfl))) (fun _ _ _ _ _ => pts_nil) (fun _ _ _ _ _ => (pe_calN G_law_bare (hr.mono (by first | decide | omega)) (pa_cons (pv 2) pa_nil)))) pa_nil)))
      (pss_cons (ps_if (PW.pt (pw_and (pt_val (pe_callB call_isi (by rfl) B.isinstance (by decide +kernel) (pa_cons (pe_ix ix_tup (pv 0) pe_int (fun _ _ => rfl)) (pa_cons (pe_bltn (v := .ty "str") (by rfl) B.str (by decide +kernel) rfl) pa_nil)))) (pw_and (pt_cmpR op_notIn_seq (pe_ix ix_tup (pv 0) pe_int (fun _ _ => rfl)) (pe_lst (pa_cons pe_str (pa_cons pe_str (pa_cons pe_str pa_nil)))) (by rfl)) (pw_and1 (pt_val (pe_callB call_isi (by rfl) B.isinstance (by decide +kernel) (pa_cons (pe_ix ix_tup (pv 0) (pe_op op_sub (pe_callB call_len_seq (by rfl) B.len PySem.boot_len (pa_cons (pv 0) pa_nil)) pe_int) (fun _ _ => rfl)) (pa_cons (pe_bltn (v := .ty "int") (by rfl) B.int (by decide +kernel) rfl) pa_nil))))))))
      (pss_one (ps_ret (pe_op op_catT (pe_slice sl_tup (pv 1) po_none (po_some (pe_op op_sub (pe_callB call_len_seq (by rfl) B.len PySem.boot_len (pa_cons (pv 1) pa_nil)) pe_int))) (pe_tup (pa_cons pe_int pa_nil)))))
      pss_nil)
      (pss_one (ps_ret (pv 1))))))), ?_⟩
    walk_at "rt"
    refine r_isiT ht ?_
    by_cases htu : ∃ ds, d = .tuple ds
    · obtain ⟨ds, rfl⟩ := htu
      obtain ⟨a, xs, rfl, ha, hxs⟩ := ht.tupI
      obtain ⟨m, rfl⟩ : ∃ m, n = m + 1 := by
        cases n with
        | zero => exact hok.elim
        | succ m => exact ⟨m, rfl⟩
      have hl10 : ds.length ≤ 10 := hok.1
      have hlen := hxs.len
      rw [show isTupD (.tuple ds) = true from rfl]
      walk_at "rt"
      refine ⟨a, xs, rfl, .inr (SqT.of ha), ?_⟩
      walk_at "rt"
      refine r_ite (fun h1 => ?_) (fun h1 => ?_)
      · have h1 := of_decide_eq_true h1
        walk_at "rt"
        refine kq _ _ (fun b o h => h) ?_
        cases ds with
        | nil => rw [bare_tup]; exact ht
        | cons d r => rw [List.length_cons] at hlen; omega
      · have h1 := of_decide_eq_false h1
        obtain ⟨d0, r, rfl⟩ : ∃ d0 r, ds = d0 :: r := by
          cases ds with
          | nil => rw [List.length_nil] at hlen; omega
          | cons d r => exact ⟨d, r, rfl⟩
        have hxs0 := hxs
        obtain ⟨x0, xr, rfl, t0, txr⟩ := hxs0.consI
        refine r_next ?_
        dsimp only
        refine r_pull (fun H1 => Same H H1 ∧ bareD (.tuple (d0 :: r)) = restD (d0 :: r) ((d0 :: r).map bareD)) ?_ ?_
        · rintro H1 ⟨sm1, hbr⟩
          rw [hbr] at kq
          walk_at "rt"
          refine ⟨⟨_, SqT.of (sm1 _ _ ha)⟩, fun D hD => ?_⟩
          refine lcw_tup1 (fun i H' => Same H1 H' ∧ ∃ acc, H' D = some (.lst acc) ∧ TpAll H' acc (((d0 :: r).map bareD).take i)) ⟨Same.new hD, [], upd_same, .nil⟩ (fun i H' _ h => SqT.of (h.1 _ _ (sm1 _ _ ha))) ?_ ?_
          · rintro i x H2 hx ⟨sm2, acc, hacc, hta⟩
            obtain ⟨d, hd, tx⟩ := hxs.tep hx
            walk_at "rt"
            refine ⟨x, d, rfl, (tx.keep (Same.keep sm1)).keep (Same.keep sm2), Nat.succ_pos _, hok.2 d (List.mem_of_getElem? hd), fun v' H3 s3 tv => ?_⟩
            have hD3 := s3 _ _ hacc
            have hk := Keep.mut (o := .lst (acc ++ [v'])) hD3 fun xs z => nomatch z
            have hal : acc.length ≤ 10 := by rw [hta.len, List.length_take, List.length_map]; omega
            walk_at "rt"
            refine ⟨acc, hD3, by rw [sizeLine_eq]; omega, Same.mut (fun b o h => s3 _ _ (sm2 _ _ h)) hD, acc ++ [v'], upd_same, ?_⟩
            have e : ((d0 :: r).map bareD).take (i + 1) = ((d0 :: r).map bareD).take i ++ [bareD d] := by rw [List.take_succ, List.getElem?_map, hd]; rfl
            rw [e]
            exact ((hta.keep (Same.keep s3)).keep hk).app1 (tv.keep hk)
          · rintro H2 ⟨sm2, acc, hacc, hta⟩
            rw [show (x0 :: xr).length = ((d0 :: r).map bareD).length by rw [hlen, List.length_map], List.take_length] at hta
            walk_at "rt"
            refine ⟨D, acc, rfl, .inl ⟨SqL.of hacc, fun l hl => ?_⟩⟩
            have hta3 := hta.keep (Keep.new (o := .tup acc) hl)
            have al : upd H2 l (.tup acc) l = some (.tup acc) := upd_same
            have s3 : Same H (upd H2 l (.tup acc)) := Same.mut (fun b o h => sm2 _ _ (sm1 _ _ h)) (show H l = none from (by
              cases e : H l with
              | none => rfl
              | some u => rw [sm2 _ _ (sm1 _ _ e)] at hl; cases hl))
            generalize upd H2 l (.tup acc) = H3 at *
            have tl : Tp H3 (.ref l) (.tuple ((d0 :: r).map bareD)) := .tup al hta3
            walk_at "rt"
            refine r_ixT (n := 0) (SqT.of (s3 _ _ ha)) rfl ?_
            walk_at "rt"
            refine r_isiS (t0.keep (Same.keep s3)) ?_
            by_cases hz : ∃ z, d0 = .str z
            · obtain ⟨z, rfl⟩ := hz
              cases t0
              rw [show isStrD (.str z) = true from rfl]
              walk_at "rt"
              refine r_ixT (n := 0) (SqT.of (s3 _ _ ha)) rfl ?_
              walk_at "rt"
              intro q hq
              have aq : upd H3 q (.lst [.str "bool", .str "x", .str "y"]) q = some (.lst [.str "bool", .str "x", .str "y"]) := upd_same
              have sq : Same H3 (upd H3 q (.lst [.str "bool", .str "x", .str "y"])) := Same.new hq
              generalize upd H3 q (.lst [.str "bool", .str "x", .str "y"]) = H4 at *
              have s4 : Same H H4 := fun b o h => sq _ _ (s3 _ _ h)
              refine r_niL (SqL.of aq) rfl rfl ?_
              rw [show inV (.str z) [.str "bool", .str "x", .str "y"] = decide (z ∈ (["bool", "x", "y"] : List Str)) from inV_str z ["bool", "x", "y"]]
              by_cases hmem : z ∈ (["bool", "x", "y"] : List Str)
              · rw [decide_eq_true hmem]
                walk_at "rt"
                refine kq _ _ s4 ?_
                show Tp _ _ (bareR z _ _)
                unfold bareR
                rw [if_pos hmem]
                exact tl.keep (Same.keep sq)
              · rw [decide_eq_false hmem]
                walk_at "rt"
                refine ⟨a, _, rfl, .inr (SqT.of (s4 _ _ ha)), ?_⟩
                walk_at "rt"
                obtain ⟨dl, hdl⟩ : ∃ dl, (PyData.str z :: r)[(PyData.str z :: r).length - 1]? = some dl := ⟨_, List.getElem?_eq_getElem (by rw [List.length_cons]; omega)⟩
                obtain ⟨vl, hvl, tvl⟩ := hxs.mem hdl
                rw [show (((V.str z :: xr).length : Nat) : Int) - 1 = (((PyData.str z :: r).length - 1 : Nat) : Int) by rw [hlen, List.length_cons]; omega]
                refine r_ixT (SqT.of (s4 _ _ ha)) hvl ?_
                walk_at "rt"
                refine r_isiI (tvl.keep (Same.keep s4)) ?_
                have hli : lastInt (PyData.str z :: r) = isInt dl := by
                  unfold lastInt
                  rw [List.getLast?_eq_getElem?, hdl]
                cases hil : isInt dl with
                | true =>
                  have hr0 : r ≠ [] := by
                    rintro rfl
                    cases hdl
                    cases hil
                  have hr1 : 0 < r.length := by
                    cases r with
                    | nil => exact absurd rfl hr0
                    | cons _ _ => exact Nat.succ_pos _
                  have hal : acc.length = r.length + 1 := by rw [hta3.len, List.length_map, List.length_cons]
                  have al4 := sq _ _ al
                  walk_at "rt"
                  refine ⟨l, acc, rfl, .inr (SqT.of al4), ?_⟩
                  walk_at "rt"
                  rw [show ((acc.length : Nat) : Int) - 1 = ((r.length : Nat) : Int) by omega]
                  refine ⟨l, acc, rfl, SqT.of al4, ?_, fun p hp => ?_⟩
                  · rw [HT.sIx_nat]
                    omega
                  have ec : cutV acc none (some ((r.length : Nat) : Int)) = acc.take r.length := by
                    unfold cutV
                    rw [HT.sIx_none, HT.sIx_nat, List.drop_zero, Nat.sub_zero, Nat.min_eq_left (by omega)]
                  rw [ec]
                  have ap : upd H4 p (.tup (acc.take r.length)) p = some (.tup (acc.take r.length)) := upd_same
                  have sp : Same H4 (upd H4 p (.tup (acc.take r.length))) := Same.new hp
                  generalize upd H4 p (.tup (acc.take r.length)) = H5 at *
                  walk_at "rt"
                  intro p2 hp2
                  have ap2 : upd H5 p2 (.tup [.int 0]) p2 = some (.tup [.int 0]) := upd_same
                  have sp2 : Same H5 (upd H5 p2 (.tup [.int 0])) := Same.new hp2
                  generalize upd H5 p2 (.tup [.int 0]) = H6 at *
                  have s6 : Same H3 H6 := fun b o h => sp2 _ _ (sp _ _ (sq _ _ h))
                  have htl : (acc.take r.length).length = r.length := by rw [List.length_take]; omega
                  walk_at "rt"
                  refine ⟨p, p2, acc.take r.length, [.int 0], rfl, rfl, SqT.of (sp2 _ _ ap), SqT.of ap2, (fun e => by rw [e] at htl; rw [← htl] at hr1; exact absurd hr1 (by decide)), by rw [htl, sizeLine_eq]; show _ + 1 ≤ _; rw [List.length_cons] at hl10; omega, fun e => (by cases e), fun _ p3 hp3 => ?_⟩
                  walk_at "rt"
                  refine kq _ _ (fun b o h => Same.new hp3 _ _ (s6 _ _ (s3 _ _ h))) ?_
                  show Tp _ _ (bareR z _ _)
                  unfold bareR
                  rw [if_neg hmem, hli, hil, if_pos rfl]
                  refine .tup upd_same ?_
                  have hdr : ((PyData.str z :: r).map bareD).dropLast = ((PyData.str z :: r).map bareD).take r.length := by
                    rw [List.dropLast_eq_take, List.length_map, List.length_cons]
                    rfl
                  rw [hdr]
                  exact ((hta3.take r.length).keep (Same.keep s6)).keep (Keep.new hp3) |>.app1 (.int 0)
                | false =>
                  walk_at "rt"
                  refine kq _ _ s4 ?_
                  show Tp _ _ (bareR z _ _)
                  unfold bareR
                  rw [if_neg hmem, hli, hil, if_neg Bool.false_ne_true]
                  exact tl.keep (Same.keep sq)
            · have e1 : isStrD d0 = false := by cases d0 <;> first | rfl | exact absurd ⟨_, rfl⟩ hz
              rw [e1]
              walk_at "rt"
              refine kq _ _ s3 ?_
              have e2 : restD (d0 :: r) ((d0 :: r).map bareD) = .tuple ((d0 :: r).map bareD) := by
                cases d0 <;> first | rfl | exact absurd ⟨_, rfl⟩ hz
              rw [e2]
              exact tl
        · intro hB
          have sm : Same H H := fun b o h => h
          walk_at "rt"
          refine r_ixT (n := 0) (SqT.of ha) rfl ?_
          walk_at "rt"
          refine r_isiS t0 ?_
          by_cases hz : ∃ z, d0 = .str z
          · obtain ⟨z, rfl⟩ := hz
            cases t0
            rw [show isStrD (.str z) = true from rfl]
            walk_at "rt"
            refine ⟨a, _, rfl, .inr (SqT.of ha), ?_⟩
            walk_at "rt"
            refine r_ite (fun h2 => ?_) (fun h2 => ?_)
            · have h2 := of_decide_eq_true h2
              have hr2 : r.length = 2 := by rw [List.length_cons, List.length_cons] at hlen; rw [List.length_cons] at h2; omega
              obtain ⟨d1, d2, rfl⟩ : ∃ d1 d2, r = [d1, d2] := by
                match r, hr2 with
                | [d1, d2], _ => exact ⟨d1, d2, rfl⟩
              obtain ⟨x1, xr2, rfl, t1, txr2⟩ := txr.consI
              walk_at "rt"
              refine r_ixT (n := 1) (SqT.of ha) rfl ?_
              walk_at "rt"
              refine r_isiI t1 ?_
              cases d1 with
              | int p =>
                cases t1
                rw [show isInt (.int p) = true from rfl]
                walk_at "rt"
                refine r_ixT (n := 1) (SqT.of ha) rfl ?_
                walk_at "rt"
                refine r_isiB (.int p) ?_
                rw [show isBoolD (.int p) = false from rfl]
                walk_at "rt"
                refine r_ixT (n := 0) (SqT.of ha) rfl ?_
                walk_at "rt"
                refine r_ixT (n := 1) (SqT.of ha) rfl ?_
                walk_at "rt"
                intro q hq
                refine kq _ _ (Same.new hq) ?_
                rw [bare_tup]
                exact .tup upd_same (.cons (.str _) (.cons (.int _) (.cons (.int _) .nil)))
              | bool b =>
                rw [show isInt (.bool b) = true from rfl]
                walk_at "rt"
                refine r_ixT (n := 1) (SqT.of ha) rfl ?_
                walk_at "rt"
                refine r_isiB t1 ?_
                rw [show isBoolD (.bool b) = true from rfl]
                walk_at "rz"
                refine r_next ?_
                exact hB _ ⟨sm, by rw [bare_tup]; rfl⟩
              | _ =>
                walk_at "rz"
                refine r_next ?_
                exact hB _ ⟨sm, by rw [bare_tup]; rfl⟩
            · have h2 := of_decide_eq_false h2
              walk_at "rz"
              refine r_next ?_
              have hr2 : ¬ r.length = 2 := by rw [List.length_cons, List.length_cons] at hlen; rw [List.length_cons] at h2; omega
              refine hB _ ⟨sm, ?_⟩
              rw [bare_tup]
              show (if r.length = 2 then _ else _) = bareR z _ _
              rw [if_neg hr2]
          · have e1 : isStrD d0 = false := by cases d0 <;> first | rfl | exact absurd ⟨_, rfl⟩ hz
            rw [e1]
            walk_at "rz"
            refine r_next ?_
            refine hB _ ⟨sm, ?_⟩
            rw [bare_tup]
            cases d0 <;> first | rfl | exact absurd ⟨_, rfl⟩ hz
    · have e1 : isTupD d = false := by cases d <;> first | rfl | exact absurd ⟨_, rfl⟩ htu
      rw [e1]
      walk_at "rt"
      refine kq _ _ (fun b o h => h) ?_
      have e2 : bareD d = d := by cases d <;> first | rfl | exact absurd ⟨_, rfl⟩ htu
      rw [e2]
      exact ht
theorem law_bare_all (dx : DefAt K mg "_law_bare" s_law_bare) (B : Bl mg) : ∀ n, Cal P w K mg base (1 + n) "_law_bare" ["_law_tree"] (spBare n)
  | 0 => cal_law_bare0 dx
  | n + 1 => cal_law_bare dx B (k := 1 + n) (law_bare_all dx B n)
end
end Al
namespace Al
open PySem PySem.Spec PyProof.Rows L2 NdefX PySem.W
/-! ### k01: for the marks -/
theorem r_pull2 {c : TT} {t u v : TS} {D : Ends} {σ : L2.St} {H : Hp} (φ : L2.St → Hp → Prop) (hB : ∀ σ1 H1, φ σ1 H1 → u D σ1 H1) (h : (∀ σ1 H1, φ σ1 H1 → u D σ1 H1) → tSeq (tIfS c t v) u D σ H) : tSeq (tIfS c t v) u D σ H := h hB
def sg8 : List (Key × V) := [(.inr "add", .str "+"), (.inr "sub", .str "-"), (.inr "mul", .str "*"), (.inr "div", .str "/"), (.inr "lt", .str "<"), (.inr "le", .str "<="), (.inr "eq", .str "=="), (.inr "power", .str "^")]
theorem sg8_mk : mergeK [] sg8 = sg8 := by with_unfolding_all rfl
theorem valV_look (z : Str) : ∀ l : List (Str × Str), valV (l.map fun p => ((.inr p.1 : Key), V.str p.2)) (.inr z) = (l.lookup z).map V.str
  | [] => rfl
  | (x, y) :: l => by
    have ih := valV_look z l
    rw [List.map_cons, List.lookup_cons]
    by_cases h : x = z
    · subst h
      rw [valV_pos rfl, beq_self_eq_true]
      rfl
    · have hb : (z == x) = false := by
        rw [beq_eq_false_iff_ne]
        exact fun e => h e.symm
      rw [valV_neg (fun e => h (by cases e; rfl)), ih, hb]
theorem sg8_get (z : Str) : valV sg8 (.inr z) = (sgTab.lookup z).map V.str := valV_look z sgTab
theorem sg_len {z g : Str} (h : sgTab.lookup z = some g) : g.length ≤ 2 := by
  have : ∀ p ∈ sgTab, p.2.length ≤ 2 := by decide +kernel
  have hm : ∀ l : List (Str × Str), l.lookup z = some g → ∃ p ∈ l, p.2 = g := by
    intro l
    induction l with
    | nil => intro h; cases h
    | cons q l ih =>
      intro h
      rw [List.lookup_cons] at h
      split at h
      · cases h; exact ⟨q, List.mem_cons_self, rfl⟩
      · obtain ⟨p, h1, h2⟩ := ih h
        exact ⟨p, List.mem_cons_of_mem _ h1, h2⟩
  obtain ⟨p, h1, rfl⟩ := hm _ h
  exact this p h1
theorem cutS_mid {l : List Nat} {a b : Nat} (h1 : a ≤ b) (h : b ≤ l.length) : cutS (uS l) (some (a : Int)) (some (b : Int)) = uS ((l.drop a).take (b - a)) := by
  have hl : (uS l).length = l.length := rfl
  unfold cutS
  rw [HT.sIx_nat, HT.sIx_nat, hl, Nat.min_eq_left h, Nat.min_eq_left (Nat.le_trans h1 h)]
  rfl
theorem cut_at {txt : List Nat} {k : Nat} {g : Str} (h : At txt k (lS g)) : cutS (uS txt) (some (k : Int)) (some ((k : Int) + (g.length : Int))) = g := by
  obtain ⟨h1, h2⟩ := h.slc
  have hl : (lS g).length = g.length := rfl
  rw [show (k : Int) + (g.length : Int) = ((k + g.length : Nat) : Int) by omega, cutS_mid (by omega) (by omega), Nat.add_sub_cancel_left, ← hl, h1, uS_lS]
theorem mkL_mem {txt : List Nat} : ∀ {ds : List PyData}, MkL txt ds → ∀ d ∈ ds, MkD txt d
  | [], _, d, h => by cases h
  | e :: ds, hm, d, h => by
    obtain ⟨h1, h2⟩ := mkL_cons.mp hm
    rcases List.mem_cons.mp h with rfl | h
    · exact h1
    · exact mkL_mem h2 d h
theorem r_din {ty td : TE} {σ : L2.St} {H : Hp} {Q : VK} (h : ty σ H fun y H1 => td σ H1 fun x H2 => ∃ a o, x = .ref a ∧ DGet H2 a y o ∧ Q (.bl o.isSome) H2) : tDIn ty td σ H Q := h
theorem Tp.intI {H : Hp} {v : V} {k : Int} (h : Tp H v (.int k)) : v = .int k := by cases h; rfl
theorem mkW_len {z : Str} (h : z ∈ mkW) : z.length ≤ 7 := (by decide +kernel : ∀ z ∈ mkW, z.length ≤ 7) z h
end Al
namespace Al
open PySem PySem.Spec PyProof.Rows L2 NdefX PySem.W
local macro_rules | `(tactic| walk_at "rd1") => `(tactic| with_reducible first
  | (show tVar _ _ _ _; refine r_var (by with_unfolding_all rfl) ?_) | refine r_c ?_ | refine r_op ?_ | refine r_I0 ?_ | refine r_un ?_ | refine r_U ?_
  | (show rI _ _ _ _ _ _; refine r_I (by with_unfolding_all first | exact ⟨by decide, by decide⟩ | (show (0 : Int) < _; decide)) ?_)
  | refine r_eqI ?_ | refine r_neI ?_ | refine r_eqS ?_ | refine r_neS ?_ | refine r_eqB ?_ | refine r_neB ?_ | refine r_chain ?_
  | refine r_test ?_ | refine r_B ?_ | refine r_bl ?_ | refine r_int ?_ | refine r_and ?_ | refine r_or ?_ | refine r_not ?_ | refine r_andV ?_ | refine r_orV ?_ | refine r_notV ?_
  | refine r_if ?_ | refine r_nil ?_ | refine r_cons ?_ | refine r_cb ?_ | refine r_call ?_ | refine r_callS ?_ | refine r_tup ?_ | refine r_lst ?_ | refine r_seq ?_ | refine r_next ?_ | refine r_asg ?_
  | refine r_name ?_ | refine r_ifS ?_ | refine r_ret ?_ | refine r_retN ?_ | refine r_drop ?_ | refine r_brk ?_ | refine r_ct ?_ | refine r_sl ?_ | refine r_part ?_ | refine r_nopart ?_
  | refine r_bm ?_ | refine r_bm0 ?_ | refine r_raiseX ?_ | refine r_mkO ?_ | refine iteF ?_ | refine iteT ?_ | refine r_int1 ?_ | refine r_int1b ?_ | (show _ ≤ sizeLine ∧ _; refine r_sz (by with_unfolding_all first | omega | (simp only [List.length_cons, List.length_nil]; omega)) ?_)
  | (show ∃ _, _; refine ⟨_, rfl, ?_⟩) | (show ∃ _, _; refine ⟨_, _, rfl, rfl, ?_⟩) | (show ∃ _, _; refine ⟨_, _, rfl, ?_⟩))
local macro_rules | `(tactic| walk_at "rd") => `(tactic| repeat (walk_at "rd1"))
local macro_rules | `(tactic| walk_at "rd2") => `(tactic| with_reducible first
  | (show tFld _ _ _ _ _ _; refine r_fldI (by with_unfolding_all rfl) (by with_unfolding_all assumption) (by with_unfolding_all assumption) (by with_unfolding_all assumption) (by with_unfolding_all rfl) ?_)
  | (show tMetS _ _ _ _ _ _ _ _ _; refine r_rm (by with_unfolding_all assumption) (by with_unfolding_all rfl) (by decide) ?_)
  | refine r_sfl ?_ | refine iteNF ?_ | refine iteNT ?_ | refine r_makS ?_)
local macro_rules | `(tactic| walk_at "rp") => `(tactic| repeat first | walk_at "rd1" | walk_at "rd2")
local macro_rules | `(tactic| walk_at "rq1") => `(tactic| with_reducible first | refine r_rng1 ?_ | refine r_rng2 ?_ | refine r_forL ?_ | refine r_forT ?_ | refine r_dget ?_ | refine r_pnil ?_ | refine r_pcons ?_ | refine r_lcL ?_ | refine r_lcT ?_ | refine r_lcR ?_ | refine r_yes ?_ | refine r_disp ?_)
local macro_rules | `(tactic| walk_at "rq") => `(tactic| repeat first | walk_at "rd1" | walk_at "rd2" | walk_at "rq1")
local macro_rules | `(tactic| walk_at "slen") => `(tactic| (simp only [sizeLine_eq, len_uS, List.length_append, ll_0, lt_0, ll_1, lt_1, ll_2, lt_2, ll_3, lt_3, ll_4, lt_4, ll_5, lt_5, ll_6, lt_6, ll_7, lt_7, ll_8, lt_8, ll_9, lt_9, ll_10, lt_10, ll_11, lt_11, ll_12, lt_12, ll_13, lt_13, ll_14, lt_14, ll_15, lt_15, ll_16, lt_16, ll_17, lt_17, ll_18, lt_18, ll_19, lt_19, ll_20, lt_20, ll_21, lt_21, ll_22, lt_22, ll_23, lt_23, ll_24, lt_24, ll_25, lt_25, ll_26, lt_26, ll_27, lt_27, ll_28, lt_28, ll_29, lt_29, ll_30, lt_30, ll_31, lt_31, ll_32, lt_32, ll_33, lt_33, ll_34, lt_34, ll_35, lt_35, ll_36, lt_36, ll_37, lt_37, ll_38, lt_38, ll_39, lt_39, ll_40, lt_40, ll_41, lt_41, ll_42, lt_42, ll_43, lt_43, ll_44, lt_44, ll_45, lt_45, ll_46, lt_46, ll_47, lt_47, ll_48, lt_48, ll_49, lt_49, ll_50, lt_50, ll_51, lt_51, ll_52, lt_52, ll_53, lt_53, ll_54, lt_54, ll_55, lt_55, ll_56, lt_56, ll_57, lt_57, ll_58, lt_58, ll_59, lt_59, ll_60, lt_60, ll_61, lt_61, ll_62, lt_62, ll_63, lt_63, ll_64, lt_64]; with_unfolding_all omega))
local macro_rules | `(tactic| walk_at "rt1") => `(tactic| with_reducible (show _ + _ ≤ sizeLine ∧ _; refine ⟨by walk_at "slen", ?_⟩; first | rw [uS_app] | rw [app_su] | rw [app_us] | skip))
local macro_rules | `(tactic| walk_at "rs1") => `(tactic| with_reducible first | refine r_iteSY ?_ | refine r_iteN1 ?_ | refine r_iteN2 ?_ | refine r_iteN3 ?_ | refine r_iteN4 ?_ | (show V.non = V.non ∧ _; refine ⟨rfl, ?_⟩) | refine r_iteSN (by with_unfolding_all first | assumption | decide +kernel) ?_)
local macro_rules | `(tactic| walk_at "rt") => `(tactic| repeat first | walk_at "rt1" | walk_at "rs1" | walk_at "rd1" | walk_at "rd2" | walk_at "rq1")
local macro_rules | `(tactic| walk_at "rz") => `(tactic| repeat (with_reducible first | refine iteF ?_ | refine iteT ?_ | refine iteNF ?_ | refine iteNT ?_ | refine r_bl ?_ | (show ∃ _, _; refine ⟨_, rfl, ?_⟩) | refine r_iteSY ?_ | refine r_iteSN (by with_unfolding_all first | assumption | decide +kernel) ?_))

/-! ### k01: marks, walked -/
def spMarks (n : Nat) : Sp := fun vs H Q _ => ∃ (txt : List Nat) (v : V) (d : PyData), vs = [.str (uS txt), v] ∧ txt.length ≤ 12000 ∧ Tp H v d ∧ 0 < n ∧ dok (n - 1) d ∧ MkD txt d ∧ ∀ H', Same H H' → Q (.bl true) H'
section
variable {P : Program} {w : World} {K : Frag} {mg : Str → Option Value} {base : Heap}
abbrev s_law_marks : Stmt := top 52
theorem sc_law_marks : FnScope ["_law_text_here", "_law_tree", "_law_signs", "_law_at", "_law_part"] ["_law_text_here", "_law_tree"] (defScope s_law_marks) := ⟨rfl, rfl, rfl, by decide +kernel, rfl, by decide +kernel, by decide +kernel⟩
theorem cal_law_marks0 (dx : DefAt K mg "_law_marks" s_law_marks) : Cal P w K mg base 1 "_law_marks" ["_law_text_here", "_law_tree"] (spMarks 0) := by
  refine cal_mk (k := 0) dx sc_law_marks (fun _ _ _ _ _ _ us hl => match us, hl with | [_, _], _ => rfl) (fun vs H Q E h => ?_) (fun fn cdv A outer s H vs Q E hr h => ?_)
  · obtain ⟨_, v, e, _, _, _, h, _⟩ := h
    omega
  · obtain ⟨_, v, e, _, _, _, h, _⟩ := h
    omega
theorem cal_law_marks (dx : DefAt K mg "_law_marks" s_law_marks) (B : Bl mg) {n k : Nat}
    (G_law_marks : Cal P w K mg base k "_law_marks" ["_law_text_here", "_law_tree"] (spMarks n)) : Cal P w K mg base (k + 1) "_law_marks" ["_law_text_here", "_law_tree"] (spMarks (n + 1)) := by
  refine cal_mk dx sc_law_marks (fun _ _ _ _ _ _ us hl => match us, hl with | [_, _], _ => rfl) (fun vs H Q E h => ?_) (fun fn cdv A outer s H vs Q E hr h => ?_)
  · obtain ⟨txt, v, d, rfl, _⟩ := h
    rfl
  · obtain ⟨txt, v, d, rfl, hxl, ht, _, hok, hmk, kq⟩ := h
    have hok : dok n d := hok
    have hu := hu_of hr
    have hxl' : (uS txt).length ≤ 12000 := hxl
    refine ⟨_, (pss_cons (ps_if (PW.pt (pw_or (pt_not (pt_val (pe_callB call_isi (by rfl) B.isinstance (by decide +kernel) (pa_cons (pv 1) (pa_cons (pe_bltn (v := .ty "tuple") (by rfl) B.tuple (by decide +kernel) rfl) pa_nil))))) (pw_or1 (pt_cmpR op_eq (pe_callB call_len_seq (by rfl) B.len PySem.boot_len (pa_cons (pv 1) pa_nil)) pe_int (nomark _)))))
      (pss_one (ps_ret pe_bl))
      pss_nil)
      (pss_cons (ps_set (i := 2) sc_law_marks.nd rfl (Or.inl rfl) (pe_disp (pps_cons pe_str pe_str (pps_cons pe_str pe_str (pps_cons pe_str pe_str (pps_cons pe_str pe_str (pps_cons pe_str pe_str (pps_cons pe_str pe_str (pps_cons pe_str pe_str (pps_cons pe_str pe_str pps_nil)))))))) (by rfl) (by rfl) (fun z => by cases z) (by decide)))
      (pss_cons (ps_if (PW.pt (pw_and (pt_val (pe_callB call_isi (by rfl) B.isinstance (by decide +kernel) (pa_cons (pe_ix ix_tup (pv 1) pe_int (fun _ _ => rfl)) (pa_cons (pe_bltn (v := .ty "str") (by rfl) B.str (by decide +kernel) rfl) pa_nil)))) (pw_and (pt_cmp (pc_din hu (pe_ix ix_tup (pv 1) pe_int (fun _ _ => rfl)) (pv 2)) (by rfl)) (pw_and1 (pt_cmpR op_eq (pe_callB call_len_seq (by rfl) B.len PySem.boot_len (pa_cons (pv 1) pa_nil)) pe_int (nomark _))))))
      (pss_one (ps_if (pt_cmpR op_ne (pe_slice sl_str (pv 0) (po_some (pe_ix ix_tup (pv 1) pe_int (fun _ _ => rfl))) (po_some (pe_op op_add (pe_ix ix_tup (pv 1) pe_int (fun _ _ => rfl)) (pe_callB call_len_str (by rfl) B.len PySem.boot_len (pa_cons (pe_dget hu (pv 2) (pe_ix ix_tup (pv 1) pe_int (fun _ _ => rfl)) (fun _ _ => rfl)) pa_nil))))) (pe_dget hu (pv 2) (pe_ix ix_tup (pv 1) pe_int (fun _ _ => rfl)) (fun _ _ => rfl)) (nomark _))
      (pss_one (ps_ret pe_bl))
      pss_nil))
      pss_nil)
      (pss_cons (ps_if (PW.pt (pw_and (pt_val (pe_callB call_isi (by rfl) B.isinstance (by decide +kernel) (pa_cons (pe_ix ix_tup (pv 1) pe_int (fun _ _ => rfl)) (pa_cons (pe_bltn (v := .ty "str") (by rfl) B.str (by decide +kernel) rfl) pa_nil)))) (pw_and1 (pt_cmpR op_in_seq (pe_ix ix_tup (pv 1) pe_int (fun _ _ => rfl)) (pe_lst (pa_cons pe_str (pa_cons pe_str (pa_cons pe_str (pa_cons pe_str (pa_cons pe_str (pa_cons pe_str (pa_cons pe_str (pa_cons pe_str (pa_cons pe_str (pa_cons pe_str pa_nil))))))))))) (by rfl)))))
      (pss_cons (ps_set (i := 3) sc_law_marks.nd rfl (Or.inl rfl) (pe_ix ix_tup (pv 1) (pe_op op_sub (pe_callB call_len_seq (by rfl) B.len PySem.boot_len (pa_cons (pv 1) pa_nil)) pe_int) (fun _ _ => rfl)))
      (pss_one (ps_if (pt_cmpR op_ne (pe_slice sl_str (pv 0) (po_some (pv 3)) (po_some (pe_op op_add (pv 3) (pe_callB call_len_str (by rfl) B.len PySem.boot_len (pa_cons (pe_ix ix_tup (pv 1) pe_int (fun _ _ => rfl)) pa_nil))))) (pe_ix ix_tup (pv 1) pe_int (fun _ _ => rfl)) (nomark _))
      (pss_one (ps_ret pe_bl))
      pss_nil)))
      pss_nil)
      (pss_one (ps_ret (pe_cmpR op_notIn_seq pe_bl (pe_lc (own := [("_law_part", 4)]) rfl sc_law_marks.nd (pi_tup (pv 1)) (blkOk_by (N := ["_law_text_here", "_law_tree", "_law_signs", "_law_at", "_law_part"]) (sc := defScope s_law_marks) (by decide +kernel)) (fun _ _ _ _ _ => (pg_name (i := 4) sc_law_marks.nd rfl (Or.inl rfl))) (fun _ _ _ _ _ => pts_nil) (fun _ _ _ _ _ => (pe_calN G_law_marks (hr.mono (by first | decide | omega)) (pa_cons (pv 0) (pa_cons (pv 4) pa_nil))))) (by rfl)))))))), ?_⟩
    walk_at "rt"
    refine r_isiT ht ?_
    by_cases htu : ∃ ds, d = .tuple ds
    · obtain ⟨ds, rfl⟩ := htu
      obtain ⟨a, xs, rfl, ha, hxs⟩ := ht.tupI
      obtain ⟨m, rfl⟩ : ∃ m, n = m + 1 := by
        cases n with
        | zero => exact hok.elim
        | succ m => exact ⟨m, rfl⟩
      have hl10 : ds.length ≤ 10 := hok.1
      have hlen := hxs.len
      obtain ⟨hmh, hml⟩ := mkD_tup.mp hmk
      rw [show isTupD (.tuple ds) = true from rfl]
      walk_at "rt"
      refine ⟨a, xs, rfl, .inr (SqT.of ha), ?_⟩
      walk_at "rt"
      refine r_ite (fun h1 => ?_) (fun h1 => ?_)
      · walk_at "rt"
        exact kq _ (fun b o h => h)
      · have h1 := of_decide_eq_false h1
        obtain ⟨d0, r, rfl⟩ : ∃ d0 r, ds = d0 :: r := by
          cases ds with
          | nil => rw [List.length_nil] at hlen; omega
          | cons d r => exact ⟨d, r, rfl⟩
        have hxs0 := hxs
        obtain ⟨x0, xr, rfl, t0, txr⟩ := hxs0.consI
        walk_at "rt"
        intro p hp
        walk_at "rt"
        refine ⟨upd_same, sg8, rfl, by decide, ?_⟩
        rw [sg8_mk]
        have s1 : Same H (upd (upd H p (.dK [])) p (.dK sg8)) := Same.mut (Same.new hp) hp
        have ad : upd (upd H p (.dK [])) p (.dK sg8) p = some (.dK sg8) := upd_same
        generalize upd (upd H p (.dK [])) p (.dK sg8) = H1 at *
        refine r_name ?_
        dsimp only
        refine r_pull2 (fun σ' H2 => (∃ v3 v4, σ' = [some (.str (uS txt)), some (.ref a), some (.ref p), v3, v4]) ∧ Same H1 H2) ?_ ?_
        · rintro σ' H2 ⟨⟨v3, v4, rfl⟩, s2⟩
          have sm : Same H H2 := fun b o h => s2 _ _ (s1 _ _ h)
          refine r_pull2 (fun σ' H3 => (∃ v3 v4, σ' = [some (.str (uS txt)), some (.ref a), some (.ref p), v3, v4]) ∧ Same H2 H3) ?_ ?_
          · rintro σ' H3 ⟨⟨v3, v4, rfl⟩, s3⟩
            have sm3 : Same H H3 := fun b o h => s3 _ _ (sm _ _ h)
            walk_at "rt"
            refine ⟨⟨_, SqT.of (sm3 _ _ ha)⟩, fun D hD => ?_⟩
            refine lcw_tup1 (fun i H' => Same H3 H' ∧ ∃ acc, H' D = some (.lst acc) ∧ acc.length = i ∧ ∀ x ∈ acc, x = .bl true) ⟨Same.new hD, [], upd_same, rfl, fun x h => by cases h⟩ (fun i H' _ h => SqT.of (h.1 _ _ (sm3 _ _ ha))) ?_ ?_
            · rintro i x H4 hx ⟨s4, acc, hacc, hal, hat⟩
              obtain ⟨d, hd, tx⟩ := hxs.tep hx
              have hil : i < (d0 :: r).length := (List.getElem?_eq_some_iff.mp hd).1
              walk_at "rt"
              refine ⟨txt, x, d, rfl, hxl, (tx.keep (Same.keep sm3)).keep (Same.keep s4), Nat.succ_pos _, hok.2 d (List.mem_of_getElem? hd), mkL_mem hml d (List.mem_of_getElem? hd), fun H5 s5 => ?_⟩
              walk_at "rt"
              refine ⟨acc, s5 _ _ hacc, by rw [sizeLine_eq]; omega, Same.mut (fun b o h => s5 _ _ (s4 _ _ h)) hD, acc ++ [.bl true], upd_same, by rw [List.length_append, hal]; rfl, fun y hy => ?_⟩
              rcases List.mem_append.mp hy with hy | hy
              · exact hat y hy
              · exact List.mem_singleton.mp hy
            · rintro H4 ⟨s4, acc, hacc, hal, hat⟩
              obtain ⟨g1, g2⟩ := inV_trues acc hat
              walk_at "rt"
              refine r_niL (SqL.of hacc) rfl g2 ?_
              rw [g1]
              exact kq _ (fun b o h => s4 _ _ (sm3 _ _ h))
          · intro hB
            walk_at "rt"
            refine r_ixT (n := 0) (SqT.of (sm _ _ ha)) rfl ?_
            walk_at "rt"
            refine r_isiS (t0.keep (Same.keep sm)) ?_
            by_cases hz : ∃ z, d0 = .str z
            · obtain ⟨z, rfl⟩ := hz
              cases t0
              have hh := hmh z r rfl
              rw [show isStrD (.str z) = true from rfl]
              walk_at "rt"
              refine r_ixT (n := 0) (SqT.of (sm _ _ ha)) rfl ?_
              walk_at "rt"
              intro q hq
              have aq : upd H2 q (.lst (mkW.map V.str)) q = some (.lst (mkW.map V.str)) := upd_same
              have sq : Same H2 (upd H2 q (.lst (mkW.map V.str))) := Same.new hq
              rw [show upd H2 q (.lst [.str "if", .str "let", .str "iterate", .str "not", .str "and", .str "or", .str "show", .str "fun", .str "base", .str "unit"]) = upd H2 q (.lst (mkW.map V.str)) from rfl]
              generalize upd H2 q (.lst (mkW.map V.str)) = H3 at *
              have s3 : Same H H3 := fun b o h => sq _ _ (sm _ _ h)
              refine r_iL (SqL.of aq) rfl rfl ?_
              rw [inV_str z mkW]
              by_cases hmem : z ∈ mkW
              · obtain ⟨kk, hkk, hat⟩ := hh.wd hmem
                obtain ⟨vl, hvl, tvl⟩ := hxs.mem hkk
                cases tvl.intI
                have hcut := cut_at hat
                have hat2 := hat.slc.2
                have hzl := mkW_len hmem
                have hzl2 : (lS z).length = z.length := rfl
                rw [decide_eq_true hmem]
                walk_at "rt"
                refine ⟨a, _, rfl, .inr (SqT.of (s3 _ _ ha)), ?_⟩
                walk_at "rt"
                rw [show (((V.str z :: xr).length : Nat) : Int) - 1 = (((PyData.str z :: r).length - 1 : Nat) : Int) by rw [hlen, List.length_cons]; omega]
                refine r_ixT (SqT.of (s3 _ _ ha)) hvl ?_
                walk_at "rt"
                refine r_ixT (n := 0) (SqT.of (s3 _ _ ha)) rfl ?_
                walk_at "rt"
                refine r_slS (by rw [sizeLine_eq]; omega) ?_
                rw [hcut]
                walk_at "rt"
                refine r_ixT (n := 0) (SqT.of (s3 _ _ ha)) rfl ?_
                walk_at "rz"
                refine r_neS ?_
                rw [decide_eq_true rfl]
                walk_at "rz"
                refine r_next ?_
                exact hB _ _ ⟨⟨_, _, rfl⟩, sq⟩
              · rw [decide_eq_false hmem]
                walk_at "rz"
                refine r_next ?_
                exact hB _ _ ⟨⟨_, _, rfl⟩, sq⟩
            · have e1 : isStrD d0 = false := by cases d0 <;> first | rfl | exact absurd ⟨_, rfl⟩ hz
              rw [e1]
              walk_at "rz"
              refine r_next ?_
              exact hB _ _ ⟨⟨_, _, rfl⟩, fun b o h => h⟩
        · intro hB
          walk_at "rt"
          refine r_ixT (n := 0) (SqT.of (s1 _ _ ha)) rfl ?_
          walk_at "rt"
          refine r_isiS (t0.keep (Same.keep s1)) ?_
          by_cases hz : ∃ z, d0 = .str z
          · obtain ⟨z, rfl⟩ := hz
            cases t0
            have hh := hmh z r rfl
            have hdg : DGet H1 p (.str z) ((sgTab.lookup z).map V.str) := by
              have := DGet.k (k := Sum.inr z) ad
              rw [sg8_get] at this
              exact this
            rw [show isStrD (.str z) = true from rfl]
            walk_at "rt"
            refine r_din ?_
            walk_at "rt"
            refine r_ixT (n := 0) (SqT.of (s1 _ _ ha)) rfl ?_
            walk_at "rt"
            refine ⟨p, _, rfl, hdg, ?_⟩
            cases hg : sgTab.lookup z with
            | none =>
              walk_at "rz"
              refine r_next ?_
              exact hB _ _ ⟨⟨_, _, rfl⟩, fun b o h => h⟩
            | some g =>
              rw [hg] at hdg
              rw [show (Option.map V.str (some g)).isSome = true from rfl]
              walk_at "rt"
              refine ⟨a, _, rfl, .inr (SqT.of (s1 _ _ ha)), ?_⟩
              walk_at "rt"
              refine r_ite (fun h4 => ?_) (fun h4 => ?_)
              · have h4 := of_decide_eq_true h4
                obtain ⟨kk, hkk, hat⟩ := hh.sg g hg (by rw [hlen] at h4; omega)
                obtain ⟨vl, hvl, tvl⟩ := hxs.mem hkk
                cases tvl.intI
                have hcut := cut_at hat
                have hat2 := hat.slc.2
                have hzl := sg_len hg
                have hzl2 : (lS g).length = g.length := rfl
                walk_at "rt"
                refine r_ixT (SqT.of (s1 _ _ ha)) hvl ?_
                walk_at "rt"
                refine r_ixT (SqT.of (s1 _ _ ha)) hvl ?_
                walk_at "rt"
                refine r_ixT (n := 0) (SqT.of (s1 _ _ ha)) rfl ?_
                walk_at "rt"
                refine ⟨p, _, rfl, hdg, ?_⟩
                walk_at "rt"
                refine r_slS (by rw [sizeLine_eq]; omega) ?_
                rw [hcut]
                walk_at "rt"
                refine r_ixT (n := 0) (SqT.of (s1 _ _ ha)) rfl ?_
                walk_at "rt"
                refine ⟨p, _, rfl, hdg, ?_⟩
                refine r_neS ?_
                rw [decide_eq_true rfl]
                walk_at "rz"
                refine r_next ?_
                exact hB _ _ ⟨⟨_, _, rfl⟩, fun b o h => h⟩
              · walk_at "rz"
                refine r_next ?_
                exact hB _ _ ⟨⟨_, _, rfl⟩, fun b o h => h⟩
          · have e1 : isStrD d0 = false := by cases d0 <;> first | rfl | exact absurd ⟨_, rfl⟩ hz
            rw [e1]
            walk_at "rz"
            refine r_next ?_
            exact hB _ _ ⟨⟨_, _, rfl⟩, fun b o h => h⟩
    · have e1 : isTupD d = false := by cases d <;> first | rfl | exact absurd ⟨_, rfl⟩ htu
      rw [e1]
      walk_at "rt"
      exact kq _ (fun b o h => h)
theorem law_marks_all (dx : DefAt K mg "_law_marks" s_law_marks) (B : Bl mg) : ∀ n, Cal P w K mg base (1 + n) "_law_marks" ["_law_text_here", "_law_tree"] (spMarks n)
  | 0 => cal_law_marks0 dx
  | n + 1 => cal_law_marks dx B (k := 1 + n) (law_marks_all dx B n)
end
end Al
/-! try with several clauses, each `except X as n` over one name n -/
namespace L2N.Many
open PySem PySem.Spec PyProof.Rows L2 L2N
/-- the ends of a suite behind which the name is gone -/
def gone (i : Nat) (D : Ends) : Ends := { nx := fun σ' H' => D.nx (σ'.set i none) H', rt := D.rt, bk := fun σ' H' => D.bk (σ'.set i none) H', ct := fun σ' H' => D.ct (σ'.set i none) H' }
abbrev SuiteT : Type := Addr → Value → Option Addr → TS
/-- clause by clause -/
def wish (K : PySem.W.Frag) (i : Nat) (Wout : WX) (D : Ends) : List (Value × SuiteT) → WX
  | [] => Wout
  | (c, ts) :: r => fun cls d σ H => ∃ b, PySem.W.exmOne K cls c = some b ∧ (b = true → ∀ a, H a = none → ts a cls d (gone i D) (σ.set i (some (.ref a))) H) ∧ (b = false → wish K i Wout D r cls d σ H)
inductive Clauses (X : Cx) (n : Str) : List ExceptHandler → List (Value × SuiteT) → Prop
  | nil : Clauses X n [] []
  | cons {x : Str} {c : Value} {ts : SuiteT} {b₀ : Stmt} {suite : List Stmt} {np pos' : Pos} {hds : List ExceptHandler} {l : List (Value × SuiteT)} (hc : Names X x c)
      (hsu : ∀ (a : Addr) (oe : Obj) (cls : Value) (d : Option Addr) (pn : List (Addr × Obj)), Zn cls d oe → (∃ vs, oe.data = .fields vs) → PSs (X.suite a ((a, oe) :: pn)) (b₀ :: suite) (ts a cls d)) (r : Clauses X n hds l) :
      Clauses X n (.ExceptHandler (some (.Name x np)) (some n) (b₀ :: suite) pos' :: hds) ((c, ts) :: l)
section
variable {X : Cx} {body : List Stmt} {h₀ : ExceptHandler} {hds : List ExceptHandler} {l : List (Value × SuiteT)} {pos : Pos} {tb : WX → TS} {Wout : WX} {n : Str} {i : Nat}
theorem ps_try_asM (hs : X.stack = X.env :: X.outer) (hf : X.env.frame = some X.env.locals) (hN : X.N.Nodup) (hi : X.N[i]? = some n) (hln : X.env.kindOf n = some .local) (tk : Takes X Wout)
    (hb : ∀ (W : WX) (pn : List (Addr × Obj)) (xe : Value → Shared → Prop), Takes (X.tr pn xe) W → PassesOwn (model X.prog X.w) X.A X.env xe → PSs (X.tr pn xe) body (tb W))
    (hh : Clauses X n (h₀ :: hds) l) : PS X (.Try body (h₀ :: hds) [] [] pos) (fun D σ H => tb (wish X.K i Wout D l) D σ H) := by
  refine ⟨fun pins s σ H D I h => ?_⟩
  have ok := I.ok
  have hloc : Loc X.env.scope n := .inl hln
  have hfr : X.A.frames = some (X.env :: X.outer) := by rw [ok.frames, hs]
  refine wpAny_Try_except ?_
  refine wpAny_mono ((hb (wish X.K i Wout D l) (X.pn ++ pins) (fun e s₁ => wpAny (model X.prog X.w) X.A (noteFrame e X.env) (fun _ s₂ => wpAny (model X.prog X.w) X.A (setFlight e none) (fun _ s₃ =>
    wpAny (model X.prog X.w) X.A (handleBy e X.env (h₀ :: hds)) (SP X pins D) X.xe s₃) X.xe s₂) X.xe s₁) (fun u s' xx => ?_) PassesOwn.looking).run [] s σ H D (I.toTry _) h) (fun f s1 hsp => ?_) (fun e s1 he => he)
  · obtain ⟨a, B, sI, pins', σ', H', cls, d, rfl, J', nb, up, sky, na, os, ag, w⟩ := xx
    have J : Inv X pins σ' H' sI := J'.ofTry ok
    have sky' : Sky B (X.env :: X.outer) a (Zn cls d) X.env.locals s'.heap := by rw [← hs]; exact sky
    show wpAny (model X.prog X.w) X.A (noteFrame (.ref a) X.env) _ _ _
    refine Sky.land Zn.steady hfr hf sky' fun h3 fl3 up3 => ?_
    have J3 : Inv X pins σ' H' { s' with heap := h3 } := J.landed nb fl3.1 (up.trans up3) os ag
    obtain ⟨oe3, vs3, he3, hz3, hd3⟩ := fl3.there
    have apart : a ∉ frs (X.env :: X.outer) := fun hm => by
      obtain ⟨_, o', e', hnf⟩ := fl3.2.2.1.mem hm
      rw [he3] at e'; cases e'
      exact hnf _ hd3
    have nL : a ≠ X.env.locals := fun z => apart (List.mem_filterMap.mpr ⟨X.env, List.mem_cons_self, by rw [hf, z]⟩)
    have nF : a ∉ X.fs := fun hm => by
      obtain ⟨e, he, q⟩ := List.mem_filterMap.mp hm
      exact apart (List.mem_filterMap.mpr ⟨e, List.mem_cons_of_mem _ he, q⟩)
    have S3 := J3.suite he3 hd3 na nL nF
    have step : ∀ {hds' : List ExceptHandler} {l' : List (Value × SuiteT)}, Clauses X n hds' l' → wish X.K i Wout D l' cls d σ' H' →
        wpAny (model X.prog X.w) X.A (handleBy (.ref a) X.env hds') (SP X pins D) X.xe { s' with heap := h3 } := by
      intro hds' l' hk
      induction hk with
      | nil =>
        intro w
        refine wpAny_handleBy_nil ?_
        obtain ⟨k1, k2, k3, oe, vs, T, oT, ts', he, hz, hd, h1, hr⟩ := id fl3
        unfold PySem.passOn
        refine wpAny_bind (wpAny_field he hd h1 ?_)
        rw [if_neg (show ¬ ((Value.ref T == Value.none) = true) from by simp)]
        have fin : wpAny (model X.prog X.w) X.A (setFlight (.ref a) X.env.frame) (fun _ s4 => wpAny (model X.prog X.w) X.A (throw (.ref a) : Sem Flow) (SP X pins D) X.xe s4) X.xe { s' with heap := h3 } := by
          rw [hf]
          refine HandSPX.setFlight_upZ fl3 fun h4 hh4 up4 => wpAny_throw (tk _ _ ?_)
          exact ⟨a, B, sI, pins, σ', H', cls, d, rfl, J, nb, (up.trans up3).trans up4, .inr (.inr (by rw [hs]; exact hh4)), na, os, ag, w⟩
        first
          | exact wpAny_bind (wpAny_pure (wpAny_bind fin))
          | exact wpAny_bind fin
      | @cons x c ts b₀ suite np pos' hds2 l2 hc hsu r ih =>
        intro w
        obtain ⟨b, hb1, hyes, hno⟩ := w
        refine wpAny_handleBy_cons (codeAny_handlers_test ?_) (by intro q; cases q)
        have LT : PySem.W.Looks (model X.prog X.w) h3 (typeOf (.ref a)) cls := fun A Q E s k q => wpAny_typeOf_ref (k _ _ he3) (by rw [hz3.1]; exact q)
        have LM := PySem.W.exm_one (M := model X.prog X.w) (J3.kIn) LT hb1
        have test : ∀ {Q : Value → Shared → Prop} {E : Value → Shared → Prop}, Q c { s' with heap := h3 } → wpAny (model X.prog X.w) (X.A.mark (some (.ref a))) (eval (.Name x np) X.env) Q E { s' with heap := h3 } := fun {Q E} q => by
          obtain ⟨hg, hdbg, hm | ⟨hm, hv, hnn⟩⟩ := hc
          · exact ld_glob (X := X.suite a ((a, oe3) :: (X.pn ++ pins))) S3 hg hm q hdbg
          · exact ld_blt (X := X.suite a ((a, oe3) :: (X.pn ++ pins))) S3 hg hm hv q hnn hdbg
        refine test (LM.here ?_)
        cases b with
        | true =>
          refine codeAny_handlers_suite_as ?_
          refine HandSPX.lands_againZ fl3 fun h4 fl4 up4 => ?_
          have J4 : Inv X pins σ' H' { s' with heap := h4 } := J.landed nb fl4.1 ((up.trans up3).trans up4) os ag
          obtain ⟨oe4, vs4, he4, hz4, hd4⟩ := fl4.there
          have S4 := J4.suite he4 hd4 na nL nF
          refine store_ok (X := X.suite a ((a, oe4) :: (X.pn ++ pins))) (v := .ref a) S4 hN hi hloc rfl (fun s5 S5 => ?_) (.inr hln)
          refine wpAny_mono ((hsu a oe4 cls d (X.pn ++ pins) hz4 ⟨_, hd4⟩).run [] s5 _ H' _ S5 (hyes rfl a na)) (fun f s6 hsp => ?_) (fun _ _ z => False.elim z)
          have end_ : ∀ {σ6 : L2.St} {H6 : Hp} {Q : Shared → Prop}, Inv (X.suite a ((a, oe4) :: (X.pn ++ pins))) [] σ6 H6 s6 → (∀ s7, Inv X pins (σ6.set i none) H6 s7 → Q s7) →
              wpAny (model X.prog X.w) X.A (do bindName X.env n .none; unbindBehindTheSuite X.env n pos') (fun _ s7 => Q s7) X.xe s6 := fun {σ6 H6 Q} S6 hq => gone_ok (S6.unsuite ok) hN hi hln hq
          cases f with
          | next =>
            obtain ⟨σ6, H6, S6, q6⟩ := hsp
            exact end_ S6 fun s7 J7 => ⟨_, _, J7, q6⟩
          | brk =>
            obtain ⟨σ6, H6, S6, q6⟩ := hsp
            exact end_ S6 fun s7 J7 => ⟨_, _, J7, q6⟩
          | cont =>
            obtain ⟨σ6, H6, S6, q6⟩ := hsp
            exact end_ S6 fun s7 J7 => ⟨_, _, J7, q6⟩
          | ret u =>
            obtain ⟨v6, σ6, H6, S6, r6, q6⟩ := hsp
            exact end_ S6 fun s7 J7 => ⟨_, _, _, J7, r6, q6⟩
        | false =>
          show wpAny _ X.A (handleBy (.ref a) X.env hds2) _ _ _
          exact ih (hno rfl)
    exact step hh w
  · cases f with
    | next =>
      obtain ⟨σ', H', J', q⟩ := hsp
      exact wpAny_execs_nil ⟨σ', H', J'.ofTry ok, q⟩
    | brk =>
      obtain ⟨σ', H', J', q⟩ := hsp
      exact ⟨σ', H', J'.ofTry ok, q⟩
    | cont =>
      obtain ⟨σ', H', J', q⟩ := hsp
      exact ⟨σ', H', J'.ofTry ok, q⟩
    | ret u =>
      obtain ⟨v, σ', H', J', r, q⟩ := hsp
      exact ⟨v, σ', H', J'.ofTry ok, r, q⟩
end
end L2N.Many
namespace Al
open PySem PySem.Spec PyProof.Rows L2 NdefX PySem.W
local macro_rules | `(tactic| walk_at "rd1") => `(tactic| with_reducible first
  | (show tVar _ _ _ _; refine r_var (by with_unfolding_all rfl) ?_) | refine r_c ?_ | refine r_op ?_ | refine r_I0 ?_ | refine r_un ?_ | refine r_U ?_
  | (show rI _ _ _ _ _ _; refine r_I (by with_unfolding_all first | exact ⟨by decide, by decide⟩ | (show (0 : Int) < _; decide)) ?_)
  | refine r_eqI ?_ | refine r_neI ?_ | refine r_eqS ?_ | refine r_neS ?_ | refine r_eqB ?_ | refine r_neB ?_ | refine r_chain ?_
  | refine r_test ?_ | refine r_B ?_ | refine r_bl ?_ | refine r_int ?_ | refine r_and ?_ | refine r_or ?_ | refine r_not ?_ | refine r_andV ?_ | refine r_orV ?_ | refine r_notV ?_
  | refine r_if ?_ | refine r_nil ?_ | refine r_cons ?_ | refine r_cb ?_ | refine r_call ?_ | refine r_callS ?_ | refine r_tup ?_ | refine r_lst ?_ | refine r_seq ?_ | refine r_next ?_ | refine r_asg ?_
  | refine r_name ?_ | refine r_ifS ?_ | refine r_ret ?_ | refine r_retN ?_ | refine r_drop ?_ | refine r_brk ?_ | refine r_ct ?_ | refine r_sl ?_ | refine r_part ?_ | refine r_nopart ?_
  | refine r_bm ?_ | refine r_bm0 ?_ | refine r_raiseX ?_ | refine r_mkO ?_ | refine iteF ?_ | refine iteT ?_ | refine r_int1 ?_ | refine r_int1b ?_ | (show _ ≤ sizeLine ∧ _; refine r_sz (by with_unfolding_all first | omega | (simp only [List.length_cons, List.length_nil]; omega)) ?_)
  | (show ∃ _, _; refine ⟨_, rfl, ?_⟩) | (show ∃ _, _; refine ⟨_, _, rfl, rfl, ?_⟩) | (show ∃ _, _; refine ⟨_, _, rfl, ?_⟩))
local macro_rules | `(tactic| walk_at "rd") => `(tactic| repeat (walk_at "rd1"))
local macro_rules | `(tactic| walk_at "rd2") => `(tactic| with_reducible first
  | (show tFld _ _ _ _ _ _; refine r_fldI (by with_unfolding_all rfl) (by with_unfolding_all assumption) (by with_unfolding_all assumption) (by with_unfolding_all assumption) (by with_unfolding_all rfl) ?_)
  | (show tMetS _ _ _ _ _ _ _ _ _; refine r_rm (by with_unfolding_all assumption) (by with_unfolding_all rfl) (by decide) ?_)
  | refine r_sfl ?_ | refine iteNF ?_ | refine iteNT ?_ | refine r_makS ?_)
local macro_rules | `(tactic| walk_at "rp") => `(tactic| repeat first | walk_at "rd1" | walk_at "rd2")
local macro_rules | `(tactic| walk_at "rq1") => `(tactic| with_reducible first | refine r_rng1 ?_ | refine r_rng2 ?_ | refine r_forL ?_ | refine r_forT ?_ | refine r_dget ?_ | refine r_pnil ?_ | refine r_pcons ?_ | refine r_lcL ?_ | refine r_lcT ?_ | refine r_lcR ?_ | refine r_yes ?_ | refine r_disp ?_)
local macro_rules | `(tactic| walk_at "rq") => `(tactic| repeat first | walk_at "rd1" | walk_at "rd2" | walk_at "rq1")
local macro_rules | `(tactic| walk_at "slen") => `(tactic| (simp only [sizeLine_eq, len_uS, List.length_append, ll_0, lt_0, ll_1, lt_1, ll_2, lt_2, ll_3, lt_3, ll_4, lt_4, ll_5, lt_5, ll_6, lt_6, ll_7, lt_7, ll_8, lt_8, ll_9, lt_9, ll_10, lt_10, ll_11, lt_11, ll_12, lt_12, ll_13, lt_13, ll_14, lt_14, ll_15, lt_15, ll_16, lt_16, ll_17, lt_17, ll_18, lt_18, ll_19, lt_19, ll_20, lt_20, ll_21, lt_21, ll_22, lt_22, ll_23, lt_23, ll_24, lt_24, ll_25, lt_25, ll_26, lt_26, ll_27, lt_27, ll_28, lt_28, ll_29, lt_29, ll_30, lt_30, ll_31, lt_31, ll_32, lt_32, ll_33, lt_33, ll_34, lt_34, ll_35, lt_35, ll_36, lt_36, ll_37, lt_37, ll_38, lt_38, ll_39, lt_39, ll_40, lt_40, ll_41, lt_41, ll_42, lt_42, ll_43, lt_43, ll_44, lt_44, ll_45, lt_45, ll_46, lt_46, ll_47, lt_47, ll_48, lt_48, ll_49, lt_49, ll_50, lt_50, ll_51, lt_51, ll_52, lt_52, ll_53, lt_53, ll_54, lt_54, ll_55, lt_55, ll_56, lt_56, ll_57, lt_57, ll_58, lt_58, ll_59, lt_59, ll_60, lt_60, ll_61, lt_61, ll_62, lt_62, ll_63, lt_63, ll_64, lt_64]; with_unfolding_all omega))
local macro_rules | `(tactic| walk_at "rt1") => `(tactic| with_reducible (show _ + _ ≤ sizeLine ∧ _; refine ⟨by walk_at "slen", ?_⟩; first | rw [uS_app] | rw [app_su] | rw [app_us] | skip))
local macro_rules | `(tactic| walk_at "rs1") => `(tactic| with_reducible first | refine r_iteSY ?_ | refine r_iteN1 ?_ | refine r_iteN2 ?_ | refine r_iteN3 ?_ | refine r_iteN4 ?_ | (show V.non = V.non ∧ _; refine ⟨rfl, ?_⟩) | refine r_iteSN (by with_unfolding_all first | assumption | decide +kernel) ?_)
local macro_rules | `(tactic| walk_at "rt") => `(tactic| repeat first | walk_at "rt1" | walk_at "rs1" | walk_at "rd1" | walk_at "rd2" | walk_at "rq1")
local macro_rules | `(tactic| walk_at "rz") => `(tactic| repeat (with_reducible first | refine iteF ?_ | refine iteT ?_ | refine iteNF ?_ | refine iteNT ?_ | refine r_bl ?_ | (show ∃ _, _; refine ⟨_, rfl, ?_⟩) | refine r_iteSY ?_ | refine r_iteSN (by with_unfolding_all first | assumption | decide +kernel) ?_))

/-! ### k01: a text read, walked -/
def spLawRead : Sp := fun vs H Q _ => ∃ (z : Str) (ts : TS1) (o : Except PErr (List PyData × TS1)), vs = [.str z] ∧ z.length ≤ 12000 ∧ Lex 0 (lS z) ts none ∧ pLines z.length [] ts = some o ∧
  (∀ ds ts', o = .ok (ds, ts') → ∀ p q vs H', Same H H' → H p = none → H' p = some (.lst [.str "read", .ref q]) → H' q = some (.lst vs) → TpAll H' vs ds → Q (.ref p) H') ∧
  (∀ i, o = .error (.mal i) → ∀ p H', Same H H' → H p = none → H' p = some (.lst [.str "malformed", .int (i : Int)]) → Q (.ref p) H') ∧
  (o = .error .over → ∀ p H', Same H H' → H p = none → H' p = some (.lst [.str "oversized", .str "depth"]) → Q (.ref p) H')
theorem none_of {H H' : Hp} {p : Addr} (s : Same H H') (h : H' p = none) : H p = none := by
  cases e : H p with
  | none => rfl
  | some u => rw [s _ _ e] at h; cases h
section
variable {P : Program} {w : World} {K : Frag} {mg : Str → Option Value} {base : Heap} {DM DO : Addr}
abbrev s_law_read : Stmt := top 53
theorem sc_law_read : FnScope ["_law_text_here", "_law_e"] ["_law_text_here"] (defScope s_law_read) := ⟨rfl, rfl, rfl, by decide +kernel, rfl, by decide +kernel, by decide +kernel⟩
theorem cal_law_read (dx : DefAt K mg "_law_read" s_law_read) (B : Bl mg) (XMalformed : ExC1 P w K mg base "Malformed" DM "at" CMal) (XOversized : ExC1 P w K mg base "Oversized" DO "limit" COver)
    (eM : exmOne K (.ref DM) (.ref DM) = some true) (eO : exmOne K (.ref DO) (.ref DO) = some true) (eOM : exmOne K (.ref DO) (.ref DM) = some false)
    (G_parse : Cal P w K mg base 204 "parse" ["text"] (spParse DM DO)) : Cal P w K mg base 205 "_law_read" ["_law_text_here"] spLawRead := by
  refine cal_mk dx sc_law_read (fun _ _ _ _ _ _ us hl => match us, hl with | [_], _ => rfl) (fun vs H Q E h => ?_) (fun fn cdv A outer s H vs Q E hr h => ?_)
  · obtain ⟨z, ts, o, rfl, _⟩ := h
    rfl
  · obtain ⟨z, ts, o, rfl, hz, hlx, hp, k1, k2, k3⟩ := h
    have tk : L2N.Takes (cxOf (L2N.CX P w) P w K mg base ["_law_text_here", "_law_e"] "_law_read" (defScope s_law_read) fn cdv A outer s H E) (fun cls d _ H => E cls d H) := L2N.takes_of rfl rfl rfl rfl
    refine ⟨_, (pss_one (L2N.Many.ps_try_asM (i := 1) rfl rfl sc_law_read.nd rfl rfl tk (fun W pn xe tk hp =>
      (pss_one (ps_ret (pe_lst (pa_cons pe_str (pa_cons (pe_cal G_parse (hr.mono (by first | decide | omega)) tk (pa_cons (pv 0) pa_nil)) pa_nil))))))
      (.cons ⟨rfl, by decide, Or.inl XMalformed.gm⟩ (fun a oe cls d pn hz hf =>
      (pss_one (ps_ret (pe_lst (pa_cons pe_str (pa_cons (pe_xf XMalformed.xf XMalformed.nf hz.zc hf (pv 1)) pa_nil)))))) (.cons ⟨rfl, by decide, Or.inl XOversized.gm⟩ (fun a oe cls d pn hz hf =>
      (pss_one (ps_ret (pe_lst (pa_cons pe_str (pa_cons (pe_xf XOversized.xf XOversized.nf hz.zc hf (pv 1)) pa_nil)))))) .nil)))), ?_⟩
    walk_at "rt"
    refine ⟨z, rfl, by omega, .inr ⟨ts, none, hz, hlx, o, hp, fun e he => ?_, fun ds ts' he p vs H1 s1 hpn hpl hvs => ?_⟩⟩
    · cases e with
      | mal i =>
        intro d H1 s1 hd
        refine ⟨true, eM, fun _ a0 ha0 => ?_, fun q => Bool.noConfusion q⟩
        walk_at "rt"
        refine ⟨_, rfl, rfl, rfl, d, _, _, rfl, hd, rfl, ?_⟩
        walk_at "rt"
        intro q hq
        exact k2 i he q _ (fun b o h => Same.new hq _ _ (s1 _ _ h)) (none_of s1 hq) upd_same
      | over =>
        intro d H1 s1 hd
        refine ⟨false, eOM, fun q => Bool.noConfusion q, fun _ => ⟨true, eO, fun _ a0 ha0 => ?_, fun q => Bool.noConfusion q⟩⟩
        walk_at "rt"
        refine ⟨_, rfl, rfl, rfl, d, _, _, rfl, hd, rfl, ?_⟩
        walk_at "rt"
        intro q hq
        exact k3 he q _ (fun b o h => Same.new hq _ _ (s1 _ _ h)) (none_of s1 hq) upd_same
    · walk_at "rt"
      intro q hq
      exact k1 ds ts' he q p vs _ (fun b o h => Same.new hq _ _ (s1 _ _ h)) (none_of s1 hq) upd_same (Same.new hq _ _ hpl) (hvs.keep (Keep.new hq))
end
end Al
namespace Al
open PySem PySem.Spec PyProof.Rows L2 NdefX PySem.W
/-! ### k01: repr can show the lines -/
structure AllShow (ds : List PyData) (W dp : Nat) : Prop where
  sh : PyData.showableAll ds = true
  nd : PyData.hasDictAll ds = false
  lv : PyData.leavesShortAll 13 ds = true
  wt : PyData.weightAll ds ≤ W
  dp : PyData.depthAll ds ≤ dp
theorem AllShow.nil {dp : Nat} : AllShow [] 0 dp := ⟨rfl, rfl, rfl, Nat.zero_le _, Nat.zero_le _⟩
theorem AllShow.cons {d : PyData} {ds : List PyData} {w dp' W dp : Nat} (hd : ShowOk d w dp') (h : dp' ≤ dp) (t : AllShow ds W dp) : AllShow (d :: ds) (w + 1 + W) dp := by
  refine ⟨?_, ?_, ?_, ?_, ?_⟩
  · simp only [PyData.showableAll, hd.sh, t.sh, Bool.and_self]
  · simp only [PyData.hasDictAll, hd.nd, t.nd, Bool.or_self]
  · simp only [PyData.leavesShortAll, hd.lv, t.lv, Bool.and_self]
  · simp only [PyData.weightAll]
    have := hd.wt; have := t.wt
    omega
  · simp only [PyData.depthAll]
    have := hd.dp; have := t.dp
    omega
theorem AllShow.tup {ds : List PyData} {W dp : Nat} (h : AllShow ds W dp) : ShowOk (.tuple ds) W (dp + 1) :=
  ⟨by simpa [PyData.showable] using h.sh, by simpa [PyData.hasDict] using h.nd, by simpa [PyData.leavesShort] using h.lv, by simpa [PyData.weight] using h.wt, by have := h.dp; simp only [PyData.depth]; omega⟩
theorem AllShow.lst {ds : List PyData} {W dp : Nat} (h : AllShow ds W dp) : ShowOk (.list ds) W (dp + 1) :=
  ⟨by simpa [PyData.showable] using h.sh, by simpa [PyData.hasDict] using h.nd, by simpa [PyData.leavesShort] using h.lv, by simpa [PyData.weight] using h.wt, by have := h.dp; simp only [PyData.depth]; omega⟩
theorem AllShow.mono {ds : List PyData} {W dp W' dp' : Nat} (h : AllShow ds W dp) (h1 : W ≤ W') (h2 : dp ≤ dp') : AllShow ds W' dp' := ⟨h.sh, h.nd, h.lv, Nat.le_trans h.wt h1, Nat.le_trans h.dp h2⟩
def HEADS : List Str := ["number", "bool", "var", "call", "iterate", "power", "not", "if", "let", "base", "unit", "fun", "show", "m", "km", "f", "or", "and", "lt", "le", "eq", "add", "sub", "mul", "div"]
theorem sh_nm {z : Str} (h : z ∈ NMS) : ShowOk (.str z) 9 0 := by
  have : ∀ z ∈ NMS, Plain z ∧ z.length ≤ 9 := by unfold Plain; decide +kernel
  exact (ShowOk.str (this z h).1).mono (this z h).2 (by decide)
theorem sh_hd {z : Str} (h : z ∈ HEADS) : ShowOk (.str z) 9 0 := by
  have : ∀ z ∈ HEADS, Plain z ∧ z.length ≤ 9 := by unfold Plain; decide +kernel
  exact (ShowOk.str (this z h).1).mono (this z h).2 (by decide)
theorem sh_op (o : Op2) : ShowOk (.str o.head) 9 0 := sh_hd (by cases o <;> simp [HEADS, Op2.head])
theorem sh_int {i : Int} (h : i.natAbs < 10 ^ 12) : ShowOk (.int i) 41 0 := .int h
theorem sh_0 : ShowOk (.int 0) 41 0 := .int (by decide)
theorem sh_un : ∀ (u : Un), uOk u → uNm u → AllShow (uD0 u) (u.length * 100) 1
  | [], _, _ => .nil
  | (z, p) :: r, ho, hn => by
    have ih := sh_un r (fun q hq => ho q (List.mem_cons_of_mem _ hq)) (fun q hq => hn q (List.mem_cons_of_mem _ hq))
    have hp : p.natAbs ≤ 9 := ho (z, p) List.mem_cons_self
    have h1 := (AllShow.cons (sh_nm (hn (z, p) List.mem_cons_self)) (Nat.zero_le 0) (.cons (sh_int (i := p) (by omega)) (Nat.zero_le 0) (.cons sh_0 (Nat.zero_le 0) .nil))).tup
    refine (AllShow.cons h1 (Nat.le_refl _) ih).mono ?_ (by decide)
    show _ ≤ (r.length + 1) * 100
    rw [Nat.succ_mul]
    omega
theorem sh_utup {u : Un} (h : UW u) : ShowOk (.tuple (uD0 u)) 200 2 := ((sh_un u h.ok h.nm).mono (by have := h.sm; omega) (by decide)).tup
def sB : Nat → Nat
  | 0 => 500
  | d + 1 => 3 * sB d + 500
theorem sB_mono : ∀ {a b : Nat}, a ≤ b → sB a ≤ sB b
  | 0, 0, _ => Nat.le_refl _
  | 0, b + 1, _ => by have := sB_mono (Nat.zero_le b); show _ ≤ 3 * sB b + 500; omega
  | a + 1, 0, h => by omega
  | a + 1, b + 1, h => by
    have := sB_mono (show a ≤ b by omega)
    show 3 * sB a + 500 ≤ 3 * sB b + 500
    omega
theorem sB_one (d : Nat) : sB (1 + d) = 3 * sB d + 500 := by rw [Nat.add_comm]; rfl
theorem sh_ex : ∀ e : Ex, e.ok → e.nm → e.sm → ShowOk e.d0 (sB e.dep) (2 * e.dep + 3)
  | .num k u, ho, hm, hs => by
    have hu := sh_utup (u := u) ⟨ho.2, hm, hs⟩
    have ha := (by decide +kernel : ∀ k < 5, numA.getD k 0 < 10 ^ 12 ∧ numB.getD k 1 < 10 ^ 12) k ho.1
    have h1 := (AllShow.cons (sh_int (i := (numA.getD k 0 : Nat)) ha.1) (Nat.zero_le 0) (.cons (sh_int (i := (numB.getD k 1 : Nat)) ha.2) (Nat.zero_le 0) .nil)).tup
    exact (AllShow.cons (sh_hd (z := "number") (by simp [HEADS])) (Nat.zero_le 2) (.cons h1 (by decide) (.cons hu (by decide) (.cons sh_0 (Nat.zero_le _) .nil)))).tup.mono (w' := 500) (dp' := 3) (by decide) (by decide)
  | .bool b, _, _, _ => (AllShow.cons (sh_hd (z := "bool") (by simp [HEADS])) (Nat.zero_le 2) (.cons (ShowOk.bool b) (by decide) .nil)).tup.mono (w' := 500) (dp' := 3) (by decide) (by decide)
  | .var x, _, hm, _ => (AllShow.cons (sh_hd (z := "var") (by simp [HEADS])) (Nat.zero_le 2) (.cons (sh_nm hm) (by decide) (.cons sh_0 (by decide) .nil))).tup.mono (w' := 500) (dp' := 3) (by decide) (by decide)
  | .call0 x, _, hm, _ => (AllShow.cons (sh_hd (z := "call") (by simp [HEADS])) (Nat.zero_le 2) (.cons (sh_nm hm) (by decide) (.cons (AllShow.nil (dp := 0)).tup (by decide) (.cons sh_0 (by decide) .nil)))).tup.mono (w' := 2000) (dp' := 5) (by decide) (by decide)
  | .call1 x a, ho, hm, hs => by
    have h1 := sh_ex a ho hm.2 hs
    show ShowOk _ (sB (1 + a.dep)) (2 * (1 + a.dep) + 3)
    rw [sB_one]
    exact (AllShow.cons (dp := 2 * a.dep + 4) (sh_hd (z := "call") (by simp [HEADS])) (Nat.zero_le _) (.cons (sh_nm hm.1) (Nat.zero_le _) (.cons (AllShow.cons h1 (Nat.le_refl _) .nil).tup (by omega) (.cons sh_0 (Nat.zero_le _) .nil)))).tup.mono (by omega) (by omega)
  | .call2 x a b, ho, hm, hs => by
    have h1 := sh_ex a ho.1 hm.2.1 hs.1
    have h2 := sh_ex b ho.2 hm.2.2 hs.2
    have m1 := sB_mono (Nat.le_max_left a.dep b.dep)
    have m2 := sB_mono (Nat.le_max_right a.dep b.dep)
    show ShowOk _ (sB (1 + max a.dep b.dep)) (2 * (1 + max a.dep b.dep) + 3)
    rw [sB_one]
    exact (AllShow.cons (dp := 2 * max a.dep b.dep + 4) (sh_hd (z := "call") (by simp [HEADS])) (Nat.zero_le _) (.cons (sh_nm hm.1) (Nat.zero_le _) (.cons (AllShow.cons (dp := 2 * max a.dep b.dep + 3) h1 (by omega) (.cons h2 (by omega) .nil)).tup (by omega) (.cons sh_0 (Nat.zero_le _) .nil)))).tup.mono (by omega) (by omega)
  | .iter x c a, ho, hm, hs => by
    have h1 := sh_ex a ho.2 hm.2 hs
    have hc := ho.1
    show ShowOk _ (sB (1 + a.dep)) (2 * (1 + a.dep) + 3)
    rw [sB_one]
    exact (AllShow.cons (dp := 2 * a.dep + 4) (sh_hd (z := "iterate") (by simp [HEADS])) (Nat.zero_le _) (.cons (sh_nm hm.1) (Nat.zero_le _) (.cons (sh_int (i := (c : Int)) (by omega)) (Nat.zero_le _) (.cons h1 (by omega) (.cons sh_0 (Nat.zero_le _) .nil))))).tup.mono (by omega) (by omega)
  | .pow a k, ho, hm, hs => by
    have h1 := sh_ex a ho.2 hm hs
    have hc := ho.1
    show ShowOk _ (sB (1 + a.dep)) (2 * (1 + a.dep) + 3)
    rw [sB_one]
    exact (AllShow.cons (dp := 2 * a.dep + 4) (sh_hd (z := "power") (by simp [HEADS])) (Nat.zero_le _) (.cons h1 (by omega) (.cons (sh_int (i := k) (by omega)) (Nat.zero_le _) (.cons sh_0 (Nat.zero_le _) .nil)))).tup.mono (by omega) (by omega)
  | .not a, ho, hm, hs => by
    have h1 := sh_ex a ho hm hs
    show ShowOk _ (sB (1 + a.dep)) (2 * (1 + a.dep) + 3)
    rw [sB_one]
    exact (AllShow.cons (dp := 2 * a.dep + 4) (sh_hd (z := "not") (by simp [HEADS])) (Nat.zero_le _) (.cons h1 (by omega) (.cons sh_0 (Nat.zero_le _) .nil))).tup.mono (by omega) (by omega)
  | .ite c a b, ho, hm, hs => by
    have h0 := sh_ex c ho.1 hm.1 hs.1
    have h1 := sh_ex a ho.2.1 hm.2.1 hs.2.1
    have h2 := sh_ex b ho.2.2 hm.2.2 hs.2.2
    have m0 := sB_mono (Nat.le_max_left c.dep (max a.dep b.dep))
    have m1 := sB_mono (Nat.le_trans (Nat.le_max_left a.dep b.dep) (Nat.le_max_right c.dep _))
    have m2 := sB_mono (Nat.le_trans (Nat.le_max_right a.dep b.dep) (Nat.le_max_right c.dep _))
    show ShowOk _ (sB (1 + max c.dep (max a.dep b.dep))) (2 * (1 + max c.dep (max a.dep b.dep)) + 3)
    rw [sB_one]
    exact (AllShow.cons (dp := 2 * max c.dep (max a.dep b.dep) + 4) (sh_hd (z := "if") (by simp [HEADS])) (Nat.zero_le _) (.cons h0 (by omega) (.cons h1 (by omega) (.cons h2 (by omega) (.cons sh_0 (Nat.zero_le _) .nil))))).tup.mono (by omega) (by omega)
  | .lett x a b, ho, hm, hs => by
    have h1 := sh_ex a ho.1 hm.2.1 hs.1
    have h2 := sh_ex b ho.2 hm.2.2 hs.2
    have m1 := sB_mono (Nat.le_max_left a.dep b.dep)
    have m2 := sB_mono (Nat.le_max_right a.dep b.dep)
    show ShowOk _ (sB (1 + max a.dep b.dep)) (2 * (1 + max a.dep b.dep) + 3)
    rw [sB_one]
    exact (AllShow.cons (dp := 2 * max a.dep b.dep + 4) (sh_hd (z := "let") (by simp [HEADS])) (Nat.zero_le _) (.cons (sh_nm hm.1) (Nat.zero_le _) (.cons h1 (by omega) (.cons h2 (by omega) (.cons sh_0 (Nat.zero_le _) .nil))))).tup.mono (by omega) (by omega)
  | .op o a b, ho, hm, hs => by
    have h1 := sh_ex a ho.1 hm.1 hs.1
    have h2 := sh_ex b ho.2 hm.2 hs.2
    have m1 := sB_mono (Nat.le_max_left a.dep b.dep)
    have m2 := sB_mono (Nat.le_max_right a.dep b.dep)
    show ShowOk _ (sB (1 + max a.dep b.dep)) (2 * (1 + max a.dep b.dep) + 3)
    rw [sB_one]
    exact (AllShow.cons (dp := 2 * max a.dep b.dep + 4) (sh_op o) (Nat.zero_le _) (.cons h1 (by omega) (.cons h2 (by omega) (.cons sh_0 (Nat.zero_le _) .nil)))).tup.mono (by omega) (by omega)
theorem sh_ex4 {e : Ex} (ho : e.ok) (hm : e.nm) (hs : e.sm) (hd : e.dep ≤ 4) : ShowOk e.d0 60500 11 := (sh_ex e ho hm hs).mono (Nat.le_trans (sB_mono hd) (by decide)) (by omega)
theorem sh_opt {t : Option Un} (h1 : oOk t) (h2 : oNm t) (h3 : oSm t) : ShowOk (oD0 t) 200 2 := by
  cases t with
  | none => exact ShowOk.none.mono (by decide) (by decide)
  | some u => exact sh_utup (oUW h1 h2 h3)
theorem sh_pm : ∀ ps : List Pm, (∀ p ∈ ps, oOk p.2) → (∀ p ∈ ps, p.1 ∈ NMS ∧ oNm p.2) → (∀ p ∈ ps, oSm p.2) → AllShow (pmD0 ps) (ps.length * 300) 3
  | [], _, _, _ => .nil
  | p :: r, h1, h2, h3 => by
    have ih := sh_pm r (fun q hq => h1 q (List.mem_cons_of_mem _ hq)) (fun q hq => h2 q (List.mem_cons_of_mem _ hq)) (fun q hq => h3 q (List.mem_cons_of_mem _ hq))
    have hh := (AllShow.cons (dp := 2) (sh_nm (h2 p List.mem_cons_self).1) (Nat.zero_le _) (.cons (sh_opt (h1 p List.mem_cons_self) (h2 p List.mem_cons_self).2 (h3 p List.mem_cons_self)) (Nat.le_refl _) .nil)).tup
    refine (AllShow.cons hh (Nat.le_refl _) ih).mono ?_ (by decide)
    show _ ≤ (r.length + 1) * 300
    rw [Nat.succ_mul]
    omega
theorem sh_ln {l : Ln} (h1 : l.ok) (h2 : l.nm) (h3 : l.sm) : ShowOk l.d0 62000 12 := by
  cases l with
  | base => exact (AllShow.cons (dp := 0) (sh_hd (z := "base") (by simp [HEADS])) (Nat.zero_le _) (.cons (sh_hd (z := "m") (by simp [HEADS])) (Nat.zero_le _) (.cons sh_0 (Nat.zero_le _) .nil))).tup.mono (by decide) (by decide)
  | unit u =>
    have hu := sh_utup (u := u) ⟨h1, h2, h3⟩
    have hn := (AllShow.cons (dp := 0) (sh_int (i := 25) (by decide)) (Nat.zero_le 0) (.cons (sh_int (i := 10) (by decide)) (Nat.zero_le 0) .nil)).tup
    exact (AllShow.cons (dp := 2) (sh_hd (z := "unit") (by simp [HEADS])) (Nat.zero_le _) (.cons (sh_hd (z := "km") (by simp [HEADS])) (Nat.zero_le _) (.cons hn (by decide) (.cons hu (by decide) (.cons sh_0 (Nat.zero_le _) .nil))))).tup.mono (by decide) (by decide)
  | fn ps t e =>
    have he := sh_ex4 h1.2.2.1 h2.2.2 h3.2.2.2.1 h3.2.2.2.2
    have hp := (sh_pm ps h1.1 h2.1 h3.2.1).tup
    have hl : ps.length * 300 ≤ 600 := Nat.mul_le_mul_right 300 h3.1
    exact (AllShow.cons (dp := 11) (sh_hd (z := "fun") (by simp [HEADS])) (Nat.zero_le _) (.cons (sh_hd (z := "f") (by simp [HEADS])) (Nat.zero_le _) (.cons hp (by decide) (.cons (sh_opt h1.2.1 h2.2.1 h3.2.2.1) (by decide) (.cons he (by decide) (.cons sh_0 (Nat.zero_le _) .nil)))))).tup.mono (by omega) (by decide)
  | shw e t =>
    have he := sh_ex4 h1.1 h2.1 h3.1 h3.2.2
    exact (AllShow.cons (dp := 11) (sh_hd (z := "show") (by simp [HEADS])) (Nat.zero_le _) (.cons he (by decide) (.cons (sh_opt h1.2.2 h2.2 h3.2.1) (by decide) (.cons sh_0 (Nat.zero_le _) .nil)))).tup.mono (by decide) (by decide)
theorem sh_lns : ∀ ls : List Ln, (∀ l ∈ ls, l.ok ∧ l.nm ∧ l.sm) → AllShow (ls.map Ln.d0) (ls.length * 62001) 12
  | [], _ => .nil
  | l :: r, h => by
    obtain ⟨a, b, c⟩ := h l List.mem_cons_self
    have ih := sh_lns r fun q hq => h q (List.mem_cons_of_mem _ hq)
    refine (AllShow.cons (sh_ln a b c) (Nat.le_refl _) ih).mono ?_ (by decide)
    show _ ≤ (r.length + 1) * 62001
    rw [Nat.succ_mul]
    omega
end Al
namespace Al
open PySem PySem.Spec PyProof.Rows L2 NdefX PySem.W
/-! ### k01: for the law's def -/
theorem ln_at (N : List Nat) (a : Nat) : (lnD N a).2 ≤ a + 1200 := by
  have hc : cD 4 = 1089 := by decide +kernel
  have hb := brk_at N (a + 1)
  have hd := drw_at N 4 (a + 1)
  have ho := opt_at N (drw N 4 (a + 1)).2
  have hp := pmL_at N ((["x", "y"] : List Str).take (tkN N 3 (a + 1))) (a + 2)
  have hpl : ((["x", "y"] : List Str).take (tkN N 3 (a + 1))).length ≤ 2 := by rw [List.length_take]; show min _ 2 ≤ 2; omega
  have ho2 := opt_at N (pmL N ((["x", "y"] : List Str).take (tkN N 3 (a + 1))) (a + 2)).2
  have hd2 := drw_at N 4 (opt N (pmL N ((["x", "y"] : List Str).take (tkN N 3 (a + 1))) (a + 2)).2).2
  unfold lnD
  dsimp only
  split
  · dsimp only; omega
  · split
    · dsimp only; omega
    · split
      · dsimp only; omega
      · dsimp only; omega
/-- lines drawn one behind the other -/
def lnQ (N : List Nat) : Nat → Nat → List Ln × Nat
  | 0, a => ([], a)
  | n + 1, a => ((lnQ N n a).1 ++ [(lnD N (lnQ N n a).2).1], (lnD N (lnQ N n a).2).2)
theorem lnQ_at (N : List Nat) : ∀ n a, (lnQ N n a).2 ≤ a + n * 1200
  | 0, a => by show a ≤ a + 0 * 1200; omega
  | n + 1, a => by
    have h1 := lnQ_at N n a
    have h2 := ln_at N (lnQ N n a).2
    show (lnD N (lnQ N n a).2).2 ≤ a + (n + 1) * 1200
    omega
theorem lnQ_len (N : List Nat) : ∀ n a, (lnQ N n a).1.length = n
  | 0, a => rfl
  | n + 1, a => by
    show ((lnQ N n a).1 ++ [_]).length = n + 1
    rw [List.length_append, lnQ_len N n a]
    rfl
theorem lnQ_ok (N : List Nat) : ∀ n a, ∀ l ∈ (lnQ N n a).1, l.ok ∧ l.nm ∧ l.pxy ∧ l.sm
  | 0, a, l, h => by cases h
  | n + 1, a, l, h => by
    rcases List.mem_append.mp h with h | h
    · exact lnQ_ok N n a l h
    · rw [List.mem_singleton.mp h]
      obtain ⟨h1, h2, h3⟩ := lnD_ok N (lnQ N n a).2
      exact ⟨h1, h2, h3, lnD_sm N _⟩
/-! the text of all lines -/
def lnsT (ls : List Ln) : List (List Nat) := ls.map fun l => ren l.pcs
theorem pg_join : ∀ ls : List Ln, TL.joinL (lS "\n ") (lnsT ls) = ren (pgPc ls)
  | [] => rfl
  | [l] => rfl
  | l :: y :: r => by
    have ih := pg_join (y :: r)
    show ren l.pcs ++ (lS "\n " ++ TL.joinL (lS "\n ") (lnsT (y :: r))) = ren (l.pcs ++ .nl :: .sp :: pgPc (y :: r))
    rw [ih, ren_app]
    rfl
theorem lnsT_len {ls : List Ln} (h : ∀ l ∈ ls, l.ok ∧ l.nm ∧ l.pxy ∧ l.sm) : ∀ t ∈ lnsT ls, t.length ≤ 4000 := by
  intro t ht
  obtain ⟨l, hl, rfl⟩ := List.mem_map.mp ht
  obtain ⟨h1, h2, h3, h4⟩ := h l hl
  exact ln_len h1 h2 h4
theorem tks_pos : ∀ (l : Ln) (r : List Ln), 0 < (tks 0 (pgPc (l :: r))).length := by
  intro l r
  rw [pg_tks, List.length_append]
  have : 0 < (tks 0 l.pcs).length := by
    cases l with
    | base => exact Nat.succ_pos _
    | unit u => exact Nat.succ_pos _
    | fn ps t e => exact Nat.succ_pos _
    | shw e t => exact Nat.succ_pos _
  omega
theorem split_at {α : Type} : ∀ (l : List α) (i : Nat) (x : α), l[i]? = some x → ∃ A B, l = A ++ x :: B
  | [], i, x, h => by simp at h
  | y :: l, 0, x, h => by
    simp at h; subst h; exact ⟨[], l, rfl⟩
  | y :: l, i + 1, x, h => by
    obtain ⟨A, B, e⟩ := split_at l i x (by simpa using h)
    exact ⟨y :: A, B, by rw [e]; rfl⟩
theorem r_iteSY3 {a : Str} {A B : Prop} [Decidable (a = a)] (h : B) : if (!decide (a = a)) = true then A else B := by
  rw [decide_eq_true rfl]
  exact h
theorem r_iteSN3 {a b : Str} {A B : Prop} [Decidable (a = b)] (hn : a ≠ b) (h : A) : if (!decide (a = b)) = true then A else B := by
  rw [decide_eq_false hn]
  exact h
theorem ff_same {H H1 H3 : Hp} {f : Addr} (hfn : H f = none) (s1 : Same H H1) (f3 : Ff f H1 H3) : Same H H3 := fun b u h => by
  have hb : b ≠ f := fun e => by rw [e, hfn] at h; cases h
  exact f3.fr b u hb hb (s1 b u h)
theorem lns_show {ls : List Ln} (h : ∀ l ∈ ls, l.ok ∧ l.nm ∧ l.pxy ∧ l.sm) (hl : ls.length ≤ 4) : ShowOk (.list (ls.map Ln.d0)) 250000 13 := by
  have h1 := (sh_lns ls fun l hq => ⟨(h l hq).1, (h l hq).2.1, (h l hq).2.2.2⟩).lst
  exact h1.mono (by omega) (by decide)
theorem pgT_len : ∀ (ls : List Ln) (i : Nat), (pgT ls i).length = ls.length
  | [], _ => rfl
  | l :: r, i => congrArg (· + 1) (pgT_len r _)
theorem lnsT_pos (ls : List Ln) (h : ls ≠ []) : 0 < (ren (pgPc ls)).length ∧ 0 < (tks 0 (pgPc ls)).length := by
  cases ls with
  | nil => exact absurd rfl h
  | cons l r =>
    have h1 := tks_pos l r
    refine ⟨?_, h1⟩
    rcases Nat.eq_zero_or_pos (ren (pgPc (l :: r))).length with h0 | h0
    · have h2 : (ren (pgPc (l :: r))) = [] := List.length_eq_zero_iff.mp h0
      have hf : ∀ (l : Ln) , ∃ p ps, l.pcs = p :: ps ∧ p.w ≠ [] := by
        intro l
        cases l <;> exact ⟨_, _, rfl, by decide +kernel⟩
      obtain ⟨p, ps, e1, e2⟩ := hf l
      have e3 : ∃ qs, pgPc (l :: r) = p :: qs := by
        cases r with
        | nil => exact ⟨ps, e1⟩
        | cons y r => exact ⟨ps ++ .nl :: .sp :: pgPc (y :: r), by show l.pcs ++ _ = _; rw [e1]; rfl⟩
      obtain ⟨qs, e3⟩ := e3
      rw [e3] at h2
      have h2 : p.w ++ ren qs = [] := h2
      exact absurd (List.append_eq_nil_iff.mp h2).1 e2
    · exact h0
/-! comparisons of data -/
theorem r_neD {K : Frag} {H : Hp} {x y : V} {d : PyData} {Q : VK} (h1 : Dp K H x d) (h2 : Dp K H y d) (hs : SeqAt.shaped d = true) (he : PyData.eqv d d = true) (q : Q (.bl false) H) : rNeD K x y H Q := ⟨d, d, h1, h2, hs, hs, by rw [he]; exact q⟩
theorem r_eqD {K : Frag} {H : Hp} {x y : V} {d : PyData} {Q : VK} (h1 : Dp K H x d) (h2 : Dp K H y d) (hs : SeqAt.shaped d = true) (he : PyData.eqv d d = true) (q : Q (.bl true) H) : rEqD K x y H Q := ⟨d, d, h1, h2, hs, hs, by rw [he]; exact q⟩
theorem op_neDk {X : Cx} {K : Frag} (hK : X.K = K) (hu : X.A.units + 64 < cLine) : OpR X (compareOp .NotEq) (rNeD K) := by
  subst hK
  exact op_neD hu
theorem op_eqDk {X : Cx} {K : Frag} (hK : X.K = K) (hu : X.A.units + 64 < cLine) : OpR X (compareOp .Eq) (rEqD K) := by
  subst hK
  exact op_eqD hu
theorem op_notInDk {X : Cx} {K : Frag} (hK : X.K = K) (hu : X.A.units + 65 < cLine) : OpR X (compareOp .NotIn) (rNotInD K) := by
  subst hK
  exact op_notInD hu
def malD (i : Nat) : PyData := .list [.str "malformed", .int (i : Int)]
def overD : PyData := .list [.str "oversized", .str "depth"]
def showD : PyData := .tuple [.str "show", .tuple [.str "bool", .bool true], .none, .int 0]
def readD : PyData := .list [.str "read", .list [showD]]
theorem mal_sh (i : Nat) : SeqAt.shaped (malD i) = true := by
  have h : PyData.strOk "malformed" = true := by decide +kernel
  simp [malD, SeqAt.shaped, PyData.canLay0, PyData.canLayAll0, PyData.depth, PyData.depthAll, h]
theorem mal_eq (i : Nat) : PyData.eqv (malD i) (malD i) = true := SeqAt.eqv_refl _ (SeqAt.canLay_of_shaped (mal_sh i))
theorem over_eq : PyData.eqv overD overD = true := by decide +kernel
theorem read_eq : PyData.eqv readD readD = true := by decide +kernel
theorem over_sh : SeqAt.shaped overD = true := by decide +kernel
theorem read_sh : SeqAt.shaped readD = true := by decide +kernel
def startsD : List PyData := [.str "base", .str "unit", .str "fun", .str "show"]
def tkStr : Tk → Bool
  | .word z => PyData.strOk z
  | .name z => PyData.strOk z
  | .num _ _ => true
  | .sign z => PyData.strOk z
theorem tok_sh {t : Tk} (h : tkStr t = true) : SeqAt.shaped t.val = true := by
  cases t with
  | num a b => simp [Tk.val, SeqAt.shaped, PyData.canLay0, PyData.canLayAll0, PyData.depth, PyData.depthAll]
  | word z =>
    have h : PyData.strOk z = true := h
    simp [Tk.val, SeqAt.shaped, PyData.canLay0, PyData.canLayAll0, PyData.depth, PyData.depthAll, h]
  | name z =>
    have h : PyData.strOk z = true := h
    simp [Tk.val, SeqAt.shaped, PyData.canLay0, PyData.canLayAll0, PyData.depth, PyData.depthAll, h]
  | sign z =>
    have h : PyData.strOk z = true := h
    simp [Tk.val, SeqAt.shaped, PyData.canLay0, PyData.canLayAll0, PyData.depth, PyData.depthAll, h]
theorem strOk_of {z : Str} (h : ∀ c ∈ lS z, c < 0x110000) : PyData.strOk z = true := by
  show (z.cps.all fun c => decide (c < 0x110000)) = true
  rw [← Array.all_toList, List.all_eq_true]
  exact fun c hc => decide_eq_true (h c hc)
theorem inName_lt {c : Nat} (h : inName c = true) : c < 0x110000 := by
  simp [inName, isLetter, isDigit] at h
  omega
theorem name_str {z : Str} (h : nameOk z = true) : PyData.strOk z = true := by
  refine strOk_of fun c hc => ?_
  unfold nameOk at h
  rw [Bool.and_eq_true] at h
  have h := h.1
  cases hq : lS z with
  | nil => rw [hq] at hc; cases hc
  | cons x w =>
    rw [hq] at h hc
    have h : (isLetter x && ((x :: w).all inName && decide ((x :: w).length ≤ 16))) = true := h
    rw [Bool.and_eq_true, Bool.and_eq_true] at h
    exact inName_lt (List.all_eq_true.mp h.2.1 c hc)
theorem tks_str : ∀ (ps : List Pc) (x : Option Nat) (i : Nat), LexOk ps x → ∀ t ∈ tks i ps, tkStr t.1 = true
  | [], _, _, _, t, h => by cases h
  | p :: ps, x, i, hl, t, h => by
    obtain ⟨hg, _, hl⟩ := hl
    have ih := tks_str ps x (i + p.w.length) hl
    cases p with
    | sp => exact ih t h
    | nl => exact ih t h
    | word z =>
      rcases List.mem_cons.mp h with rfl | h
      · exact (by decide +kernel : ∀ z ∈ RES, PyData.strOk z = true) z hg.1
      · exact ih t h
    | name z =>
      rcases List.mem_cons.mp h with rfl | h
      · exact name_str hg.1
      · exact ih t h
    | num w a b =>
      rcases List.mem_cons.mp h with rfl | h
      · rfl
      · exact ih t h
    | sign k =>
      rcases List.mem_cons.mp h with rfl | h
      · exact (by decide +kernel : ∀ z ∈ SIG, PyData.strOk z = true) _ (getD_mem (show k < SIG.length from hg))
      · exact ih t h
theorem tok_starts {t : Tk} (h : t ∈ starts) : startsD.any (fun z => PyData.eqv z t.val) = true := by
  have : ∀ t ∈ starts, startsD.any (fun z => PyData.eqv z t.val) = true := by decide +kernel
  exact this t h
/-! deep parentheses -/
theorem timesS_rep (c : Str) (k : Nat) (hc : lS c = [k]) (n : Nat) : timesS c n = uS (List.replicate n k) := by
  have : lS (timesS c n) = List.replicate n k := by
    show ((List.replicate n (lS c)).flatten).toArray.toList = _
    rw [hc]
    induction n with
    | zero => rfl
    | succ n ih =>
      rw [List.replicate_succ, List.replicate_succ, List.flatten_cons]
      exact congrArg (k :: ·) ih
  rw [← this]
  rfl
theorem ren_rep (p : Pc) (k : Nat) (hp : p.w = [k]) : ∀ n, ren (List.replicate n p) = List.replicate n k
  | 0 => rfl
  | n + 1 => by
    rw [List.replicate_succ, List.replicate_succ]
    show p.w ++ ren (List.replicate n p) = _
    rw [hp, ren_rep p k hp n]
    rfl
theorem dp_ren (d : Nat) : ren (dpPc d) = (((lS "show " ++ List.replicate d 40) ++ lS "true") ++ List.replicate d 41) ++ lS ";" := by
  show lS "show " ++ ren (List.replicate d LP ++ .word "true" :: (List.replicate d RP ++ [.sign 10])) = _
  rw [ren_app, show ren (.word "true" :: (List.replicate d RP ++ [.sign 10])) = lS "true" ++ ren (List.replicate d RP ++ [.sign 10]) from rfl, ren_app, ren_rep LP 40 rfl, ren_rep RP 41 rfl]
  simp only [List.append_assoc]
  rfl
end Al
namespace Al
open PySem PySem.Spec PyProof.Rows L2 NdefX PySem.W
local macro_rules | `(tactic| walk_at "rd1") => `(tactic| with_reducible first
  | (show tVar _ _ _ _; refine r_var (by with_unfolding_all rfl) ?_) | refine r_c ?_ | refine r_op ?_ | refine r_I0 ?_ | refine r_un ?_ | refine r_U ?_
  | (show rI _ _ _ _ _ _; refine r_I (by with_unfolding_all first | exact ⟨by decide, by decide⟩ | (show (0 : Int) < _; decide)) ?_)
  | refine r_eqI ?_ | refine r_neI ?_ | refine r_eqS ?_ | refine r_neS ?_ | refine r_eqB ?_ | refine r_neB ?_ | refine r_chain ?_
  | refine r_test ?_ | refine r_B ?_ | refine r_bl ?_ | refine r_int ?_ | refine r_and ?_ | refine r_or ?_ | refine r_not ?_ | refine r_andV ?_ | refine r_orV ?_ | refine r_notV ?_
  | refine r_if ?_ | refine r_nil ?_ | refine r_cons ?_ | refine r_cb ?_ | refine r_call ?_ | refine r_callS ?_ | refine r_tup ?_ | refine r_lst ?_ | refine r_seq ?_ | refine r_next ?_ | refine r_asg ?_
  | refine r_name ?_ | refine r_ifS ?_ | refine r_ret ?_ | refine r_retN ?_ | refine r_drop ?_ | refine r_brk ?_ | refine r_ct ?_ | refine r_sl ?_ | refine r_part ?_ | refine r_nopart ?_
  | refine r_bm ?_ | refine r_bm0 ?_ | refine r_raiseX ?_ | refine r_mkO ?_ | refine iteF ?_ | refine iteT ?_ | refine r_int1 ?_ | refine r_int1b ?_ | (show _ ≤ sizeLine ∧ _; refine r_sz (by with_unfolding_all first | omega | (simp only [List.length_cons, List.length_nil]; omega)) ?_)
  | (show ∃ _, _; refine ⟨_, rfl, ?_⟩) | (show ∃ _, _; refine ⟨_, _, rfl, rfl, ?_⟩) | (show ∃ _, _; refine ⟨_, _, rfl, ?_⟩))
local macro_rules | `(tactic| walk_at "rd") => `(tactic| repeat (walk_at "rd1"))
local macro_rules | `(tactic| walk_at "rd2") => `(tactic| with_reducible first
  | (show tFld _ _ _ _ _ _; refine r_fldI (by with_unfolding_all rfl) (by with_unfolding_all assumption) (by with_unfolding_all assumption) (by with_unfolding_all assumption) (by with_unfolding_all rfl) ?_)
  | (show tMetS _ _ _ _ _ _ _ _ _; refine r_rm (by with_unfolding_all assumption) (by with_unfolding_all rfl) (by decide) ?_)
  | refine r_sfl ?_ | refine iteNF ?_ | refine iteNT ?_ | refine r_makS ?_)
local macro_rules | `(tactic| walk_at "rp") => `(tactic| repeat first | walk_at "rd1" | walk_at "rd2")
local macro_rules | `(tactic| walk_at "rq1") => `(tactic| with_reducible first | refine r_rng1 ?_ | refine r_rng2 ?_ | refine r_forL ?_ | refine r_forT ?_ | refine r_dget ?_ | refine r_pnil ?_ | refine r_pcons ?_ | refine r_lcL ?_ | refine r_lcT ?_ | refine r_lcR ?_ | refine r_yes ?_ | refine r_disp ?_)
local macro_rules | `(tactic| walk_at "rq") => `(tactic| repeat first | walk_at "rd1" | walk_at "rd2" | walk_at "rq1")
local macro_rules | `(tactic| walk_at "slen") => `(tactic| (simp only [sizeLine_eq, len_uS, List.length_append, ll_0, lt_0, ll_1, lt_1, ll_2, lt_2, ll_3, lt_3, ll_4, lt_4, ll_5, lt_5, ll_6, lt_6, ll_7, lt_7, ll_8, lt_8, ll_9, lt_9, ll_10, lt_10, ll_11, lt_11, ll_12, lt_12, ll_13, lt_13, ll_14, lt_14, ll_15, lt_15, ll_16, lt_16, ll_17, lt_17, ll_18, lt_18, ll_19, lt_19, ll_20, lt_20, ll_21, lt_21, ll_22, lt_22, ll_23, lt_23, ll_24, lt_24, ll_25, lt_25, ll_26, lt_26, ll_27, lt_27, ll_28, lt_28, ll_29, lt_29, ll_30, lt_30, ll_31, lt_31, ll_32, lt_32, ll_33, lt_33, ll_34, lt_34, ll_35, lt_35, ll_36, lt_36, ll_37, lt_37, ll_38, lt_38, ll_39, lt_39, ll_40, lt_40, ll_41, lt_41, ll_42, lt_42, ll_43, lt_43, ll_44, lt_44, ll_45, lt_45, ll_46, lt_46, ll_47, lt_47, ll_48, lt_48, ll_49, lt_49, ll_50, lt_50, ll_51, lt_51, ll_52, lt_52, ll_53, lt_53, ll_54, lt_54, ll_55, lt_55, ll_56, lt_56, ll_57, lt_57, ll_58, lt_58, ll_59, lt_59, ll_60, lt_60, ll_61, lt_61, ll_62, lt_62, ll_63, lt_63, ll_64, lt_64]; with_unfolding_all omega))
local macro_rules | `(tactic| walk_at "rt1") => `(tactic| with_reducible (show _ + _ ≤ sizeLine ∧ _; refine ⟨by walk_at "slen", ?_⟩; first | rw [uS_app] | rw [app_su] | rw [app_us] | skip))
local macro_rules | `(tactic| walk_at "rs1") => `(tactic| with_reducible first | refine r_iteSY ?_ | refine r_iteN1 ?_ | refine r_iteN2 ?_ | refine r_iteN3 ?_ | refine r_iteN4 ?_ | (show V.non = V.non ∧ _; refine ⟨rfl, ?_⟩) | refine r_iteSN (by with_unfolding_all first | assumption | decide +kernel) ?_)
local macro_rules | `(tactic| walk_at "rt") => `(tactic| repeat first | walk_at "rt1" | walk_at "rs1" | walk_at "rd1" | walk_at "rd2" | walk_at "rq1")
local macro_rules | `(tactic| walk_at "rz") => `(tactic| repeat (with_reducible first | refine iteF ?_ | refine iteT ?_ | refine iteNF ?_ | refine iteNT ?_ | refine r_bl ?_ | (show ∃ _, _; refine ⟨_, rfl, ?_⟩) | refine r_iteSY ?_ | refine r_iteSN (by with_unfolding_all first | assumption | decide +kernel) ?_))
local macro_rules | `(tactic| walk_at "rs3") => `(tactic| with_reducible first | refine r_iteSY3 ?_ | refine r_iteSN3 (by with_unfolding_all first | assumption | decide +kernel) ?_)
local macro_rules | `(tactic| walk_at "rk") => `(tactic| repeat first | walk_at "rs3" | walk_at "rt1" | walk_at "rs1" | walk_at "rd1" | walk_at "rd2" | walk_at "rq1")

def spLaw (K : Frag) : Sp := fun vs H Q _ => ∃ (a : Addr) (ns : List Int), vs = [.ref a] ∧ SqL K H a (ns.map V.int) ∧ ns.length ≤ 63 ∧ ∀ H', Q (.bl true) H'
section
variable {P : Program} {w : World} {K : Frag} {mg : Str → Option Value} {base : Heap}
abbrev s_law : Stmt := top 54
theorem sc_law : FnScope ["_law_script", "_law_feed_here", "_law_lines", "_law_k", "_law_text_here", "_law_line_here", "_law_found", "_law_places", "_law_setting", "_law_at", "_law_starts", "_law_deep", "_law_due"] ["_law_script"] (defScope s_law) := ⟨rfl, rfl, rfl, by decide +kernel, rfl, by decide +kernel, by decide +kernel⟩
theorem fnC_law {f : Addr} {fd : FuncData} {DM DO : Addr} (FL : FnP K "law" s_law f fd) (B : Bl mg)
    (G_law_cell : Cal P w K mg base 1 "_law_cell" ["_law_script", "_law_k"] (spLawCell K)) (G_law_feed : Cal P w K mg base 2 "_law_feed" ["_law_cell_here", "_law_many"] spFeed)
    (G_law_take : Cal P w K mg base 1 "_law_take" ["_law_feed_here", "_law_limit"] spTake) (G_law_line : Cal P w K mg base 9 "_law_line" ["_law_feed_here"] spLn)
    (G_law_shown : Cal P w K mg base 8 "_law_shown" ["_law_line_here"] spShown) (G_law_bare : Cal P w K mg base 14 "_law_bare" ["_law_tree"] (spBare 13))
    (G_law_marks : Cal P w K mg base 14 "_law_marks" ["_law_text_here", "_law_tree"] (spMarks 13)) (G_law_read : Cal P w K mg base 205 "_law_read" ["_law_text_here"] spLawRead)
    (G_tokens : Cal P w K mg base 5 "tokens" ["text"] (spTokens DM DO)) : FnC P w K mg base (L2N.CX P w) f fd ["_law_script"] (spLaw K) := by
  refine fnC_of (k := 206) ⟨rfl, by decide, by decide⟩ FL sc_law (fun vs H Q E h => ?_) (fun cdv s H vs Q E hr h => ?_)
  · obtain ⟨a, ns, rfl, _⟩ := h
    rfl
  · obtain ⟨a, ns, rfl, hS, hlen, k⟩ := h
    have tk : L2N.Takes (cxOf (L2N.CX P w) P w K mg base ["_law_script", "_law_feed_here", "_law_lines", "_law_k", "_law_text_here", "_law_line_here", "_law_found", "_law_places", "_law_setting", "_law_at", "_law_starts", "_law_deep", "_law_due"] "law" (defScope s_law) f cdv callerA [] s H E) (fun cls d _ H => E cls d H) := L2N.takes_of rfl rfl rfl rfl
    have hg : (callerA.deeper (envOfC "law" (defScope s_law) s.heap.objs.size f cdv)).guards = some [] := rfl
    have hu110 : (callerA.deeper (envOfC "law" (defScope s_law) s.heap.objs.size f cdv)).units + 110 < cLine := by have := hr.un; omega
    have hu64 : (callerA.deeper (envOfC "law" (defScope s_law) s.heap.objs.size f cdv)).units + 64 < cLine := by omega
    have hu65 : (callerA.deeper (envOfC "law" (defScope s_law) s.heap.objs.size f cdv)).units + 65 < cLine := by omega
    refine ⟨_, (pss_cons (ps_set (i := 1) sc_law.nd rfl (Or.inr rfl) (pe_cal G_law_feed (hr.mono (by first | decide | omega)) tk (pa_cons (pe_cal G_law_cell (hr.mono (by first | decide | omega)) tk (pa_cons (pv 0) (pa_cons pe_int pa_nil))) (pa_cons pe_int pa_nil))))
      (pss_cons (ps_setLc (i := 2) (own := [("_law_k", 3)]) rfl sc_law.nd rfl rfl (sw_true rfl rfl rfl (by decide +kernel)) (pi_range1 (by rfl) B.range (pa_cons (pe_op op_add pe_int (pe_cal G_law_take (hr.mono (by first | decide | omega)) tk (pa_cons (pv 1) (pa_cons pe_int pa_nil)))) pa_nil)) (blkOk_by (N := ["_law_script", "_law_feed_here", "_law_lines", "_law_k", "_law_text_here", "_law_line_here", "_law_found", "_law_places", "_law_setting", "_law_at", "_law_starts", "_law_deep", "_law_due"]) (sc := defScope s_law) (by decide +kernel)) (fun _ _ _ _ _ => (pg_name (i := 3) sc_law.nd rfl (Or.inl rfl))) (fun _ _ _ _ _ => pts_nil) (fun _ _ _ _ _ => (pe_calN G_law_line (hr.mono (by first | decide | omega)) (pa_cons (pv 1) pa_nil))))
      (pss_cons (ps_set (i := 4) sc_law.nd rfl (Or.inr rfl) (pe_bm PySem.F.plainAttrs_str PySem.F.slot_str_join PySem.F.type_str_join mt_join pe_str (pa_cons (pe_lc (own := [("_law_line_here", 5)]) rfl sc_law.nd (pi_list (pv 2)) (blkOk_by (N := ["_law_script", "_law_feed_here", "_law_lines", "_law_k", "_law_text_here", "_law_line_here", "_law_found", "_law_places", "_law_setting", "_law_at", "_law_starts", "_law_deep", "_law_due"]) (sc := defScope s_law) (by decide +kernel)) (fun _ _ _ _ _ => (pg_name (i := 5) sc_law.nd rfl (Or.inl rfl))) (fun _ _ _ _ _ => pts_nil) (fun _ _ _ _ _ => (pe_calN G_law_shown (hr.mono (by first | decide | omega)) (pa_cons (pv 5) pa_nil)))) pa_nil)))
      (pss_cons (ps_if (pt_cmpR op_gt (pe_callB call_len_str (by rfl) B.len PySem.boot_len (pa_cons (pv 4) pa_nil)) pe_int (nomark _))
      (pss_one (ps_ret pe_bl))
      pss_nil)
      (pss_cons (ps_set (i := 6) sc_law.nd rfl (Or.inl rfl) (pe_cal G_law_read (hr.mono (by first | decide | omega)) tk (pa_cons (pv 4) pa_nil)))
      (pss_cons (ps_if (PW.pt (pw_or (pt_cmpR op_ne (pe_ix ix_list (pv 6) pe_int (fun _ _ => rfl)) pe_str (nomark _)) (pw_or1 (pt_cmpR op_ne (pe_callB (call_reprD hg hu110) (by rfl) B.repr (by decide +kernel) (pa_cons (pe_lc (own := [("_law_line_here", 5)]) rfl sc_law.nd (pi_list (pe_ix ix_list (pv 6) pe_int (fun _ _ => rfl))) (blkOk_by (N := ["_law_script", "_law_feed_here", "_law_lines", "_law_k", "_law_text_here", "_law_line_here", "_law_found", "_law_places", "_law_setting", "_law_at", "_law_starts", "_law_deep", "_law_due"]) (sc := defScope s_law) (by decide +kernel)) (fun _ _ _ _ _ => (pg_name (i := 5) sc_law.nd rfl (Or.inl rfl))) (fun _ _ _ _ _ => pts_nil) (fun _ _ _ _ _ => (pe_calN G_law_bare (hr.mono (by first | decide | omega)) (pa_cons (pv 5) pa_nil)))) pa_nil)) (pe_callB (call_reprD hg hu110) (by rfl) B.repr (by decide +kernel) (pa_cons (pv 2) pa_nil)) (nomark _)))))
      (pss_one (ps_ret pe_bl))
      pss_nil)
      (pss_cons (ps_if (pt_cmpR op_in_seq pe_bl (pe_lc (own := [("_law_line_here", 5)]) rfl sc_law.nd (pi_list (pe_ix ix_list (pv 6) pe_int (fun _ _ => rfl))) (blkOk_by (N := ["_law_script", "_law_feed_here", "_law_lines", "_law_k", "_law_text_here", "_law_line_here", "_law_found", "_law_places", "_law_setting", "_law_at", "_law_starts", "_law_deep", "_law_due"]) (sc := defScope s_law) (by decide +kernel)) (fun _ _ _ _ _ => (pg_name (i := 5) sc_law.nd rfl (Or.inl rfl))) (fun _ _ _ _ _ => pts_nil) (fun _ _ _ _ _ => (pe_calN G_law_marks (hr.mono (by first | decide | omega)) (pa_cons (pv 4) (pa_cons (pv 5) pa_nil))))) (by rfl))
      (pss_one (ps_ret pe_bl))
      pss_nil)
      (pss_cons (ps_set (i := 7) sc_law.nd rfl (Or.inl rfl) (pe_cal G_tokens (hr.mono (by first | decide | omega)) tk (pa_cons (pv 4) pa_nil)))
      (pss_cons (ps_set (i := 8) sc_law.nd rfl (Or.inl rfl) (pe_callB call_abs (by rfl) B.abs (by decide +kernel) (pa_cons (pe_cal G_law_cell (hr.mono (by first | decide | omega)) tk (pa_cons (pv 0) (pa_cons pe_int pa_nil))) pa_nil)))
      (pss_cons (ps_set (i := 9) sc_law.nd rfl (Or.inl rfl) (pe_ix ix_tup (pe_ix ix_list (pv 7) (pe_op op_mod (pv 8) (pe_callB call_len_seq (by rfl) B.len PySem.boot_len (pa_cons (pv 7) pa_nil))) (fun _ _ => rfl)) pe_int (fun _ _ => rfl)))
      (pss_cons (ps_set (i := 10) sc_law.nd rfl (Or.inl rfl) (pe_lst (pa_cons pe_str (pa_cons pe_str (pa_cons pe_str (pa_cons pe_str pa_nil))))))
      (pss_cons (ps_if (PW.pt (pw_and (pt_cmpR (op_notInDk rfl hu65) (pe_ix ix_tup (pe_ix ix_list (pv 7) (pe_op op_mod (pv 8) (pe_callB call_len_seq (by rfl) B.len PySem.boot_len (pa_cons (pv 7) pa_nil))) (fun _ _ => rfl)) pe_int (fun _ _ => rfl)) (pv 10) (by rfl)) (pw_and1 (pt_cmpR (op_neDk rfl hu64) (pe_cal G_law_read (hr.mono (by first | decide | omega)) tk (pa_cons (pe_op op_add_str (pe_op op_add_str (pe_slice sl_str (pv 4) po_none (po_some (pv 9))) pe_str) (pe_slice sl_str (pv 4) (po_some (pv 9)) po_none)) pa_nil)) (pe_lst (pa_cons pe_str (pa_cons (pe_op op_add (pv 9) pe_int) pa_nil))) (nomark _)))))
      (pss_one (ps_ret pe_bl))
      pss_nil)
      (pss_cons (ps_if (pt_cmpR (op_neDk rfl hu64) (pe_cal G_law_read (hr.mono (by first | decide | omega)) tk (pa_cons (pe_slice sl_str (pv 4) po_none (po_some (pe_op op_sub (pe_callB call_len_str (by rfl) B.len PySem.boot_len (pa_cons (pv 4) pa_nil)) pe_int))) pa_nil)) (pe_lst (pa_cons pe_str (pa_cons (pe_op op_sub (pe_callB call_len_str (by rfl) B.len PySem.boot_len (pa_cons (pv 4) pa_nil)) pe_int) pa_nil))) (nomark _))
      (pss_one (ps_ret pe_bl))
      pss_nil)
      (pss_cons (ps_set (i := 11) sc_law.nd rfl (Or.inl rfl) (pe_op op_add pe_int (pe_op op_mod (pe_callTy call_int1 (by rfl) B.int (by decide +kernel) (pa_cons (pe_op op_fdiv (pv 8) pe_int) pa_nil)) pe_int)))
      (pss_cons (ps_set (i := 12) sc_law.nd rfl (Or.inl rfl) (pe_lst (pa_cons pe_str (pa_cons pe_str pa_nil))))
      (pss_cons (ps_if (pt_cmpR op_lt (pv 11) pe_int (nomark _))
      (pss_one (ps_set (i := 12) sc_law.nd rfl (Or.inl rfl) (pe_lst (pa_cons pe_str (pa_cons (pe_lst (pa_cons (pe_tup (pa_cons pe_str (pa_cons (pe_tup (pa_cons pe_str (pa_cons pe_bl pa_nil))) (pa_cons pe_non (pa_cons pe_int pa_nil))))) pa_nil)) pa_nil)))))
      pss_nil)
      (pss_one (ps_ret (pe_cmpR (op_eqDk rfl hu64) (pe_cal G_law_read (hr.mono (by first | decide | omega)) tk (pa_cons (pe_op op_add_str (pe_op op_add_str (pe_op op_add_str (pe_op op_add_str pe_str (pe_op op_mulS pe_str (pv 11))) pe_str) (pe_op op_mulS pe_str (pv 11))) pe_str) pa_nil)) (pv 12) (nomark _)))))))))))))))))))), ?_⟩
    walk_at "rk"
    refine ⟨a, ns, 0, rfl, hS, ?_⟩
    walk_at "rk"
    refine ⟨ns.getD 0 0, 60, rfl, by decide, by decide, fun f nl N H1 s1 hfn hf hN => ?_⟩
    walk_at "rk"
    refine ⟨f, nl, N, 0, 4, rfl, hf, by decide, by omega, fun H2 f2 hf2 => ?_⟩
    walk_at "rk"
    have h4 := tk_lt N (lim := 4) (by decide) 0
    refine ⟨by omega, by omega, fun D hD => ?_⟩
    rw [show (1 + ((tkN N 4 0 : Nat) : Int)).toNat = 1 + tkN N 4 0 by omega]
    generalize hM : tkN N 4 0 = m at *
    have g2 := hf2.apart hD
    refine lcw_range (lo := 0) (n := 1 + m) (fun i H' => Ff f H2 H' ∧ Feed H' f nl N (lnQ N i 1).2 ∧ ∃ acc, H' D = some (.lst acc) ∧ TpAll H' acc ((lnQ N i 1).1.map Ln.d0)) ⟨Fr.same (Same.new hD), hf2.keep (Same.new hD), [], upd_same, .nil⟩ ?_ ?_
    · rintro i H3 hi ⟨f3, hf3, acc, hacc, htp⟩
      have hat := lnQ_at N i 1
      have hal : acc.length = i := by rw [htp.len, List.length_map, lnQ_len]
      walk_at "rk"
      refine ⟨f, nl, N, _, rfl, hf3, by omega, fun v H4 f4 hf4 tv => ?_⟩
      have hD4 := f4.get g2.1 hacc
      have km := Keep.mut (o := .lst (acc ++ [v])) hD4 fun xs z => nomatch z
      walk_at "rk"
      refine ⟨acc, hD4, by rw [sizeLine_eq]; omega, Ff.mut (f3.trans f4) hD, hf4.upd g2.1 g2.2, acc ++ [v], upd_same, ?_⟩
      show TpAll _ _ (((lnQ N i 1).1 ++ [_]).map Ln.d0)
      rw [List.map_append]
      exact ((htp.keep f4.kp).keep km).app1 (tv.keep km)
    · rintro H3 ⟨f3, hf3, acc, hacc, htp⟩
      have sH : Same H H3 := ff_same hfn s1 (f2.trans f3)
      have hlok := lnQ_ok N (1 + m) 1
      have hlnl := lnQ_len N (1 + m) 1
      generalize (lnQ N (1 + m) 1).1 = ls at *
      have hal : acc.length = ls.length := by rw [htp.len, List.length_map]
      have ho : ∀ l ∈ ls, l.ok := fun l h => (hlok l h).1
      have hn : ∀ l ∈ ls, l.nm := fun l h => (hlok l h).2.1
      have hpx : ∀ l ∈ ls, l.pxy := fun l h => (hlok l h).2.2.1
      have hsm : ∀ l ∈ ls, l.sm := fun l h => (hlok l h).2.2.2
      clear hf hf2 f2 g2 hf3 f3
      walk_at "rk"
      refine ⟨rfl, ?_⟩
      walk_at "rk"
      refine ⟨⟨_, SqL.of hacc⟩, fun D2 hD2 => ?_⟩
      refine lcw_list (fun i H' => Same H3 H' ∧ ∃ acc2, H' D2 = some (.lst acc2) ∧ acc2 = ((lnsT ls).take i).map fun l => V.str (uS l)) ⟨Same.new hD2, [], upd_same, rfl⟩ (fun i H' _ h => SqL.of (h.1 _ _ hacc)) ?_ ?_
      · rintro i x H4 hx ⟨s4, acc2, hacc2, rfl⟩
        obtain ⟨d, hd, tx⟩ := htp.tep hx
        rw [List.getElem?_map] at hd
        obtain ⟨l, hl, rfl⟩ := Option.map_eq_some_iff.mp hd
        obtain ⟨g1, g2, g3, g4⟩ := hlok l (List.mem_of_getElem? hl)
        have hil : i < ls.length := (List.getElem?_eq_some_iff.mp hl).1
        have hte : (lnsT ls).take (i + 1) = (lnsT ls).take i ++ [ren l.pcs] := by unfold lnsT; rw [List.take_succ, List.getElem?_map, hl]; rfl
        have hal2 : (((lnsT ls).take i).map fun l => V.str (uS l)).length ≤ 5 := by rw [List.length_map, List.length_take]; unfold lnsT; rw [List.length_map]; omega
        rw [hte, List.map_append]
        generalize ((lnsT ls).take i).map (fun l => V.str (uS l)) = acc2 at *
        walk_at "rk"
        refine ⟨x, l, rfl, tx.keep (Same.keep s4), ⟨g1, g2, g4⟩, fun H5 s5 => ?_⟩
        walk_at "rk"
        exact ⟨acc2, s5 _ _ hacc2, by rw [sizeLine_eq]; omega, Same.mut (fun b o h => s5 _ _ (s4 _ _ h)) hD2, acc2 ++ [.str (uS (ren l.pcs))], upd_same, rfl⟩
      · rintro H4 ⟨s4, acc2, hacc2, rfl⟩
        have hk2 : (lnsT ls).length = ls.length := List.length_map ..
        rw [hal, ← hk2, List.take_length] at hacc2
        have hll := lnsT_len hlok
        have hjb : (lnsT ls).length * (4000 + 2) ≤ 1000000 := by rw [hk2]; omega
        have hq := join_sumS 4000 2 "\n " lt_61 _ hll hjb
        walk_at "rk"
        refine ⟨"\n ", D2, (lnsT ls).map uS, rfl, rfl, .inl (sql_uS hacc2), ?_, ?_⟩
        · exact hq
        rw [join_lit, pg_join]
        have hjl := joinL_len (lS "\n ") 4000 _ hll
        rw [ll_61, hk2, pg_join] at hjl
        have htb : (ren (pgPc ls)).length ≤ 20000 := by omega
        have hlx := k1_text ho hn
        have hpr := fun L => pg_read (L := L) ls [] 0 ho
        have hbase := fun {A x B} => k1_base ho hn (A := A) (x := x) (B := B)
        have hend := k1_end ho hn (by intro e; rw [e] at hlnl; have : 0 = 1 + m := hlnl; omega)
        have hmk := mk_pg (txt := ren (pgPc ls)) ls 0 hn (at_self _)
        have htl := lnsT_pos ls (by intro e; rw [e] at hlnl; have : 0 = 1 + m := hlnl; omega)
        have hts := tks_str (pgPc ls) none 0 (pg_lex ls ho hn none)
        generalize ren (pgPc ls) = T at *
        obtain ⟨htl1, htl2⟩ := htl
        have hTS : (uS T).length = T.length := rfl
        walk_at "rk"
        refine r_ite (fun h9 => ?_) (fun h9 => ?_)
        · walk_at "rk"
          exact k _
        have h9 := of_decide_eq_false h9
        have hT9 : T.length ≤ 9000 := by omega
        walk_at "rk"
        refine ⟨uS T, _, _, rfl, by omega, hlx, hpr _, fun ds ts' e p q vs H5 s5 hpn hp hq hvs => ?_, fun i e => (by cases e), fun e => (by cases e)⟩
        cases e
        rw [List.nil_append] at hvs
        have hvl : vs.length = (pgT ls 0).length := hvs.len
        have dshow := lns_show hlok (by omega)
        walk_at "rk"
        refine r_ixL (n := 0) (SqL.of hp) rfl ?_
        walk_at "rk"
        refine r_ixL (n := 1) (SqL.of hp) rfl ?_
        walk_at "rk"
        refine ⟨⟨_, SqL.of hq⟩, fun D3 hD3 => ?_⟩
        refine lcw_list (fun i H' => Same H5 H' ∧ ∃ acc3, H' D3 = some (.lst acc3) ∧ acc3.length = i ∧ TpAll H' acc3 (((pgT ls 0).map bareD).take i)) ⟨Same.new hD3, [], upd_same, rfl, .nil⟩ (fun i H' _ h => SqL.of (h.1 _ _ hq)) ?_ ?_
        · rintro i x H6 hx ⟨s6, acc3, hacc3, hal3, hta3⟩
          obtain ⟨d, hd, tx⟩ := hvs.tep hx
          have hil : i < (pgT ls 0).length := (List.getElem?_eq_some_iff.mp hd).1
          rw [pgT_len] at hil
          walk_at "rk"
          refine ⟨x, d, rfl, tx.keep (Same.keep s6), by decide, dok_pg ls 0 hsm d (List.mem_of_getElem? hd), fun v' H7 s7 tv => ?_⟩
          have hD7 := s7 _ _ hacc3
          have km := Keep.mut (o := .lst (acc3 ++ [v'])) hD7 fun xs z => nomatch z
          walk_at "rk"
          refine ⟨acc3, hD7, by rw [sizeLine_eq]; omega, Same.mut (fun b o h => s7 _ _ (s6 _ _ h)) hD3, acc3 ++ [v'], upd_same, by rw [List.length_append, hal3]; rfl, ?_⟩
          have e : ((pgT ls 0).map bareD).take (i + 1) = ((pgT ls 0).map bareD).take i ++ [bareD d] := by rw [List.take_succ, List.getElem?_map, hd]; rfl
          rw [e]
          exact ((hta3.keep (Same.keep s7)).keep km).app1 (tv.keep km)
        · rintro H6 ⟨s6, acc3, hacc3, hal3, hta3⟩
          rw [hvl, show (pgT ls 0).length = ((pgT ls 0).map bareD).length from (List.length_map ..).symm, List.take_length, bare_pg ls 0 hpx] at hta3
          walk_at "rk"
          refine ⟨D3, _, rfl, .lst (SqL.of hacc3) (TpAll.dp hta3), dshow.sh, dshow.nd, Nat.le_trans dshow.dp (by decide), dshow.fits (by decide), ?_⟩
          walk_at "rk"
          have s36 : Same H3 H6 := fun b o h => s6 _ _ (s5 _ _ (s4 _ _ h))
          refine ⟨D, _, rfl, .lst (SqL.of (s36 _ _ hacc)) (TpAll.dp (htp.keep (Same.keep s36))), dshow.sh, dshow.nd, Nat.le_trans dshow.dp (by decide), dshow.fits (by decide), ?_⟩
          walk_at "rk"
          refine r_ixL (n := 1) (SqL.of (s6 _ _ hp)) rfl ?_
          walk_at "rk"
          refine ⟨⟨_, SqL.of (s6 _ _ hq)⟩, fun D4 hD4 => ?_⟩
          refine lcw_list (fun i H' => Same H6 H' ∧ ∃ acc4, H' D4 = some (.lst acc4) ∧ acc4.length = i ∧ ∀ x ∈ acc4, x = .bl true) ⟨Same.new hD4, [], upd_same, rfl, fun x h => by cases h⟩ (fun i H' _ h => SqL.of (h.1 _ _ (s6 _ _ hq))) ?_ ?_
          · rintro i x H7 hx ⟨s7, acc4, hacc4, hal4, hat4⟩
            obtain ⟨d, hd, tx⟩ := hvs.tep hx
            have hil : i < (pgT ls 0).length := (List.getElem?_eq_some_iff.mp hd).1
            rw [pgT_len] at hil
            walk_at "rk"
            refine ⟨T, x, d, rfl, by omega, (tx.keep (Same.keep s6)).keep (Same.keep s7), by decide, dok_pg ls 0 hsm d (List.mem_of_getElem? hd), hmk d (List.mem_of_getElem? hd), fun H8 s8 => ?_⟩
            walk_at "rk"
            refine ⟨acc4, s8 _ _ hacc4, by rw [sizeLine_eq]; omega, Same.mut (fun b o h => s8 _ _ (s7 _ _ h)) hD4, acc4 ++ [.bl true], upd_same, by rw [List.length_append, hal4]; rfl, fun y hy => ?_⟩
            rcases List.mem_append.mp hy with hy | hy
            · exact hat4 y hy
            · exact List.mem_singleton.mp hy
          · rintro H7 ⟨s7, acc4, hacc4, hal4, hat4⟩
            obtain ⟨g1, g2⟩ := inV_trues acc4 hat4
            walk_at "rk"
            refine r_iL (SqL.of hacc4) rfl g2 ?_
            rw [g1]
            have s07 : Same H H7 := fun b o h => s7 _ _ (s36 _ _ (sH _ _ h))
            clear hta3 hacc3 hacc4 hat4 hal4 hacc2 htp hacc hvs hq hp dshow hmk hpr g2
            walk_at "rk"
            refine ⟨uS T, rfl, by omega, .inr ⟨tks 0 (pgPc ls), none, by omega, hlx, ?_⟩⟩
            intro p2 us2 H8 s8 hp2n hp2 hus2
            have s08 : Same H H8 := fun b o h => s8 _ _ (s07 _ _ h)
            walk_at "rk"
            refine ⟨a, ns, 1, rfl, L2.Same.seq s08 hS, ?_⟩
            walk_at "rk"
            generalize hc1 : (ns.getD 1 0).natAbs = c1
            have e1 : (if ns.getD 1 0 < 0 then -(ns.getD 1 0) else ns.getD 1 0) = ((c1 : Nat) : Int) := by
              rw [← hc1]; split <;> omega
            rw [e1]
            have hul : us2.length = (tks 0 (pgPc ls)).length := by rw [hus2.len, List.length_map]
            walk_at "rk"
            refine ⟨p2, us2, rfl, .inl (SqL.of hp2), ?_⟩
            walk_at "rk"
            refine r_I (by show (0 : Int) < _; omega) ?_
            rw [← Int.natCast_emod]
            have hj : c1 % us2.length < (tks 0 (pgPc ls)).length := by rw [← hul]; exact Nat.mod_lt _ (by omega)
            obtain ⟨x, hx⟩ : ∃ x, (tks 0 (pgPc ls))[c1 % us2.length]? = some x := ⟨_, List.getElem?_eq_getElem hj⟩
            obtain ⟨xv, hxv, tx⟩ := hus2.mem (i := c1 % us2.length) (d := tokD x) (by rw [List.getElem?_map, hx]; rfl)
            obtain ⟨xa, ys, rfl, hxa, hys⟩ := tx.tupI
            obtain ⟨y0, r0, rfl, t0, hys⟩ := hys.consI
            obtain ⟨y1, r1, rfl, t1, hys⟩ := hys.consI
            obtain ⟨y2, r2, rfl, t2, hys⟩ := hys.consI
            cases hys.nilI
            cases t2
            have hxs := hts x (List.mem_of_getElem? hx)
            refine r_ixL (SqL.of hp2) hxv ?_
            walk_at "rk"
            refine r_ixT (n := 2) (SqT.of hxa) rfl ?_
            walk_at "rk"
            intro q hq
            have aq : upd H8 q (.lst [.str "base", .str "unit", .str "fun", .str "show"]) q = some (.lst [.str "base", .str "unit", .str "fun", .str "show"]) := upd_same
            have sq : Same H8 (upd H8 q (.lst [.str "base", .str "unit", .str "fun", .str "show"])) := Same.new hq
            generalize upd H8 q (.lst [.str "base", .str "unit", .str "fun", .str "show"]) = H9 at *
            obtain ⟨AA, BB, hAB⟩ := split_at _ _ _ hx
            have hxle : x.2 ≤ T.length := by
              have := lex_at hlx x (List.mem_of_getElem? hx)
              omega
            refine r_name ?_
            dsimp only
            refine r_pull2 (fun σ' H' => σ' = [some (.ref a), some (.ref f), some (.ref D), none, some (.str (uS T)), none, some (.ref p), some (.ref p2), some (.int ((c1 : Nat) : Int)), some (.int ((x.2 : Nat) : Int)), some (.ref q), none, none] ∧ Same H9 H') ?_ ?_
            · rintro σ' H10 ⟨rfl, s10⟩
              have e2 : ((uS T).length : Int) - 1 = ((T.length - 1 : Nat) : Int) := by rw [hTS]; omega
              have k5l : (T.take (T.length - 1)).length = T.length - 1 := by rw [List.length_take]; omega
              obtain ⟨ts3, hlx3, hpr3⟩ := hend
              walk_at "rk"
              rw [e2]
              refine r_slS (by rw [sizeLine_eq]; omega) ?_
              rw [cutS_to (by omega)]
              walk_at "rk"
              refine ⟨_, ts3, _, rfl, by show (T.take (T.length - 1)).length ≤ 12000; omega, hlx3, by rw [show (uS (T.take (T.length - 1))).length = T.length - 1 from k5l]; exact hpr3, fun ds ts' e => (by cases e), fun i e pm H11 s11 hpmn hpm => ?_, fun e => (by cases e)⟩
              cases e
              walk_at "rk"
              rw [e2]
              intro q2 hq2
              refine r_neD (d := malD (T.length - 1)) (.lst (SqL.of (Same.new hq2 _ _ hpm)) (.cons (.str _) (.cons (.int _) .nil))) (.lst (SqL.of upd_same) (.cons (.str _) (.cons (.int _) .nil))) (mal_sh _) (mal_eq _) ?_
              generalize upd H11 q2 (.lst [.str "malformed", .int ((T.length - 1 : Nat) : Int)]) = H12
              walk_at "rk"
              have hd40 : c1 / 7 % 40 < 40 := Nat.mod_lt _ (by decide)
              rw [show 1 + ((c1 : Nat) : Int) / 7 % 40 = ((1 + c1 / 7 % 40 : Nat) : Int) by omega]
              generalize hdd : 1 + c1 / 7 % 40 = dd at *
              intro q3 hq3
              have a3 : upd H12 q3 (.lst [.str "oversized", .str "depth"]) q3 = some (.lst [.str "oversized", .str "depth"]) := upd_same
              generalize upd H12 q3 (.lst [.str "oversized", .str "depth"]) = H13 at *
              have m1 : timesS "(" dd = uS (List.replicate dd 40) := timesS_rep "(" 40 rfl dd
              have m2 : timesS ")" dd = uS (List.replicate dd 41) := timesS_rep ")" 41 rfl dd
              have m3 : (List.replicate dd 40).length = dd := List.length_replicate
              have m4 : (List.replicate dd 41).length = dd := List.length_replicate
              have hz3l : (ren (dpPc dd)).length = 10 + 2 * dd := by
                rw [dp_ren]
                simp only [List.length_append, ll_57, ll_33, ll_54, m3, m4]
                omega
              walk_at "rk"
              refine r_ite (fun h24 => ?_) (fun h24 => ?_)
              · have h24 := of_decide_eq_true h24
                walk_at "rk"
                intro q4 hq4
                have b4 : Tp (upd H13 q4 (.tup [.str "bool", .bl true])) (.ref q4) (.tuple [.str "bool", .bool true]) := .tup upd_same (.cons (.str _) (.cons (.bl _) .nil))
                generalize upd H13 q4 (.tup [.str "bool", .bl true]) = H14 at *
                walk_at "rk"
                intro q5 hq5
                have b5 : Tp (upd H14 q5 (.tup [.str "show", .ref q4, .non, .int 0])) (.ref q5) showD := .tup upd_same (.cons (.str _) (.cons (b4.keep (Keep.new hq5)) (.cons .non (.cons (.int _) .nil))))
                generalize upd H14 q5 (.tup [.str "show", .ref q4, .non, .int 0]) = H15 at *
                walk_at "rk"
                intro q6 hq6
                have b6 := b5.keep (Keep.new (o := .lst [.ref q5]) hq6)
                have a6 : upd H15 q6 (.lst [.ref q5]) q6 = some (.lst [.ref q5]) := upd_same
                generalize upd H15 q6 (.lst [.ref q5]) = H16 at *
                walk_at "rk"
                intro q7 hq7
                have b7 := b6.keep (Keep.new (o := .lst [.str "read", .ref q6]) hq7)
                have a7 : upd H16 q7 (.lst [.str "read", .ref q6]) q7 = some (.lst [.str "read", .ref q6]) := upd_same
                have a67 := Same.new (o := .lst [.str "read", .ref q6]) hq7 _ _ a6
                generalize upd H16 q7 (.lst [.str "read", .ref q6]) = H17 at *
                walk_at "rk"
                refine r_mulS (n := dd) (by omega) (by show 1 * dd ≤ 1000000; omega) ?_
                rw [m1]
                walk_at "rk"
                refine r_mulS (n := dd) (by omega) (by show 1 * dd ≤ 1000000; omega) ?_
                rw [m2]
                walk_at "rk"
                rw [← dp_ren]
                refine ⟨_, _, _, rfl, by show (ren (dpPc dd)).length ≤ 12000; omega, dp_lex dd, dp_few (by omega), fun ds ts' e pr qr vs2 H18 s18 hprn hpr4 hqr hvs2 => ?_, fun i e => (by cases e), fun e => (by cases e)⟩
                cases e
                walk_at "rk"
                refine r_eqD (d := readD) (.lst (SqL.of hpr4) (.cons (.str _) (.cons (.lst (SqL.of hqr) (TpAll.dp hvs2)) .nil))) (.lst (SqL.of (s18 _ _ a7)) (.cons (.str _) (.cons (.lst (SqL.of (s18 _ _ a67)) (.cons (b7.keep (Same.keep s18)).dp .nil)) .nil))) read_sh read_eq ?_
                exact k _
              · have h24 := of_decide_eq_false h24
                walk_at "rk"
                refine r_mulS (n := dd) (by omega) (by show 1 * dd ≤ 1000000; omega) ?_
                rw [m1]
                walk_at "rk"
                refine r_mulS (n := dd) (by omega) (by show 1 * dd ≤ 1000000; omega) ?_
                rw [m2]
                walk_at "rk"
                rw [← dp_ren]
                refine ⟨_, _, _, rfl, by show (ren (dpPc dd)).length ≤ 12000; omega, dp_lex dd, dp_many (by omega), fun ds ts' e => (by cases e), fun i e => (by cases e), fun e pr H18 s18 hprn hpr4 => ?_⟩
                walk_at "rk"
                refine r_eqD (d := overD) (.lst (SqL.of hpr4) (.cons (.str _) (.cons (.str _) .nil))) (.lst (SqL.of (s18 _ _ a3)) (.cons (.str _) (.cons (.str _) .nil))) over_sh over_eq ?_
                exact k _
            · intro hB
              walk_at "rk"
              refine ⟨p2, us2, rfl, .inl (SqL.of (sq _ _ hp2)), ?_⟩
              walk_at "rk"
              refine r_I (by show (0 : Int) < _; omega) ?_
              rw [← Int.natCast_emod]
              refine r_ixL (SqL.of (sq _ _ hp2)) hxv ?_
              walk_at "rk"
              refine r_ixT (n := 1) (SqT.of (sq _ _ hxa)) rfl ?_
              walk_at "rk"
              refine ⟨x.1.val, startsD, (t1.keep (Same.keep sq)).dp, .lst (SqL.of aq) (.cons (.str _) (.cons (.str _) (.cons (.str _) (.cons (.str _) .nil)))), tok_sh hxs, by decide +kernel, ?_⟩
              cases hb : startsD.any (fun z => PyData.eqv z x.1.val) with
              | true =>
                walk_at "rz"
                refine r_next ?_
                exact hB _ _ ⟨rfl, fun b o h => h⟩
              | false =>
                have hns : x.1 ∉ starts := fun h => by rw [tok_starts h] at hb; cases hb
                obtain ⟨_, ts2, hlx2, hpr2⟩ := hbase hAB hns
                have hz2l : (T.take x.2 ++ lS " base " ++ T.drop x.2).length = T.length + 6 := by
                  rw [List.length_append, List.length_append, ll_64, List.length_take, List.length_drop]; omega
                have k1l : (uS (T.take x.2)).length ≤ 9000 := by show (T.take x.2).length ≤ 9000; rw [List.length_take]; omega
                have k2l : (uS (T.drop x.2)).length ≤ 9000 := by show (T.drop x.2).length ≤ 9000; rw [List.length_drop]; omega
                have k3l : (T.take x.2).length ≤ 9000 := k1l
                have k4l : (T.drop x.2).length ≤ 9000 := k2l
                walk_at "rk"
                refine r_slS (by rw [sizeLine_eq]; omega) ?_
                rw [cutS_to hxle]
                walk_at "rk"
                refine r_slS (by rw [sizeLine_eq]; omega) ?_
                rw [cutS_from hxle]
                walk_at "rk"
                refine ⟨_, ts2, _, rfl, by show (T.take x.2 ++ lS " base " ++ T.drop x.2).length ≤ 12000; omega, hlx2, hpr2 _, fun ds ts' e => (by cases e), fun i e pm H11 s11 hpmn hpm => ?_, fun e => (by cases e)⟩
                cases e
                walk_at "rk"
                intro q2 hq2
                rw [show ((x.2 : Nat) : Int) + 1 = ((x.2 + 1 : Nat) : Int) by omega]
                refine r_neD (d := malD (x.2 + 1)) (.lst (SqL.of (Same.new hq2 _ _ hpm)) (.cons (.str _) (.cons (.int _) .nil))) (.lst (SqL.of upd_same) (.cons (.str _) (.cons (.int _) .nil))) (mal_sh _) (mal_eq _) ?_
                walk_at "rz"
                refine r_next ?_
                exact hB _ _ ⟨rfl, fun b o h => Same.new hq2 _ _ (s11 _ _ h)⟩
end
end Al
namespace Al
open PySem PySem.Spec PyProof.Rows L2 NdefX PySem.W
section
variable {P : Program} {w : World} {K : Frag} {mg : Str → Option Value} {base h : Heap}
theorem scMal : NScope ["self", "at", "__class__"] ["self", "at"] ["__class__"] (defScope sIMalformed) := nscope_by (by decide +kernel)
theorem scOver : NScope ["self", "limit", "__class__"] ["self", "limit"] ["__class__"] (defScope sIOversized) := nscope_by (by decide +kernel)
theorem exc_Malformed (F : ExF P K mg xdMalformed) (hs : mg "str" = none) : ExC1 P w K mg base "Malformed" (He.ga K "Malformed") "at" CMal := by
  obtain ⟨oc, od, osl, kV, doc, pm, an, cda, ct, cc, lk, hcd, T⟩ := F.fn
  refine ⟨F.gm, T.ox, ⟨_, ksFn "__init__" "Malformed.__init__" (defArgs sIMalformed) (defBody sIMalformed) (defScope sIMalformed) .none kV doc pm an (.ref cda) ct cc, F.fi, F.ty, Binds.all fun us hl => match us, hl with | [_, _], _ => rfl, ?_⟩, F.xf, F.nf _ (by simp [xdMalformed])⟩
  · refine fn_super (N := ["self", "at", "__class__"]) lk hcd T scMal rfl rfl (by decide +kernel) (fun _ => rfl) (fun L env e => ⟨_, by subst e; rfl⟩) (fun L env e => by subst e; rfl) (fun vs H Q E h => ?_) (fun A outer s H vs Q E hr h => ?_)
    · obtain ⟨x, v, rfl, _⟩ := h
      rfl
    · obtain ⟨x, v, rfl, ⟨i, rfl, hi⟩, hx, k⟩ := h
      refine ⟨x, _, rfl, hx, _, _, pa_cons (pe_callTy call_str_int (by rfl) hs (by decide +kernel) (pa_cons (pv 1) pa_nil)) pa_nil, pss_one (ps_ost (pv 0) (pv 1)), ?_⟩
      refine ⟨_, rfl, i, rfl, hi, ?_⟩
      exact ⟨by show 1 ≤ 1000; decide, hx, _, rfl, _, rfl, x, _, rfl, T.ox, F.nf _ (by simp [xdMalformed]), .inl ⟨hx, fun dx hn hd => k dx hn hd⟩⟩
theorem exc_Oversized (F : ExF P K mg xdOversized) (hs : mg "str" = none) : ExC1 P w K mg base "Oversized" (He.ga K "Oversized") "limit" COver := by
  obtain ⟨oc, od, osl, kV, doc, pm, an, cda, ct, cc, lk, hcd, T⟩ := F.fn
  refine ⟨F.gm, T.ox, ⟨_, ksFn "__init__" "Oversized.__init__" (defArgs sIOversized) (defBody sIOversized) (defScope sIOversized) .none kV doc pm an (.ref cda) ct cc, F.fi, F.ty, Binds.all fun us hl => match us, hl with | [_, _], _ => rfl, ?_⟩, F.xf, F.nf _ (by simp [xdOversized])⟩
  · refine fn_super (N := ["self", "limit", "__class__"]) lk hcd T scOver rfl rfl (by decide +kernel) (fun _ => rfl) (fun L env e => ⟨_, by subst e; rfl⟩) (fun L env e => by subst e; rfl) (fun vs H Q E h => ?_) (fun A outer s H vs Q E hr h => ?_)
    · obtain ⟨x, v, rfl, _⟩ := h
      rfl
    · obtain ⟨x, v, rfl, ⟨i, rfl⟩, hx, k⟩ := h
      refine ⟨x, _, rfl, hx, _, _, pa_cons (pe_callTy SkE.call_str_str (by rfl) hs (by decide +kernel) (pa_cons (pv 1) pa_nil)) pa_nil, pss_one (ps_ost (pv 0) (pv 1)), ?_⟩
      refine ⟨_, rfl, i, rfl, ?_⟩
      exact ⟨by show 1 ≤ 1000; decide, hx, _, rfl, _, rfl, x, _, rfl, T.ox, F.nf _ (by simp [xdOversized]), .inl ⟨hx, fun dx hn hd => k dx hn hd⟩⟩
end
theorem tup_strs {K : Frag} {x : Str} {l : List Str} (h : He.tupB K x (l.map He.Dv.str) = true) (H : Hp) : SqT K H (He.ga K x) (l.map V.str) := by
  have := He.tupB_ok h H
  rw [List.map_map] at this
  exact this
/-! ### tokens, parse: what the head gives -/
structure ParOk (w : World) (K : Frag) (mg : Str → Option Value) (base : Heap) (DM DO : Addr) : Prop where
  tok : Cal R.prog w K mg base 5 "tokens" ["text"] (spTokens DM DO)
  par : Cal R.prog w K mg base 204 "parse" ["text"] (spParse DM DO)
theorem par_ok {K : Frag} {mg : Str → Option Value} {h : Heap} {w : World} (X : K.In h) (G : h.Ns mainGlobals mg) (c : SaysF fas fns exs exFacts tabs w K) (base : Heap) : ParOk w K mg base (He.ga K "Malformed") (He.ga K "Oversized") := by
  have B := bl_of X G c.e.d
  obtain ⟨b, b6⟩ := He.ba c.e.b
  obtain ⟨b, b5⟩ := He.ba b
  obtain ⟨b, b4⟩ := He.ba b
  obtain ⟨b, b3⟩ := He.ba b
  obtain ⟨b1, b2⟩ := He.ba b
  have top0 : (R.prog.main.scope.names.lookup ("super" : Str)).isSome = false := by decide +kernel
  have FM : ExF R.prog K mg xdMalformed := exF_of X G B.super top0 (c.e.exo 0) (List.all_eq_true.mp b1 _ (by simp [exs]))
  have FO : ExF R.prog K mg xdOversized := exF_of X G B.super top0 (c.e.exo 1) (List.all_eq_true.mp b1 _ (by simp [exs]))
  have XM : ExC1 R.prog w K mg base "Malformed" _ "at" CMal := exc_Malformed FM B.str
  have XO : ExC1 R.prog w K mg base "Oversized" _ "limit" COver := exc_Oversized FO B.str
  have L : LexC K mg := ⟨⟨_, glo_RESERVED X G c.e.d, fun H => tup_strs b2 H⟩, ⟨_, glo_SIGNS X G c.e.d, fun H => tup_strs b3 H⟩, int_MAX_TEXT X G c.e.d, int_MAX_NAME X G c.e.d⟩
  have g1 := cal_is_letter (P := R.prog) (w := w) (base := base) (at_is_letter X G c.e.d)
  have g2 := cal_is_digit (P := R.prog) (w := w) (base := base) (at_is_digit X G c.e.d)
  have g3 := cal_in_name (at_in_name X G c.e.d) g1 g2
  have g4 := cal_run_end (at_run_end X G c.e.d) B g3
  have g5 := cal_digits_end (at_digits_end X G c.e.d) B g2
  have g6 := cal_comment_end (P := R.prog) (w := w) (base := base) (at_comment_end X G c.e.d) B
  have g7 := cal_read_word (at_read_word X G c.e.d) B L XM g4
  have g8 := cal_read_sign (at_read_sign X G c.e.d) B L XM
  have g9 := cal_read_number (at_read_number X G c.e.d) B XM g5 g2 g3
  have g10 := cal_tokens (at_tokens X G c.e.d) B L XM XO g6 g1 g2 g7 g9 g8
  have RK : RC K (He.ga K "Reader") := ⟨cls_Reader c.e.d, fun f hf => by
    rcases List.mem_cons.mp hf with rfl | hf
    · exact noat_Reader_rest c.e.d
    · rcases List.mem_cons.mp hf with rfl | hf
      · exact noat_Reader_place c.e.d
      · rcases List.mem_cons.mp hf with rfl | hf
        · exact noat_Reader_limit c.e.d
        · cases hf⟩
  have PL : ParC K w mg := ⟨int_MAX_DEPTH X G c.e.d, int_MAX_POWER X G c.e.d,
    ⟨_, glo_SUMS X G c.e.d, kdct_of (c.tab 0) b4 (q := ("+", .str "add")) (by simp [dSUMS]), kdct_of (c.tab 0) b4 (q := ("-", .str "sub")) (by simp [dSUMS])⟩,
    ⟨_, glo_PRODUCTS X G c.e.d, kdct_of (c.tab 1) b5 (q := ("*", .str "mul")) (by simp [dPRODUCTS]), kdct_of (c.tab 1) b5 (q := ("/", .str "div")) (by simp [dPRODUCTS])⟩,
    ⟨_, glo_COMPARISONS X G c.e.d, kkeys_of (c.tab 2), fun q hq => by
      rcases List.mem_cons.mp hq with rfl | hq
      · exact kdct_of (c.tab 2) b6 (q := ("<", .str "lt")) (by simp [dCOMPARISONS])
      · rcases List.mem_cons.mp hq with rfl | hq
        · exact kdct_of (c.tab 2) b6 (q := ("<=", .str "le")) (by simp [dCOMPARISONS])
        · rcases List.mem_cons.mp hq with rfl | hq
          · exact kdct_of (c.tab 2) b6 (q := ("==", .str "eq")) (by simp [dCOMPARISONS])
          · cases hq⟩⟩
  have m1 := met_at (P := R.prog) (w := w) (mg := mg) (base := base) (met_at_Reader_at c.e.d) B RK
  have m2 := met_sees (P := R.prog) (w := w) (mg := mg) (base := base) (met_at_Reader_sees c.e.d) B RK
  have m3 := met_sees_kind (P := R.prog) (w := w) (mg := mg) (base := base) (met_at_Reader_sees_kind c.e.d) B RK
  have m4 := met_accept (met_at_Reader_accept c.e.d) B RK m2
  have m5 := met_expect (DO := He.ga K "Oversized") (met_at_Reader_expect c.e.d) B RK m1 m4 XM
  have m6 := met_read (DO := He.ga K "Oversized") (met_at_Reader_read c.e.d) B RK m1 m3 XM
  have m7 := met_whole (DO := He.ga K "Oversized") (met_at_Reader_whole c.e.d) B RK m1 m6 XM
  have m8 := met_deeper (DM := He.ga K "Malformed") (met_at_Reader_deeper c.e.d) B RK PL XO
  have M : RdM R.prog w K mg base (He.ga K "Reader") (He.ga K "Malformed") (He.ga K "Oversized") := ⟨RK, m1, m2, m3, m4, m5, m6, m7, m8⟩
  have D : ParDefs K mg := ⟨at_read_power X G c.e.d, at_read_product X G c.e.d, at_read_call X G c.e.d, at_read_primary X G c.e.d, at_read_powers X G c.e.d, at_read_factors X G c.e.d, at_read_terms X G c.e.d, at_read_plain X G c.e.d, at_read_both X G c.e.d, at_read_expression X G c.e.d, at_read_parameters X G c.e.d, at_read_line X G c.e.d⟩
  have KR := mak_Reader (mak_at_Reader X G c.e.d) B RK g10
  exact ⟨g10, cal_parse (at_parse X G c.e.d) B RK KR (cal_line D B PL M)⟩
theorem law_fnC {K : Frag} {mg : Str → Option Value} {h : Heap} {f : Addr} {w : World} (X : K.In h) (G : h.Ns mainGlobals mg) (hf : mg "law" = some (.ref f)) (c : SaysF fas fns exs exFacts tabs w K) :
    ∃ fd, (∀ (s : Shared) (u : Value), BindsTo s fd ⟨[u], []⟩ [("_law_script", u)]) ∧ ∀ base : Heap, FnC R.prog w K mg base (L2N.CX R.prog w) f fd ["_law_script"] (spLaw K) := by
  obtain ⟨fd, F⟩ := fn_law c.e.d
  have e := hf.symm.trans (glo_law X G c.e.d)
  cases e
  have B := bl_of X G c.e.d
  have bA := FunD.bindsA (ps := ["_law_script"]) F fun _ _ _ _ _ _ us hl => match us, hl with | [_], _ => rfl
  refine ⟨fd, fun s v => bA s [v] rfl, fun base => ?_⟩
  have PO := par_ok X G c base
  obtain ⟨b, b6⟩ := He.ba c.e.b
  obtain ⟨b, b5⟩ := He.ba b
  obtain ⟨b, b4⟩ := He.ba b
  obtain ⟨b, b3⟩ := He.ba b
  obtain ⟨b1, b2⟩ := He.ba b
  have top0 : (R.prog.main.scope.names.lookup ("super" : Str)).isSome = false := by decide +kernel
  have FM : ExF R.prog K mg xdMalformed := exF_of X G B.super top0 (c.e.exo 0) (List.all_eq_true.mp b1 _ (by simp [exs]))
  have FO : ExF R.prog K mg xdOversized := exF_of X G B.super top0 (c.e.exo 1) (List.all_eq_true.mp b1 _ (by simp [exs]))
  have XM : ExC1 R.prog w K mg base "Malformed" _ "at" CMal := exc_Malformed FM B.str
  have XO : ExC1 R.prog w K mg base "Oversized" _ "limit" COver := exc_Oversized FO B.str
  have l1 := cal_law_cell (P := R.prog) (w := w) (base := base) (at_law_cell X G c.e.d) B
  have l2 := cal_law_numbers (P := R.prog) (w := w) (base := base) (at_law_numbers X G c.e.d) B
  have l3 := cal_law_feed (at_law_feed X G c.e.d) B l2
  have l4 := cal_law_take (P := R.prog) (w := w) (base := base) (at_law_take X G c.e.d) B
  have l5 := cal_law_brackets (at_law_brackets X G c.e.d) B l4
  have l6 := law_drawn_all (at_law_drawn X G c.e.d) B l4 l5 5
  have l7 := cal_law_line (at_law_line X G c.e.d) B l4 l5 l6
  have l8 := cal_law_number (P := R.prog) (w := w) (base := base) (at_law_number X G c.e.d) B
  have l9 := cal_law_units (P := R.prog) (w := w) (base := base) (at_law_units X G c.e.d) B
  have l10 := law_text_all (at_law_text X G c.e.d) B l8 l9 5
  have l11 := cal_law_shown (at_law_shown X G c.e.d) B l9 l10
  have l12 := law_bare_all (P := R.prog) (w := w) (base := base) (at_law_bare X G c.e.d) B 13
  have l13 := law_marks_all (P := R.prog) (w := w) (base := base) (at_law_marks X G c.e.d) B 13
  have l14 := cal_law_read (at_law_read X G c.e.d) B XM XO (exm_Malformed c.e.d) (exm_Oversized c.e.d) (exm2_Oversized_Malformed c.e.d) PO.par
  exact fnC_law F B l1 l3 l4 l7 l11 l12 l13 l14 PO.tok
end Al
open PySem PySem.W PySem.Calls PyProof.Rows
theorem PySem.Challenge.cw_alnage_k01_programs_read_back_holds : PySem.Challenge.rw_alnage_k01_programs_read_back.Holds := by
  w_on; o_law
  refine HandSHeadRun.head_any (r := OpenLaw.row PySem.Challenge.rw_alnage_k01_programs_read_back) (q := view (OpenLaw.row PySem.Challenge.rw_alnage_k01_programs_read_back).prog [54]) (H := Al.hk) (ob := Al.ob) (M := 8000) (loose := Al.loose) (d := HandSHeadRun.topDef (OpenLaw.row PySem.Challenge.rw_alnage_k01_programs_read_back).prog 54) (kwd := []) Al.ob_eq
    (by kernel_rfl) (fun s => by kernel_rfl) Al.top_run (by kernel_rfl) (by kernel_rfl) (by kernel_rfl) (by rfl) (by first | assumption | decide +kernel) (by decide +kernel) ⟨rfl, rfl, rfl, rfl, rfl, by decide +kernel⟩ ?hw ?hc
  case hw => w_witness2
  case hc =>
    refine Al.walk_W (l := PySem.Challenge.rw_alnage_k01_programs_read_back) (n := 63) (x := "_law_script") (CX := L2N.CX Al.R.prog) rfl (by decide) (by kernel_rfl) ?F ?N
    · intro w mg fa h Y G hmg0
      obtain ⟨K, KX, c⟩ := Y
      have hmg : mg ("law" : PySem.Str) = some (.ref fa) := by
        have e : (HandSHeadRun.topDef (OpenLaw.row PySem.Challenge.rw_alnage_k01_programs_read_back).prog 54).name = ("law" : PySem.Str) := by kernel_rfl
        rw [← e]
        exact hmg0
      obtain ⟨fd, hb, hF⟩ := Al.law_fnC KX G hmg c
      exact ⟨K, fd, Al.spLaw K, KX, hb, fun H a ns hl _ hS => ⟨a, ns, rfl, hS, hl, fun _ => rfl⟩, fun base _ _ => hF base⟩
    · rintro w H s e s' ⟨_, _, _, _, _, _, _, _, _, _, _, _, z⟩
      exact z
