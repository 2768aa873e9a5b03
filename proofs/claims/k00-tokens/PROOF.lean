import PyProof.Rows.All
import Wide.All
import OpenK.AllK
import Wide.FinOn
import HandS.ForMost
import HandS.ForExc
import HandS.ExcInit
import HandS.ExcSuper
import HandS.Nested
import KE.KExcSuper
import HandS.RaiseMore
import HandS.ExcField
import HandS.Defaults
import HandS.HeadEnd
import HandS.StrMore
import PyProof.ReprRoads
import HandS.Codes
import HandS.ExcCtx
import HandS.HotCalls
import HandS.Wide
import PyProof.StrOps2
import KE.IntTextLaws
import KE.KIntText
import PySem.Challenge.RW_alnage_k00_tokens
import HandS.TryOnly
import HandS.Zip
import HandS.Head0
import HandS.Head1
import HandS.Head2
import HandS.HeadHook1
import HandS.HeadHook2
set_option Elab.async false
set_option linter.all false
set_option maxRecDepth 100000
set_option maxHeartbeats 0
namespace Al
open PySem PySem.Spec PyProof.Rows L2 NdefX PySem.W
section
variable {prog : Program} {w : World} {A : Around} {E : Value → Shared → Prop} {h : Heap} {g : Array GenState} {d : Drawn} {t : Nat} {os : OsState}
variable {nm q : Str} {C N : Addr} {bs bm : List Value} {hdct : Bool} {sn : List Str} {sub : List Value} {ab : Bool} {col : Option Bool} {dd : Option Addr} {k0 k1 k2 k3 k5 : Option Value}
/-- the bound ValueError.__init__ called -/
theorem call_bwV {u e t0 : Addr} {rest : List Value} {Q : Value → Shared → Prop}
    (hC : h.get? C = some (excClassObj nm q C N bs bm hdct sn sub ab col dd k0 k1 k2 k3 k5 "ValueError.__new__")) (he : h.get? e = some (HandSPX.excO C t0)) (hu : h.get? u = some (kxs_mw "ValueError.__init__" e)) (hrest : rest.length ≤ sizeLine)
    (hq : ∀ h' t1, (∀ b o, b ≠ e → h.get? b = some o → h'.get? b = some o) → h'.get? e = some (HandSPX.excO C t1) → Q .none ⟨h', g, d, t, os⟩) :
    wpAny (model prog w) A (call (.ref u) rest) Q E ⟨h, g, d, t, os⟩ := by
  refine wpAny_call (codeAny_of_tree ?_)
  show wpAny _ A.in1 (callAny (.ref u) ⟨rest, []⟩) _ _ _
  simp only [callAny]
  refine wpAny_bind (wpAny_load hu ?_)
  simp only [kxs_mw, show (Value.type "method-wrapper" == Value.type "method" || Value.type "method-wrapper" == Value.type "builtin_function_or_method" || Value.type "method-wrapper" == Value.type "method-wrapper") = true by decide, if_true]
  refine W.KFB.if_so (by decide) ?_
  refine wpAny_bind (ESX.check_bound F.excBase_ValueError hC he rfl ?_)
  refine wpAny_bind (wpAny_pure (wpAny_pure ?_))
  refine ⟨Code.quiet_builtin _ (by decide +kernel), codeAny_builtin F.excBase_ValueError.initEntry ?_⟩
  rw [Around.under_plainId F.excBase_ValueError.init.plain _]
  wp_walk
  refine hq _ h.objs.size (fun b o hb ho => ?_) ?_
  · rw [Heap.get?_update_other _ _ (Ne.symm hb)]
    exact Heap.get?_push_of_some _ ho
  · rw [Heap.get?_update_self _ (Heap.get?_push_of_some _ he) rfl]
    rfl
end
/-- the facts about the class at D, whose __init__ says super().__init__(..) -/
structure SupC (K : Frag) (mg : Str → Option Value) (D cda cc : Addr) (P : Program) : Prop where
  ox : OexC K D
  cl : ∃ cd, clsIn K D = some cd
  ms : mroIn K D (.ref D) = some true
  sup : ks_superIn K D D "__init__" = some (some (.builtin "ValueError.__init__"))
  sV : subIn K (.ref D) (.type "ValueError") = some true
  sm : mg "super" = none
  st : nsIn K cStatics "thirdparty.any" = some none
  cell : ∃ cl cld csl, K.lookup cc = some ⟨cl, cld, .cell (some (.ref D)), csl⟩
  code : ∃ ccl cdd vs ccs file tf, K.lookup cda = some ⟨ccl, cdd, .fields vs, ccs⟩ ∧ vs[2]? = some (.str file tf) ∧ ((P.main.file : Str) == file) = true
  top : (P.main.scope.names.lookup ("super" : Str)).isSome = false
section
variable {CX : CXT} {P : Program} {w : World} {K : PySem.W.Frag} {mg : Str → Option Value} {base : Heap} {k : Nat} {f D cda cc : Addr} {name qual : Str} {params : Arguments} {scope : Scope} {kV doc pm ct oc : Value} {an od : Option Addr}
    {osl : Array (Option Value)} {N ps : List Str} {sp : Sp} {ex : Expr} {rest : List Stmt} {p0 p1 pa pc pe : Pos} {ar : Arg}
abbrev supBody (ex : Expr) (rest : List Stmt) (p0 p1 pa pc pe : Pos) : List Stmt := .Expr (.Call (.Attribute (.Call (.Name "super" p0) [] [] p1) "__init__" pa) [ex] [] pc) pe :: rest
abbrev supNF (name qual : Str) (params : Arguments) (body : List Stmt) (scope : Scope) (cc cda : Addr) : NF := ⟨name, qual, params, body, scope, [("__class__", cc)], cda⟩
theorem fn_super (lk : K.lookup f = some ⟨oc, od, .func (ksFn name qual params (supBody ex rest p0 p1 pa pc pe) scope .none kV doc pm an (.ref cda) ct cc), osl⟩)
    (hcd : codeIn K (.ref cda) qual = true) (T : SupC K mg D cda cc P) (S : NScope N ps ["__class__"] scope) (har : (params.posonlyargs ++ params.args).head? = some ar)
    (h0 : N[0]? = some ar.arg) (hsN : scope.names.lookup ("super" : Str) = some .globalImplicit)
    (hsw : ∀ L, swapsWith (.Call (.Attribute (.Call (.Name "super" p0) [] [] p1) "__init__" pa) [ex] [] pc) none pe.line (envF (supNF name qual params (supBody ex rest p0 p1 pa pc pe) scope cc cda) f L) = pure false)
    (hev : ∀ L, ∀ env, env = envF (supNF name qual params (supBody ex rest p0 p1 pa pc pe) scope cc cda) f L → ∃ pl, eval (.Call (.Attribute (.Call (.Name "super" p0) [] [] p1) "__init__" pa) [ex] [] pc) env = (do
      let ov ← attributeBase (.Call (.Name "super" p0) [] [] p1) "__init__" env (eval (.Call (.Name "super" p0) [] [] p1) env)
      standAt pa.atName
      let (f, first) ← holding [ov] (getMethod ov "__init__" pl)
      callWith pc f first (backTo pc (starEach [ex] env)) []))
    (hst : ∀ L, ∀ env, env = envF (supNF name qual params (supBody ex rest p0 p1 pa pc pe) scope cc cda) f L → starEach [ex] env = (false, eval ex env) :: starEach [] env)
    (len : ∀ vs H Q E, sp vs H Q E → vs.length = ps.length)
    (hbody : ∀ (A : Around) (outer : List Env) (s : Shared) (H : Hp) (vs : List V) (Q : VK) (E : XK), Room k (A.deeper (envF (supNF name qual params (supBody ex rest p0 p1 pa pc pe) scope cc cda) f s.heap.objs.size)) → sp vs H Q E →
      ∃ x xs, vs = .ref x :: xs ∧ H x = some (exo x D none) ∧ ∃ ta t, PA (ncx CX P w K mg base N (supNF name qual params (supBody ex rest p0 p1 pa pc pe) scope cc cda) f A outer s H E) [ex] ta ∧
        PSs (ncx CX P w K mg base N (supNF name qual params (supBody ex rest p0 p1 pa pc pe) scope cc cda) f A outer s H E) rest t ∧
        ta (startF N vs [none]) H (fun ws H1 => ws.length ≤ 1000 ∧ H1 x = some (exo x D none) ∧ t { nx := fun _ H' => Q .non H', rt := Q } (startF N vs [none]) H1)) :
    FnOk P w K mg base CX (k + 1) f (ksFn name qual params (supBody ex rest p0 p1 pa pc pe) scope .none kV doc pm an (.ref cda) ct cc) ps sp := by
  refine ⟨len, fun A outer s H args us vs Q E hr e0 hb r hsp => ?_⟩
  have hl := len _ _ _ _ hsp
  have KX : K.In s.heap := e0.mod.kin.keeps fun b o e => (e0.bs b o e).1
  have lim : s.heap.NoLimit := e0.mod.nolimit.keeps fun b o e => (e0.bs b o e).1
  obtain ⟨cl, cld, csl, hcell⟩ := T.cell
  have ccB := e0.mod.kin _ _ hcell
  have CA : CellsAt (supNF name qual params (supBody ex rest p0 p1 pa pc pe) scope cc cda).cl ["__class__"] [none] s.heap H := by
    refine ⟨rfl, fun y c hy => ?_, fun y z c h1 h2 => ?_, fun i y hi => ?_⟩
    · have : c = cc := by
        have h2 : List.lookup y [(("__class__" : Str), cc)] = some c := hy
        rw [List.lookup_cons] at h2
        split at h2
        · exact (Option.some.inj h2).symm
        · simp at h2
      subst this
      exact ⟨(e0.bs _ _ ccB).2, some (.ref D), _, (e0.bs _ _ ccB).1, rfl⟩
    · have h1' : List.lookup y [(("__class__" : Str), cc)] = some c := h1
      have h2' : List.lookup z [(("__class__" : Str), cc)] = some c := h2
      rw [List.lookup_cons] at h1' h2'
      split at h1' <;> rename_i e1
      · split at h2' <;> rename_i e2
        · rw [beq_iff_eq.mp e1, beq_iff_eq.mp e2]
        · simp at h2'
      · simp at h1'
    · match i, hi with
      | 0, hi =>
        have hi : some (("__class__" : Str)) = some y := hi
        have := Option.some.inj hi
        subst this
        exact ⟨cc, rfl, fun v hv => by simp at hv⟩
      | i + 1, hi => simp at hi
  refine ks_codeAny_call_defAt (fd := ksFn name qual params (supBody ex rest p0 p1 pa pc pe) scope .none kV doc pm an (.ref cda) ct cc) (body := supBody ex rest p0 p1 pa pc pe) (binds := ps.zip us) hr.depth (KX _ _ lk) rfl lim (codeRec_of KX hcd) rfl hb S.nocell
    (fun ⟨n, v⟩ hy => S.par n (List.of_mem_zip hy).1) (fun h₁ hns kp => ?_) S.co S.gen S.kind
  obtain ⟨x, xs, rfl, hx, ta, t, hA, hS, hq⟩ := hbody A outer s H vs Q E (hr.deeper _) hsp
  have I : Inv (ncx CX P w K mg base N (supNF name qual params (supBody ex rest p0 p1 pa pc pe) scope cc cda) f A outer s H E) [] (startF N (.ref x :: xs) [none]) H { s with heap := h₁, toks := s.toks + (ps.zip us).length } := inv_startN S hr.hd e0 hl r CA hns kp
  let env := envF (supNF name qual params (supBody ex rest p0 p1 pa pc pe) scope cc cda) f s.heap.objs.size
  let X := ncx CX P w K mg base N (supNF name qual params (supBody ex rest p0 p1 pa pc pe) scope cc cda) f A outer s H E
  have hxC : H x ≠ none := by rw [hx]; exact fun z => nomatch z
  -- the frame's name self
  obtain ⟨m, hn, hlk⟩ := id I.loc
  have hpar : scope.names.lookup ar.arg = some .local := by
    cases ps with
    | nil => simp at hl
    | cons p ps =>
      have q := S.pre
      have e1 : (N.take ((p :: ps).length + 1))[0]? = N[0]? := by
        rw [List.getElem?_take_of_lt (by simp)]
      have q2 : List.take ((p :: ps).length + 1) N = p :: ps ++ [("__class__" : Str)] := q
      rw [q2] at e1
      have e2 : some p = N[0]? := e1
      rw [h0] at e2
      have e3 : p = ar.arg := Option.some.inj e2
      rw [← e3]
      exact S.par p (by simp)
  have hlen0 : 0 < N.length := by
    rcases List.getElem?_eq_some_iff.mp h0 with ⟨z, _⟩
    exact z
  have hself : m ar.arg = some (.ref x) := by
    obtain ⟨u, ru, q⟩ := hlk 0 ar.arg (.ref x) h0 rfl (.inl hpar)
    obtain rfl : u = Value.ref x := ru
    rcases q with ⟨_, e⟩ | ⟨kk, _⟩
    · exact e
    · rcases kk with kk | kk
      · have kk' : scope.names.lookup ar.arg = some .cell := kk
        rw [hpar] at kk'; cases kk'
      · have kk' : scope.names.lookup ar.arg = some .free := kk
        rw [hpar] at kk'; cases kk'
  have hfree : scope.names.lookup ("__class__" : Str) = some .free := S.frk _ (by simp)
  obtain ⟨ccl, cdd, cvs, ccs, file, tf, hcode, hvs, hfile⟩ := T.code
  obtain ⟨cdD, hclD⟩ := T.cl
  show PySem.wpAt (model P w) (A.deeper env) (.func (supBody ex rest p0 p1 pa pc pe) env) (execs (supBody ex rest p0 p1 pa pc pe) env) _ _ _
  refine ks_wpAt_execs_cons (ks_wpAt_Expr_any ?_ (by show interactive env = false; simp [interactive, env, S.kind]) (hsw _))
  obtain ⟨pl, hev⟩ := hev _ env rfl
  refine ks_wpAt_MethodCall (pl := pl) ?_ hev
  have KX1 : K.In h₁ := I.kIn
  obtain ⟨oD, hD1, hD2⟩ : ∃ oD, h₁.get? D = some oD ∧ oD.data = .cls cdD := by
    unfold clsIn at hclD
    split at hclD
    · rename_i c d cd' sl ho
      cases hclD
      exact ⟨_, KX1 _ _ ho, rfl⟩
    · cases hclD
  obtain ⟨t1, hx1⟩ := exo_at I.hok hx
  obtain ⟨mb, hb1, hb2⟩ := I.mod.blt
  have IA : InstAt h₁ x (HandSPX.excO D t1) D none := ⟨hx1, rfl, rfl, trivial⟩
  refine ks_wpAt_super_base (env := env) hsN hfree (by decide) rfl (KX1 _ _ lk) rfl har rfl (KX1 _ _ hcode) rfl hvs hfile T.top ?_
  refine ks_loadName_global S.kind hsN (Calls.loadGlobal_builtin (env := env) (I.mod.glob.keeps I.bk) T.sm (hb1.keeps I.bk) ((hb2 _ (by decide)).trans (by decide +kernel : bootBuiltins "super" = some (.type "super"))) ⟨rfl, ?_⟩)
  refine wpAny_loadName_free S.kind hfree rfl ⟨_, KX1 _ _ hcell, rfl⟩ ?_
  refine wpAny_loadName_local S.kind hpar hn hself ?_
  refine ks_wpAny_isType_cls hD1 hD2 ⟨rfl, ?_⟩
  refine ks_wpAny_call_super hD1 hD2 IA.at_ IA.cls (fun c e => ?_) (looks_mroIn KX1 T.ms) (fun h2 e2 k2 => ?_)
  · have := IA.no
    unfold notCls at this
    rw [e] at this
    exact Bool.noConfusion this
  have I2 : Inv X [] (startF N (.ref x :: xs) [none]) H { s with heap := h2, toks := s.toks + (ps.zip us).length } := I.kept k2
  have KX2 : K.In h2 := I2.kIn
  have IA2 : InstAt h2 x (HandSPX.excO D t1) D none := ⟨k2 _ _ hx1, rfl, rfl, trivial⟩
  have hsup := T.sup
  unfold ks_superIn at hsup
  rw [hclD] at hsup
  refine kxs_getMethod kxs_ValueError e2 (looks_opaque KX2 T.st) (l₀ := cdD.mro) (fun A Q E s k q => wpAny_bind ((looks_clsIn KX2 hclD) A _ E s k (wpAny_pure q))) rfl KX2 hsup
    (IA2.type.andThen (looks_subIn KX2 T.sV)) (ks_ne KX2 IA2 hclD) (by decide) ?_
  have k3 : ∀ b o, h2.get? b = some o → (h2.push (kxs_mw "ValueError.__init__" x)).get? b = some o := fun b o e => Heap.get?_push_of_some _ e
  have I3 : Inv X [] (startF N (.ref x :: xs) [none]) H { s with heap := h2.push (kxs_mw "ValueError.__init__" x), toks := s.toks + (ps.zip us).length + 1 } := I2.kept (t' := s.toks + (ps.zip us).length + 1) k3
  have hu3 : (h2.push (kxs_mw "ValueError.__init__" x)).get? h2.objs.size = some (kxs_mw "ValueError.__init__" x) := Heap.get?_push_at rfl rfl
  have I4 : Inv X [(h2.objs.size, kxs_mw "ValueError.__init__" x)] (startF N (.ref x :: xs) [none]) H { s with heap := h2.push (kxs_mw "ValueError.__init__" x), toks := s.toks + (ps.zip us).length + 1 } := I3.pins_of (by
    intro p hp
    obtain rfl : p = (h2.objs.size, kxs_mw "ValueError.__init__" x) := by simpa using hp
    refine ⟨hu3, I2.hok.fresh (Nat.le_refl _), Nat.ne_of_gt I2.lt, I2.nofs (Nat.le_refl _), fun v z => nomatch z⟩)
  show wpAny _ _ (callWith pc (.ref h2.objs.size) [] (backTo pc (starEach [ex] env)) []) _ _ _
  have hst' := hst _ env rfl
  have hAr := hA.run pc [(h2.objs.size, kxs_mw "ValueError.__init__" x)] _ _ _ _ I4 hq
  have hAr2 : wpAny (model P w) (A.deeper env) (spliced (backTo pc (starEach [ex] env))) _ _ _ := hAr
  rw [hst'] at hAr2 ⊢
  refine kxs_callWith (i := "ValueError.__init__") (x := x) rfl (Calls.evalArgs_plain (wpAny_mono hAr2 (fun ws' s4 h4 => ?_) fun e s' hs => hs))
  obtain ⟨ws, H1, I5, r5, hz, hx5, q5⟩ := h4
  have hpin := (I5.pin (h2.objs.size, kxs_mw "ValueError.__init__" x) (by simp)).1
  refine ⟨hpin, ?_⟩
  obtain ⟨nm, qn, N', bs, bm, sn, sub, ab, col, dd, k0, k1, k2', k3', k5, hC, hbm⟩ := T.ox.cls
  obtain ⟨t5, ho5⟩ := exo_at I5.hok hx5
  obtain ⟨h5, g5, d5, tk5, os5⟩ := s4
  have hlen5 : ws'.length ≤ sizeLine := by
    rw [← Paired.length r5, sizeLine_eq]
    omega
  refine call_bwV (I5.kIn _ _ hC) ho5 hpin hlen5 fun h6 t6 k6 hx6 => ?_
  have J := I5.write (t' := tk5) (x := x) (e := x) (o := exo x D none) (by rw [hx5]; exact True.intro) (.inl rfl) k6 ⟨_, hx6⟩ (exo_ok hx6)
  have eu : upd H1 x (exo x D none) = H1 := by
    funext b
    by_cases hb : b = x
    · rw [hb, upd_same, hx5]
    · rw [upd_ne hb]
  rw [eu] at J
  have J0 : Inv X [] (startF N (.ref x :: xs) [none]) H1 ⟨h6, g5, d5, tk5, os5⟩ := J.pins_of (by intro p hp; simp at hp)
  show PySem.wpAt (model P w) (A.deeper env) _ (execs rest env) _ _ _
  refine PySem.wpAt_of_wpAny ?_
  refine wpAny_mono (hS.run [] _ _ _ _ J0 q5) (fun fl s' hs => ?_) fun e s' hs => hs
  have fin : ∀ {σ' : L2.St} {H' : Hp} {v : V} {u : Value}, Inv X [] σ' H' s' → L2.RelV v u → Q v H' → CE outer P w H s Q u s' :=
    fun {σ' H' v u} J rv q => ⟨v, H', J.os, J.bare, J.base, J.hok, rv, q⟩
  cases fl with
  | ret u =>
    obtain ⟨v, σ', H', J, rv, q⟩ := hs
    exact fin J rv q
  | next =>
    obtain ⟨σ', H', J, q⟩ := hs
    exact fin (v := V.non) (u := Value.none) J rfl q
  | brk =>
    obtain ⟨_, _, _, q⟩ := hs
    exact False.elim q
  | cont =>
    obtain ⟨_, _, _, q⟩ := hs
    exact False.elim q
/-- the promise of an __init__ that keeps one field -/
def spX1 (D : Addr) (f : Str) (C : V → Prop) : Sp := fun vs H Q _ => ∃ x v, vs = [.ref x, v] ∧ C v ∧ H x = some (exo x D none) ∧
  ∀ dx, H dx = none → dx ≠ x → Q .non (upd (upd H dx (exd dx [(f, v)])) x (exo x D (some dx)))
end
end Al
namespace Al
open PySem PySem.Spec PyProof.Rows L2 NdefX PySem.W
/-! ### the law's own def, called from outside: what runs around it is known (no guards: repr needs that) -/
structure FnC (P : Program) (w : World) (K : Frag) (mg : Str → Option Value) (base : Heap) (CX : CXT) (f : Addr) (fd : FuncData) (ps : List Str) (sp : Sp) : Prop where
  go : ∀ (s : Shared) (H : Hp) (args : Args) (us : List Value) (vs : List V) (Q : VK) (E : XK), Env0 P w K mg base callerA [] s H → BindsTo s fd args (ps.zip us) → Vals vs us → sp vs H Q E →
    codeAny (model P w) callerA (.call (.ref f) args) (CR CX [] P w H s Q E) s
section
variable {P : Program} {w : World} {K : Frag} {mg mb : Str → Option Value} {base : Heap} {CX : CXT} {f : Addr} {fd : FuncData} {N ps : List Str} {k : Nat} {sp : Sp}
theorem fnC_of {x qual : Str} {params : Arguments} {body : List Stmt} {scope : Scope} {dvs : List V} {kws : List (Str × V)} (hr : Room (k + 1) callerA) (F : FunD K x qual params body scope dvs kws f fd) (S : FnScope N ps scope)
    (len : ∀ vs H Q E, sp vs H Q E → vs.length = ps.length)
    (hbody : ∀ (cdv : Value) (s : Shared) (H : Hp) (vs : List V) (Q : VK) (E : XK), Room k (callerA.deeper (envOfC qual scope s.heap.objs.size f cdv)) → sp vs H Q E →
      ∃ t, PSs (cxOf CX P w K mg base N qual scope f cdv callerA [] s H E) body t ∧ t { nx := fun _ H' => Q .non H', rt := Q } (start N vs) H) : FnC P w K mg base CX f fd ps sp := by
  obtain ⟨oc, od, dV, kV, doc, pm, an, cdv, ct, osl, rfl, lk, hcd, _, _⟩ := F.ex
  refine ⟨fun s H args us vs Q E e0 hb rv hsp => ?_⟩
  have lenv : vs.length = ps.length := len _ _ _ _ hsp
  have inK : K.In s.heap := e0.mod.kin.keeps fun b o e => (e0.bs b o e).1
  have nolim : s.heap.NoLimit := e0.mod.nolimit.keeps fun b o e => (e0.bs b o e).1
  refine codeAny_call_function hr.depth (inK _ _ lk) rfl S.co S.gen rfl (codeRec_of inK hcd) (hb _ _ _ _ ?_)
  refine wpAny_newFunctionEnv_cells S.kind ?pk fun env he s1 x => ?_
  case pk =>
    rintro ⟨n, v⟩ hy
    have nin : n ∈ ps := (List.of_mem_zip hy).1
    rcases S.par n nin with hl | hc
    · exact .inl hl
    · refine .inr ⟨hc, ?_⟩
      exact cellsFrom_some scope.names _ _ (.inl hc)
  subst he
  refine ⟨nolim.keeps x.toInCall.keep, codeAny_func ?_⟩
  obtain ⟨t, ht, hq⟩ := hbody cdv s H vs Q E (hr.deeper _) hsp
  have I := inv_start (CX := CX) (E := E) S hr.hd e0 lenv rv x
  refine wpAny_mono (ht.run [] s1 (start N vs) H _ I hq) (fun fl s' hs => ?_) (fun e s' hs => hs)
  cases fl with
  | next => exact let ⟨σ', H', J, q⟩ := hs; ⟨V.non, H', J.os, J.bare, J.base, J.hok, rfl, q⟩
  | ret u => exact let ⟨v, σ', H', J, rv, q⟩ := hs; ⟨v, H', J.os, J.bare, J.base, J.hok, rv, q⟩
  | brk => exact let ⟨_, _, _, q⟩ := hs; q.elim
  | cont => exact let ⟨_, _, _, q⟩ := hs; q.elim
theorem law_callC {fa a : Addr} {x : Str} {s₁ : Shared} {vs : List Value} {ns : List Int}
    (KX : K.In s₁.heap) (gl : s₁.heap.Ns mainGlobals mg) (bl : s₁.heap.Ns builtinsNs mb) (bls : ∀ x : Str, x ≠ "__name__" → mb x = bootBuiltins x) (lim : s₁.heap.NoLimit) (gens : s₁.gens = #[])
    (scr : s₁.heap.get? a = some { cls := .type "list", data := .seq vs.toArray }) (areI : IntsAre vs ns) (small : ns.length ≤ sizeLine)
    (F : ∀ base : Heap, K.In base → base.Ns mainGlobals mg → FnC P w K mg base CX fa fd [x] sp) (bind : ∀ (s : Shared) (u : Value), BindsTo s fd ⟨[u], []⟩ [(x, u)])
    (prom : ∀ H : Hp, Only H → SqL K H a (ns.map V.int) → sp [.ref a] H (fun v _ => v = .bl true) fun _ _ _ => False)
    (noexc : ∀ H e s', CX [] H s₁ (fun _ _ _ => False) e s' → False) :
    codeAny (model P w) callerA (.call (.ref fa) ⟨[.ref a], []⟩) (fun r s' => r = .ok (.ret (.bool true)) ∧ OldK s₁.heap s'.heap ∧ s'.os = s₁.os ∧ AllBare s'.gens) s₁ := by
  have rels := vals_ints areI
  have lens := areI.length
  have main : ∀ H : Hp, Only H → SqL K H a (ns.map V.int) → HOk P w H s₁.heap → (∀ b, H b ≠ none → b = a) → (H a ≠ none → K.lookup a = none) →
      codeAny (model P w) callerA (.call (.ref fa) ⟨[.ref a], []⟩) (fun r s' => r = .ok (.ret (.bool true)) ∧ OldK s₁.heap s'.heap ∧ s'.os = s₁.os ∧ AllBare s'.gens) s₁ := by
    intro H only seq ok alone apart
    have notDict : ∀ {b : Addr} {o : Obj} {es : Array DictEntry} {ep : Nat}, s₁.heap.get? b = some o → o.data = .dict es ep → H b = none := by
      intro b o es ep e d
      cases q : H b with
      | none => rfl
      | some u =>
        obtain rfl : b = a := alone b (by rw [q]; intro z; cases z)
        rw [scr] at e
        cases e
        exact nomatch (show Data.seq vs.toArray _ = Data.dict es ep from d)
    have nss : ∀ {b : Addr} {m : Str → Option Value}, s₁.heap.Ns b m → (hidT s₁.heap H).Ns b m := by
      rintro b m ⟨o, es, ep, e, d, r⟩
      exact ⟨o, es, ep, hidT_get e (notDict e d), d, r⟩
    have inB : K.In (hidT s₁.heap H) := by
      intro b o e
      refine hidT_get (KX b o e) ?_
      cases q : H b with
      | none => rfl
      | some u =>
        obtain rfl : b = a := alone b (by rw [q]; intro z; cases z)
        rw [apart (by rw [q]; intro z; cases z)] at e
        cases e
    have md : Mod K mg (hidT s₁.heap H) := by
      obtain ⟨mc, h1, h2⟩ := lim
      exact ⟨inB, nss gl, ⟨mb, nss bl, bls⟩, mc, nss h1, h2⟩
    have env0 : Env0 P w K mg (hidT s₁.heap H) callerA [] s₁ H := by
      refine ⟨rfl, md, fun b o e => of_hidT e, Nat.le_of_eq (hidT_size _ _), trivial, ?_, ok, .of_eq gens⟩
      intro b hb
      exact absurd (show b ∈ ([] : List Addr) from hb) List.not_mem_nil
    refine codeAny_mono ((F _ inB (nss gl)).go s₁ H ⟨[.ref a], []⟩ [.ref a] [.ref a] _ _ env0 (bind s₁ (.ref a)) (.cons rfl .nil) (prom H only seq)) ?_
    intro r s' h
    match r, h with
    | .error e, h => exact (noexc H e s' h).elim
    | .ok .next, h => exact h.elim
    | .ok .brk, h => exact h.elim
    | .ok .cont, h => exact h.elim
    | .ok (.ret u), ⟨v, H', os, bare, un, ok', ru, q⟩ =>
      obtain rfl : v = .bl true := q
      obtain rfl : u = Value.bool true := ru
      refine ⟨rfl, OldK.of_keep ?_, os, bare⟩
      intro b o e
      cases q : H b with
      | none => exact un.keep b o e q (fun z => List.not_mem_nil (show b ∈ ([] : List Addr) from z)) List.not_mem_nil
      | some u =>
        rcases only b with z | ⟨ob, xs, z⟩
        · exact nomatch q.symm.trans z
        · have e1 := (ok b _ z).1
          have e2 := (ok' b _ (un.frzs b ob _ z)).1
          exact e2.trans (e1.symm.trans e)
  cases hk : K.lookup a with
  | some o =>
    have e := (KX a o hk).symm.trans scr
    cases e
    refine main (fun _ => none) (fun _ => .inl rfl) (.inr ⟨_, vs.toArray, _, hk, rfl, rfl, rfl, ?_, ?_⟩) (fun b u z => nomatch (show (none : Option HO) = some u from z)) (fun b z => absurd rfl z) (fun z => absurd rfl z)
    · rw [List.size_toArray, lens]
      exact small
    · simpa using rels
  | none =>
    let H : Hp := fun b => if b = a then some (.frz { cls := .type "list", data := .seq vs.toArray } (.lst (ns.map V.int))) else none
    have at_ : H a = some (.frz { cls := .type "list", data := .seq vs.toArray } (.lst (ns.map V.int))) := if_pos rfl
    have off : ∀ b, b ≠ a → H b = none := fun b hb => if_neg hb
    refine main H (fun b => ?_) (.inl (.inr ⟨_, at_⟩)) (fun b u z => ?_) (fun b z => ?_) (fun _ => hk)
    · by_cases hb : b = a
      · exact .inr ⟨_, _, by rw [hb]; exact at_⟩
      · exact .inl (off b hb)
    · by_cases hb : b = a
      · subst hb
        rw [at_] at z
        cases z
        exact ⟨scr, by rw [List.length_map]; exact small, vs, _, rels, scr⟩
      · rw [off b hb] at z
        cases z
    · by_cases hb : b = a
      · exact hb
      · exact absurd (off b hb) z
end
/-- the end of a law over a head by facts -/
theorem walk_C {l : OpenLaw} {n : Nat} {q : Program} {loose : List Str} {XP : (Str → Option Value) → Heap → Prop} {YP : World → Heap → Prop} {d : DefRec} {CX : CXT} {x : Str}
    (hn : l.most = some n) (hn2 : n ≤ sizeLine) (hdf : d.params.defaults = [])
    (F : ∀ (w : World) (mg : Str → Option Value) (fa : Addr) (h : Heap), YP w h → h.Ns mainGlobals mg → mg d.name = some (.ref fa) →
      ∃ (K : Frag) (fd : FuncData) (sp : Sp), K.In h ∧ (∀ (s : Shared) (u : Value), BindsTo s fd ⟨[u], []⟩ [(x, u)]) ∧
        (∀ (H : Hp) (a : Addr) (ns : List Int), ns.length ≤ n → Only H → SqL K H a (ns.map V.int) → sp [.ref a] H (fun v _ => v = .bl true) fun _ _ _ => False) ∧
        ∀ base : Heap, K.In base → base.Ns mainGlobals mg → FnC l.prog w K mg base CX fa fd [x] sp)
    (noexc : ∀ (H : Hp) (s : Shared) (e : Value) (s' : Shared), CX [] H s (fun _ _ _ => False) e s' → False) :
    WalkO q loose XP YP l.row.toRowW d [] (fun f vs => PySem.call f vs) := by
  refine Att.attach_call hn hdf ?_
  intro w s₀ s₁ mg mb fa o pm cd doc a vs ns G Y ho hd hcd hmg hobj hints hlen hg
  obtain ⟨K, fd, sp, KX, hb, hsp, hF⟩ := F w mg fa _ Y G.T.g hmg
  exact law_callC KX G.T.g G.T.b G.T.builtins G.T.nolimit hg hobj hints (Nat.le_trans hlen hn2) hF hb (fun H o s => hsp H a ns hlen o s) (fun H e s' => noexc H s₁ e s')
end Al
namespace Al
open PySem PySem.Spec PyProof.Rows L2 NdefX PySem.W
section
variable {X : Cx}
/-! ### repr of nested data -/
def rRepr (K : Frag) : List V → Hp → VK → Prop := fun xs H Q => ∃ a d, xs = [.ref a] ∧ Dp K H (.ref a) d ∧ d.showable = true ∧ d.hasDict = false ∧ d.depth ≤ 100 ∧ d.shown.length ≤ sizeLine ∧ Q (.str d.shown) H
theorem call_reprD (hg : X.A.guards = some []) (hu : X.A.units + 110 < cLine) : CallR X (.builtin "repr") (rRepr X.K) := by
  intro pins s σ H vs us Q I rv h
  obtain ⟨a, d, rfl, hd, hs, hn, hdp, hz, q⟩ := h
  cases rv with
  | cons r t =>
    cases t
    cases r
    obtain ⟨as, r⟩ := Dp.reads I d _ _ hd rfl
    exact repr_of_reads' r hs (PyData.noDict_hsm hn) hg (by omega) (fun _ _ e => e) (fun h' u tk k => ⟨.str _, H, I.kept k, ⟨_, rfl⟩, q⟩) hz
/-! ### text * number -/
def timesS (z : Str) (n : Nat) : Str := ⟨((List.replicate n z.cps.toList).flatten).toArray⟩
theorem fold_rep (n : Nat) (a : Array Nat) (b : Array Nat) : (List.replicate n a).foldl (· ++ ·) b = b ++ ((List.replicate n a.toList).flatten).toArray := by
  induction n generalizing b with
  | zero => simp
  | succ n ih =>
    rw [List.replicate_succ, List.foldl_cons, ih, List.replicate_succ, List.flatten_cons]
    apply Array.ext'
    simp
theorem timesS_eq (z : Str) (n : Nat) : (⟨(List.replicate n z.cps).foldl (· ++ ·) #[]⟩ : Str) = timesS z n := by
  unfold timesS
  rw [fold_rep]
  simp
theorem timesS_zero (z : Str) : timesS z 0 = Str.empty := rfl
theorem timesS_one (z : Str) : timesS z 1 = z := by
  unfold timesS
  simp
theorem timesS_nil (z : Str) (n : Nat) (h : z.length = 0) : timesS z n = z := by
  have h2 : z.cps = #[] := Array.size_eq_zero_iff.mp h
  obtain ⟨c⟩ := z
  have h3 : c = #[] := h2
  subst h3
  unfold timesS
  congr 1
  induction n with
  | zero => rfl
  | succ n ih => rw [List.replicate_succ, List.flatten_cons]; simpa using ih
theorem timesS_length (z : Str) (n : Nat) : (timesS z n).length = n * z.length := by
  show ((List.replicate n z.cps.toList).flatten).toArray.size = n * z.cps.size
  simp
def rMulS : R2 := fun x y H Q => ∃ (z : Str) (n : Nat), x = .str z ∧ y = .int (n : Int) ∧ n ≤ 1000000 ∧ z.length * n ≤ 1000000 ∧ Q (.str (timesS z n)) H
theorem op_mulS : OpR X (binaryOp .Mult) rMulS := by
  intro pins s σ H x y v u Q I rx ry h
  obtain ⟨z, n, rfl, rfl, hn, hz, q⟩ := h
  obtain ⟨t, rfl⟩ := rx
  obtain ⟨t', rfl⟩ := ry
  refine PySem.P.mul_str (by simp; omega) (fun h1 h2 => ?_) (fun h1 h2 => ?_) ?_
  · have h3 : (2 ^ 63 - 1) / (n : Int) ≥ 1000000 := by
      rw [ge_iff_le, Int.le_ediv_iff_mul_le (by omega)]
      have : (1000000 : Int) * (n : Int) ≤ 1000000 * 1000000 := Int.mul_le_mul_of_nonneg_left (by omega) (by decide)
      omega
    have h4 : z.length ≤ 1000000 := by
      have : z.length * 1 ≤ z.length * n := Nat.mul_le_mul_left _ (by omega)
      omega
    omega
  · have e : ((n : Int).toNat) = n := by omega
    rw [e]
    unfold Builtin.Str.tooLong
    rw [decide_eq_false_iff_not]
    have := sizeLine_eq
    omega
  · have e : ((n : Int).toNat) = n := by omega
    rw [e, timesS_eq]
    split
    · rename_i h1
      have : n = 0 := by omega
      subst this
      exact ⟨by decide, ⟨.str (timesS z 0), H, I.tok _, ⟨_, rfl⟩, q⟩⟩
    · split
      · rename_i h1 h2
        have e2 : timesS z n = z := by
          rw [Bool.or_eq_true] at h2
          rcases h2 with h2 | h2
          · have : n = 1 := by
              have := beq_iff_eq.mp h2
              omega
            rw [this, timesS_one]
          · exact timesS_nil _ _ (beq_iff_eq.mp h2)
        rw [e2] at q
        exact ⟨.str z, H, I, ⟨_, rfl⟩, q⟩
      · refine ⟨?_, ⟨.str (timesS z n), H, I.tok _, ⟨_, rfl⟩, q⟩⟩
        rw [timesS_length, Nat.mul_comm, sizeLine_eq]
        omega
end

/-! ### defs of the text by name -/
abbrev FnP (K : Frag) (x : Str) (st : Stmt) (f : Addr) (fd : FuncData) : Prop := FunD K x x (defArgs st) (defBody st) (defScope st) [] [] f fd
structure DefAt (K : Frag) (mg : Str → Option Value) (x : Str) (st : Stmt) : Prop where
  ex : ∃ f fd, mg x = some (.ref f) ∧ FnP K x st f fd
structure Cal (P : Program) (w : World) (K : Frag) (mg : Str → Option Value) (base : Heap) (k : Nat) (x : Str) (ps : List Str) (sp : Sp) : Prop where
  ex : ∃ f fd, mg x = some (.ref f) ∧ keepIn K (.ref f) = true ∧ Binds K fd ps [] ∧ FnOk P w K mg base (L2N.CX P w) k f fd ps sp
theorem Cal.mono {P : Program} {w : World} {K : Frag} {mg : Str → Option Value} {base : Heap} {j k : Nat} {x : Str} {ps : List Str} {sp : Sp} (c : Cal P w K mg base j x ps sp) (h : j ≤ k) : Cal P w K mg base k x ps sp := by
  obtain ⟨f, fd, h1, h2, h3, h4⟩ := c.ex
  exact ⟨f, fd, h1, h2, h3, h4.mono h⟩
theorem Cal.imp {P : Program} {w : World} {K : Frag} {mg : Str → Option Value} {base : Heap} {k : Nat} {x : Str} {ps : List Str} {sp sp' : Sp} (c : Cal P w K mg base k x ps sp) (h : ∀ vs H Q E, sp' vs H Q E → sp vs H Q E) : Cal P w K mg base k x ps sp' := by
  obtain ⟨f, fd, h1, h2, h3, h4⟩ := c.ex
  exact ⟨f, fd, h1, h2, h3, h4.imp h⟩
theorem cal_mk {P : Program} {w : World} {K : Frag} {mg : Str → Option Value} {base : Heap} {k : Nat} {x : Str} {st : Stmt} {N ps : List Str} {sp : Sp} (dx : DefAt K mg x st) (S : FnScope N ps (defScope st))
    (hb : ∀ (kV doc pm : Value) (an : Option Addr) (cdv ct : Value) (us : List Value), us.length = ps.length → bindArgs (fnOf x x (defArgs st) (defBody st) (defScope st) .none kV doc pm an cdv ct) ⟨us, []⟩ = pure (ps.zip us))
    (len : ∀ vs H Q E, sp vs H Q E → vs.length = ps.length)
    (hbody : ∀ (f : Addr) (cdv : Value) (A : Around) (outer : List Env) (s : Shared) (H : Hp) (vs : List V) (Q : VK) (E : XK), Room k (A.deeper (envOfC x (defScope st) s.heap.objs.size f cdv)) → sp vs H Q E →
      ∃ t, PSs (cxOf (L2N.CX P w) P w K mg base N x (defScope st) f cdv A outer s H E) (defBody st) t ∧ t { nx := fun _ H' => Q .non H', rt := Q } (start N vs) H) : Cal P w K mg base (k + 1) x ps sp := by
  obtain ⟨f, fd, hm, F⟩ := dx.ex
  exact ⟨f, fd, hm, F.kp, F.bindsN hb, F.ok S len (hbody f)⟩
section
variable {X : Cx}
theorem pe_cal {x : Str} {p pos : Pos} {k : Nat} {ps : List Str} {sp : Sp} {W : WX} {e : Expr} {es : List Expr} {ta : TA} (G : Cal X.prog X.w X.K X.mg X.base k x ps sp) (hr : Room k X.A) (tk : L2N.Takes X W) (ha : PA X (e :: es) ta) (hg : Gl X x := by rfl)
    (hdb : (x == ("__debug__" : Str)) = false := by decide) (he : starEach (e :: es) X.env = (false, eval e X.env) :: starEach es X.env := by rfl) (hpl : (backTo pos (starEach es X.env)).any (·.1) = false := by rfl) :
    PE X (.Call (.Name x p) (e :: es) [] pos) (tCallS sp (WE W) ta) := by
  obtain ⟨f, fd, hm, hk, hb, F⟩ := G.ex
  exact pe_callS F hr hg hm hk hb (fun σ => L2N.passAt tk σ) ha hdb he hpl
end
section
variable {X : Cx}
theorem pe_gint {x : Str} {i : Int} {pos : Pos} (hm : ∃ t, X.mg x = some (.int i t)) (hg : Gl X x := by rfl) (hd : (x == ("__debug__" : Str)) = false := by decide) : PE X (.Name x pos) (tC (.int i)) := by
  obtain ⟨t, h⟩ := hm
  exact pe_glob hg h ⟨t, rfl⟩ hd
theorem pe_gref {x : Str} {a : Addr} {pos : Pos} (hm : X.mg x = some (.ref a)) (hg : Gl X x := by rfl) (hd : (x == ("__debug__" : Str)) = false := by decide) : PE X (.Name x pos) (tC (.ref a)) := pe_glob hg hm rfl hd
end
theorem noexcX {P : Program} {w : World} (H : Hp) (s : Shared) (e : Value) (s' : Shared) (h : L2N.CX P w [] H s (fun _ _ _ => False) e s') : False := by
  obtain ⟨_, _, _, _, _, _, _, _, _, _, _, _, z⟩ := h
  exact z
/-! ### raising an exception that keeps one field -/
structure ExC1 (P : Program) (w : World) (K : Frag) (mg : Str → Option Value) (base : Heap) (x : Str) (D : Addr) (f : Str) (C : V → Prop) : Prop where
  gm : mg x = some (.ref D)
  ox : OexC K D
  fi : ∃ fI fd, findIn K (.ref D) "__init__" = some (some (.ref fI)) ∧ typeIn K (.ref fI) = some (.type "function") ∧ Binds K fd ["self", f] [] ∧ FnOk P w K mg base (L2N.CX P w) 1 fI fd ["self", f] (spX1 D f C)
  xf : XfC K D
  nf : findIn K (.ref D) f = some none
section
variable {X : Cx}
theorem passN : Passes (L2N.CX X.prog X.w) X E0 := by
  rintro _ _ _ _ _ _ _ ⟨_, _, _, _, _, _, _, _, _, _, _, _, z⟩
  exact z.elim
/-- an own exception is made where nothing is handled: its context is None -/
theorem pmk_oexN {x : Str} {e : Expr} {es : List Expr} {ta : TA} {p pos : Pos} {D fI : Addr} {k : Nat} {fd : FuncData} {ps : List Str} {sp : Sp} (T : OexC X.K D) (hi : findIn X.K (.ref D) "__init__" = some (some (.ref fI))) (ht : typeIn X.K (.ref fI) = some (.type "function"))
    (FI : FnOk X.prog X.w X.K X.mg X.base (L2N.CX X.prog X.w) k fI fd ps sp) (hr : Room (k + 1) X.A) (hb : Binds X.K fd ps []) (hg : Gl X x) (hm : X.mg x = some (.ref D)) (ha : PA X (e :: es) ta)
    (hdb : (x == ("__debug__" : Str)) = false) (he : starEach (e :: es) X.env = (false, eval e X.env) :: starEach es X.env) (hpl : (backTo pos (starEach es X.env)).any (·.1) = false) :
    L2N.PMk X (.Call (.Name x p) (e :: es) [] pos) (tMkO D sp [] ta) := by
  intro pins s σ H Q I h
  obtain ⟨nm, qn, ns, bs, bm, sn, sub, ab, col, dd, k0, k1, k2, k3, k5, hD, hbm⟩ := T.cls
  refine wpAny_Call_Name_kw (ld_glob I hg hm (callWith_K (h₀ := X.base) I.ok.mod.kin T.kC ?_ he hpl) hdb)
  refine thn (ha.run pos pins s σ H _ I h) ?_
  rintro us ⟨hp, g, dr, tk, os⟩ ⟨vs, H1, I1, r1, hz, q1⟩
  refine ⟨I1.kIn, ?_⟩
  let a : Addr := hp.objs.size + 1
  let hp' := (hp.push (kdv_tup us)).push (HandSPX.excO D hp.objs.size)
  have above : hp.objs.size ≤ a := Nat.le_succ _
  have promise := q1 a (I1.hok.fresh above)
  have old : ∀ b o, hp.get? b = some o → hp'.get? b = some o := by
    intro b o eb
    exact Heap.get?_push_of_some _ (Heap.get?_push_of_some _ eb)
  have new : hp'.get? a = some (HandSPX.excO D hp.objs.size) := by
    show ((hp.push (kdv_tup us)).push (HandSPX.excO D hp.objs.size)).get? (hp.objs.size + 1) = _
    heap_get
  have I2 : Inv X pins σ (upd H1 a (exo a D none)) ⟨hp', g, dr, tk, os⟩ := I1.laid (t' := tk) old above (exo_ok new)
  have rels : Vals (V.ref a :: (vs ++ [])) (Value.ref a :: us) := by
    rw [List.append_nil]
    exact .cons rfl r1
  have lenp : (Value.ref a :: us).length = ps.length := by
    rw [← rels.length]
    exact FI.len _ _ _ _ promise
  have few : us.length ≤ sizeLine := by
    have := Paired.length r1
    rw [sizeLine_eq]
    omega
  have bound := hb _ (Value.ref a :: us) I2.kIn (by rw [List.append_nil]; exact lenp)
  rw [List.append_nil] at bound
  refine wpAny_call (HandSPX.call_own F.excBase_ValueError (fun Y => HandSPX.refsVE_contains Y bm hbm) (I1.kIn _ _ hD) (looks_findIn I1.kIn hi) (fun self => bind_fn I1.kIn self ht) few ?_)
  refine codeAny_mono (FI.run _ X.stack _ _ ⟨Value.ref a :: us, []⟩ (Value.ref a :: us) _ _ (fun _ _ _ => False) (hr.make D us []) (I2.env0.make D us []) bound rels promise) ?_
  intro r s' hq
  match r, hq with
  | .error er, hq =>
    obtain ⟨_, _, _, _, _, _, _, _, _, _, _, _, z⟩ := hq
    exact z.elim
  | .ok .next, hq => exact hq.elim
  | .ok .brk, hq => exact hq.elim
  | .ok .cont, hq => exact hq.elim
  | .ok (.ret u), ⟨v, H2, os2, bare2, un2, hok2, rv, ev, d, fs, ea, ed, hd1, q2⟩ =>
    subst ev
    obtain ⟨h2, g2, d2, t2, os'⟩ := s'
    obtain ⟨t0, G, J, kG, ge, hoe, na⟩ := mk_end0 (d2 := d2) (t2 := t2) I1 above old un2 hok2 os2 bare2 ea ed hd1
    refine ⟨rv, a, _, _, ⟨G, g2, d2, t2, os'⟩, _, .ref D, some d, rfl, J, kG, ge, hoe, ⟨rfl, rfl, ?_⟩, rfl, rfl, na, rfl, bare2, raises_own T.exC T.tyC, q2⟩
    intro ws ew
    cases ew
    rfl
theorem pmk_x1 {x f : Str} {D : Addr} {C : V → Prop} {e : Expr} {ta : TA} {p pos : Pos} (T : ExC1 X.prog X.w X.K X.mg X.base x D f C) (hr : Room 2 X.A) (ha : PA X [e] ta) (hg : Gl X x := by rfl)
    (hdb : (x == ("__debug__" : Str)) = false := by decide) (he : starEach [e] X.env = (false, eval e X.env) :: starEach [] X.env := by rfl) (hpl : (backTo pos (starEach [] X.env)).any (·.1) = false := by rfl) :
    L2N.PMk X (.Call (.Name x p) [e] [] pos) (tMkO D (spX1 D f C) [] ta) := by
  obtain ⟨fI, fd, h1, h2, h3, h4⟩ := T.fi
  exact pmk_oexN T.ox h1 h2 h4 hr h3 hg T.gm ha hdb he hpl
end
def tRaiseX (W : WX) (t : L2.St → Hp → XK → Prop) : TS := fun _ σ H => t σ H fun cls d H' => W cls d σ H'
theorem ps_raiseX {X : Cx} {W : WX} {e : Expr} {t : L2.St → Hp → XK → Prop} {pos : Pos} (hc : X.calm = true) (tk : L2N.Takes X W) (he : L2N.PMk X e t) : PS X (.Raise (some e) none pos) (tRaiseX W t) := L2N.ps_raise hc tk he
section
variable {D : Addr} {f : Str} {C : V → Prop} {ta : TA} {σ : L2.St} {H H1 : Hp} {Q : XK} {v : V}
theorem r_raiseX {W : WX} {t : L2.St → Hp → XK → Prop} {E : Ends} (h : t σ H fun cls d H' => W cls d σ H') : tRaiseX W t E σ H := h
theorem r_mkO {sp : Sp} (h : ta σ H fun vs H1 => vs.length ≤ 1000 ∧ ∀ a, H1 a = none → sp (.ref a :: (vs ++ [])) (upd H1 a (exo a D none))
  (fun v H2 => v = .non ∧ ∃ (d : Addr) (fs : List (Str × V)), H2 a = some (exo a D (some d)) ∧ H2 d = some (exd d fs) ∧ H1 d = none ∧ Q (.ref D) (some d) (upd (del H2 a) d (.xd fs))) (fun _ _ _ => False)) : tMkO D sp [] ta σ H Q := h
theorem r_mkx (hv : C v) (h : ∀ d H', H1 d = none → Same H1 H' → H' d = some (.xd [(f, v)]) → Q (.ref D) (some d) H') : [v].length ≤ 1000 ∧ ∀ a, H1 a = none → spX1 D f C (.ref a :: ([v] ++ [])) (upd H1 a (exo a D none))
  (fun v H2 => v = .non ∧ ∃ (d : Addr) (fs : List (Str × V)), H2 a = some (exo a D (some d)) ∧ H2 d = some (exd d fs) ∧ H1 d = none ∧ Q (.ref D) (some d) (upd (del H2 a) d (.xd fs))) (fun _ _ _ => False) := by
  refine ⟨by show 1 ≤ 1000; decide, fun a ha => ⟨a, v, rfl, hv, upd_same, fun d hd hda => ⟨rfl, d, [(f, v)], upd_same, ?_, ?_, ?_⟩⟩⟩
  · rw [upd_ne hda, upd_same]
  · rw [upd_ne hda] at hd
    exact hd
  · rw [upd_ne hda] at hd
    refine h d _ hd (fun b o hb => ?_) upd_same
    rw [upd_ne (ne_of_none hb hd), del_ne (ne_of_none hb ha), upd_ne (ne_of_none hb ha), upd_ne (ne_of_none hb hd), upd_ne (ne_of_none hb ha)]
    exact hb
end
/-- the built-in names are still those -/
structure Bl (mg : Str → Option Value) : Prop where
  len : mg "len" = none
  str : mg "str" = none
  int : mg "int" = none
  abs : mg "abs" = none
  min : mg "min" = none
  max : mg "max" = none
  range : mg "range" = none
  repr : mg "repr" = none
  isinstance : mg "isinstance" = none
  dict : mg "dict" = none
  list : mg "list" = none
  tuple : mg "tuple" = none
  sorted : mg "sorted" = none
  any : mg "any" = none
  all : mg "all" = none
  sum : mg "sum" = none
  reversed : mg "reversed" = none
  super : mg "super" = none
  bool : mg "bool" = none
/-! ### readings, one lemma a combinator -/
section
variable {σ : L2.St} {H : Hp} {Q : VK} {v x y z : V} {ta tb te tc : TE} {K : Frag} {D : Ends} {t u : TS} {tt tu : TT} {i : Nat}
theorem r_var (h : σ[i]? = some (some v)) (q : Q v H) : tVar i σ H Q := ⟨v, h, q⟩
theorem r_c (q : Q v H) : tC v σ H Q := q
theorem r_op {r : R2} (h : ta σ H fun x H1 => tb σ H1 fun y H2 => r x y H2 Q) : tOp r ta tb σ H Q := h
theorem r_un {r : V → Hp → VK → Prop} (h : ta σ H fun x H1 => r x H1 Q) : tUn r ta σ H Q := h
theorem r_I0 {g : Int → Int → V} {a b : Int} (q : Q (g a b) H) : rI0 g (.int a) (.int b) H Q := ⟨a, b, rfl, rfl, q⟩
theorem r_I {C : Int → Int → Prop} {g : Int → Int → V} {a b : Int} (c : C a b) (q : Q (g a b) H) : rI C g (.int a) (.int b) H Q := ⟨a, b, rfl, rfl, c, q⟩
theorem r_U {g : Int → V} {a : Int} (q : Q (g a) H) : rU g (.int a) H Q := ⟨a, rfl, q⟩
theorem r_eqI {a b : Int} (q : Q (.bl (decide (a = b))) H) : rEq (.int a) (.int b) H Q := ⟨rfl, by
  have e : decide (V.int a = V.int b) = decide (a = b) := by simp
  rw [e]; exact q⟩
theorem r_neI {a b : Int} (q : Q (.bl (!decide (a = b))) H) : rNe (.int a) (.int b) H Q := ⟨rfl, by
  have e : decide (V.int a = V.int b) = decide (a = b) := by simp
  rw [e]; exact q⟩
theorem r_eqS {a b : Str} (q : Q (.bl (decide (a = b))) H) : rEq (.str a) (.str b) H Q := ⟨rfl, by
  have e : decide (V.str a = V.str b) = decide (a = b) := by simp
  rw [e]; exact q⟩
theorem r_neS {a b : Str} (q : Q (.bl (!decide (a = b))) H) : rNe (.str a) (.str b) H Q := ⟨rfl, by
  have e : decide (V.str a = V.str b) = decide (a = b) := by simp
  rw [e]; exact q⟩
theorem r_eqB {a b : Bool} (q : Q (.bl (decide (a = b))) H) : rEq (.bl a) (.bl b) H Q := ⟨rfl, by
  have e : decide (V.bl a = V.bl b) = decide (a = b) := by simp
  rw [e]; exact q⟩
theorem r_neB {a b : Bool} (q : Q (.bl (!decide (a = b))) H) : rNe (.bl a) (.bl b) H Q := ⟨rfl, by
  have e : decide (V.bl a = V.bl b) = decide (a = b) := by simp
  rw [e]; exact q⟩
theorem r_chain {r r' : R2} (h : ta σ H fun x H1 => tb σ H1 fun y H2 => r x y H2 fun z H3 => ∃ k, z = .bl k ∧ if k = true then tc σ H3 (fun w H4 => r' y w H4 Q) else Q (.bl false) H3) : tChain r r' ta tb tc σ H Q := h
theorem r_test {Q : Bool → Hp → Prop} (h : te σ H fun x H' => ∃ k, x = .bl k ∧ Q k H') : tTest te σ H Q := h
theorem r_B {Q : Bool → Hp → Prop} (h : te σ H fun x H1 => ∃ c, x = .bl c ∧ Q c H1) : tB te σ H Q := h
theorem r_bl {b : Bool} {P : Bool → Prop} (q : P b) : ∃ k, V.bl b = .bl k ∧ P k := ⟨b, rfl, q⟩
theorem r_and {Q : Bool → Hp → Prop} (h : tt σ H fun c H1 => if c = true then tu σ H1 Q else Q false H1) : tAnd tt tu σ H Q := h
theorem r_or {Q : Bool → Hp → Prop} (h : tt σ H fun c H1 => if c = true then Q true H1 else tu σ H1 Q) : tOr tt tu σ H Q := h
theorem r_not {Q : Bool → Hp → Prop} (h : tt σ H fun c H1 => Q (!c) H1) : tNot tt σ H Q := h
theorem r_andV (h : ta σ H fun x H1 => ∃ c, x = .bl c ∧ if c = true then tb σ H1 Q else Q (.bl false) H1) : tAndV ta tb σ H Q := h
theorem r_orV (h : ta σ H fun x H1 => ∃ c, x = .bl c ∧ if c = true then Q (.bl true) H1 else tb σ H1 Q) : tOrV ta tb σ H Q := h
theorem r_notV (h : ta σ H fun x H1 => ∃ c, x = .bl c ∧ Q (.bl (!c)) H1) : tNotV ta σ H Q := h
theorem r_if (h : tt σ H fun c H1 => if c = true then ta σ H1 Q else tb σ H1 Q) : tIf tt ta tb σ H Q := h
theorem r_nil {Q : List V → Hp → Prop} (q : Q [] H) : tNil σ H Q := q
theorem r_cons {tr : TA} {Q : List V → Hp → Prop} (h : ta σ H fun x H1 => tr σ H1 fun xs H2 => Q (x :: xs) H2) : tCons ta tr σ H Q := h
theorem r_cb {r : List V → Hp → VK → Prop} {tr : TA} (h : tr σ H fun vs H1 => r vs H1 Q) : tCB r tr σ H Q := h
theorem r_call {sp : Sp} {E : XK} {tr : TA} (h : tr σ H fun vs H1 => sp (vs ++ []) H1 Q E) : tCall sp [] E tr σ H Q := h
theorem r_callS {sp : Sp} {E : L2.St → XK} {tr : TA} (h : tr σ H fun vs H1 => sp vs H1 Q (E σ)) : tCallS sp E tr σ H Q := h
theorem r_tup {tr : TA} (h : tr σ H fun xs H1 => xs.length ≤ sizeLine ∧ ∀ p, H1 p = none → Q (.ref p) (upd H1 p (.tup xs))) : tTup tr σ H Q := h
theorem r_lst {tr : TA} (h : tr σ H fun xs H1 => xs.length ≤ sizeLine ∧ ∀ p, H1 p = none → Q (.ref p) (upd H1 p (.lst xs))) : tLst tr σ H Q := h
theorem r_seq (h : t { D with nx := u D } σ H) : tSeq t u D σ H := h
theorem r_next (h : D.nx σ H) : tNext D σ H := h
theorem r_asg {g : TG} (h : te σ H fun x H1 => g x σ H1 D.nx) : tAsg te g D σ H := h
theorem r_name {q : L2.St → Hp → Prop} (h : q (σ.set i (some v)) H) : gName i v σ H q := h
theorem r_ifS (h : tt σ H fun b H1 => if b = true then t D σ H1 else u D σ H1) : tIfS tt t u D σ H := h
theorem r_ret (h : te σ H D.rt) : tRet te D σ H := h
theorem r_retN (h : D.rt .non H) : tRetN D σ H := h
theorem r_drop (h : te σ H fun _ H1 => D.nx σ H1) : tDrop te D σ H := h
theorem r_brk (h : D.bk σ H) : tBreak D σ H := h
theorem r_ct (h : D.ct σ H) : tCont D σ H := h
theorem r_sl {r : V → Option Int → Option Int → Hp → VK → Prop} {tl th : TO} (h : te σ H fun x H1 => tl σ H1 fun l H2 => th σ H2 fun u H3 => r x l u H3 Q) : tSl r te tl th σ H Q := h
theorem r_part {Q : Option Int → Hp → Prop} (h : te σ H fun x H1 => ∃ i, x = .int i ∧ Q (some i) H1) : tPart te σ H Q := h
theorem r_nopart {Q : Option Int → Hp → Prop} (h : Q none H) : tNoPart σ H Q := h
theorem r_int {a : Int} {P : Int → Prop} (q : P a) : ∃ k, V.int a = .int k ∧ P k := ⟨a, rfl, q⟩
theorem r_slS {z : Str} {lo hi : Option Int} (hz : z.length ≤ sizeLine) (q : Q (.str (cutS z lo hi)) H) : rSlS (.str z) lo hi H Q := ⟨z, rfl, hz, q⟩
theorem r_bm {T : String} {r : V → List V → Hp → VK → Prop} {tr : TA} (h : te σ H fun x H1 => tyV K T x H1 ∧ tr σ H1 fun xs H2 => r x xs H2 Q) : tBM K T r te tr σ H Q := h
theorem r_bm0 {T : String} {r : V → List V → Hp → VK → Prop} (h : te σ H fun x H1 => tyV K T x H1 ∧ r x [] H1 Q) : tBM0 K T r te σ H Q := h
theorem r_ite {b : Bool} {A B : Prop} (h1 : b = true → A) (h2 : b = false → B) : if b = true then A else B := by
  cases b with
  | true => exact h1 rfl
  | false => exact h2 rfl
end
section
variable {H : Hp} {Q : VK}
theorem r_ch {z : Str} {n c : Nat} {R : Nat → Prop} (hc : z.cps.toList[n]? = some c) (hz : z.length ≤ 1000000) (q : R c) :
    ∃ z' i c, V.str z = .str z' ∧ V.int (n : Int) = .int i ∧ 0 ≤ i ∧ i < 2 ^ 63 ∧ i < z'.length ∧ z'.cps[i.toNat]? = some c ∧ R c := by
  have h1 : n < z.cps.toList.length := (List.getElem?_eq_some_iff.mp hc).1
  rw [Array.length_toList] at h1
  have h2 : z.cps.size ≤ 1000000 := hz
  refine ⟨z, n, c, rfl, rfl, by omega, by omega, ?_, ?_, q⟩
  · show (n : Int) < (z.cps.size : Int)
    omega
  · rw [Int.toNat_natCast, ← Array.getElem?_toList]
    exact hc
theorem r_si {P : Str → Int → Prop} {a : Str} {i : Int} (q : P a i) : ∃ x y, V.str a = .str x ∧ V.int i = .int y ∧ P x y := ⟨a, i, rfl, rfl, q⟩
end
theorem r_int1 {R : Int → Prop} {S : Bool → Prop} {a : Int} (q : R a) : (∃ i, [V.int a] = [.int i] ∧ R i) ∨ (∃ k, [V.int a] = [.bl k] ∧ S k) := .inl ⟨a, rfl, q⟩
theorem r_int1b {R : Int → Prop} {S : Bool → Prop} {b : Bool} (q : S b) : (∃ i, [V.bl b] = [.int i] ∧ R i) ∨ (∃ k, [V.bl b] = [.bl k] ∧ S k) := .inr ⟨b, rfl, q⟩
theorem r_mod {g : Int → Int → V} {C : Int → Int → Prop} {a b : Int} {H : Hp} {Q : VK} (c : C a b) (q : Q (g a b) H) : rI C g (.int a) (.int b) H Q := ⟨a, b, rfl, rfl, c, q⟩
theorem r_ixL {K : Frag} {H : Hp} {p : Addr} {xs : List V} {n : Nat} {v : V} {Q : VK} (h : SqL K H p xs) (hv : xs[n]? = some v) (q : Q v H) : rIxL K (.ref p) (.int (n : Int)) H Q := ⟨p, xs, n, v, rfl, rfl, h, atI_nat hv, q⟩
theorem r_ixT {K : Frag} {H : Hp} {p : Addr} {xs : List V} {n : Nat} {v : V} {Q : VK} (h : SqT K H p xs) (hv : xs[n]? = some v) (q : Q v H) : rIxT K (.ref p) (.int (n : Int)) H Q := ⟨p, xs, n, v, rfl, rfl, h, atI_nat hv, q⟩
theorem r_isT {K : Frag} {H : Hp} {p : Addr} {xs : List V} {x : V} {Q : VK} (h : SqT K H p xs) (hx : flatV x = true) (hf : xs.all flatV = true) (q : Q (.bl (inV x xs)) H) : rIn K false x (.ref p) H Q := ⟨p, xs, rfl, .inr h, hx, hf, q⟩
theorem r_mulS {z : Str} {n : Nat} {H : Hp} {Q : VK} (h1 : n ≤ 1000000) (h2 : z.length * n ≤ 1000000) (q : Q (.str (timesS z n)) H) : rMulS (.str z) (.int (n : Int)) H Q := ⟨z, n, rfl, rfl, h1, h2, q⟩
theorem hotC_of {X : Cx} {a : Addr} {oe : Obj} {cls : Value} {d : Option Addr} {pn : List (Addr × Obj)} (hz : L2N.Zn cls d oe) (hf : ∃ vs, oe.data = .fields vs) : L2H.HotC (X.suite a ((a, oe) :: pn)) := by
  obtain ⟨vs, e⟩ := hf
  exact ⟨(a, oe), ⟨rfl, vs, e, hz.2.2 vs e⟩, List.mem_cons_self⟩
/-- a def that is called while an exception is handled -/
structure CalH (P : Program) (w : World) (K : Frag) (mg : Str → Option Value) (base : Heap) (k : Nat) (x : Str) (ps : List Str) (sp : Sp) : Prop where
  ex : ∃ f fd, mg x = some (.ref f) ∧ keepIn K (.ref f) = true ∧ Binds K fd ps [] ∧ L2H.FnH P w K mg base (L2N.CX P w) k f fd ps sp
theorem calH_mk {P : Program} {w : World} {K : Frag} {mg : Str → Option Value} {base : Heap} {k : Nat} {x : Str} {st : Stmt} {N ps : List Str} {sp : Sp} (dx : DefAt K mg x st) (S : FnScope N ps (defScope st))
    (hb : ∀ (kV doc pm : Value) (an : Option Addr) (cdv ct : Value) (us : List Value), us.length = ps.length → bindArgs (fnOf x x (defArgs st) (defBody st) (defScope st) .none kV doc pm an cdv ct) ⟨us, []⟩ = pure (ps.zip us))
    (len : ∀ vs H Q E, sp vs H Q E → vs.length = ps.length)
    (hbody : ∀ (f : Addr) (cdv : Value) (A : Around) (outer : List Env) (s : Shared) (H : Hp) (vs : List V) (Q : VK) (E : XK) (p : Addr × Obj), L2H.Hot1 A p → L2H.RoomH k (A.deeper (envOfC x (defScope st) s.heap.objs.size f cdv)) → sp vs H Q E →
      ∃ t, PSs (L2H.cxH (L2N.CX P w) P w K mg base N x (defScope st) f cdv A outer s H E p) (defBody st) t ∧ t { nx := fun _ H' => Q .non H', rt := Q } (start N vs) H) : CalH P w K mg base (k + 1) x ps sp := by
  obtain ⟨f, fd, hm, FD⟩ := dx.ex
  have hbn := FD.bindsN hb
  have hkp := FD.kp
  obtain ⟨oc, od, dV, kV, doc, pm, an, cdv, ct, osl, rfl, lk, hcd, _, _⟩ := FD.ex
  exact ⟨f, _, hm, hkp, hbn, L2H.fn_ofH lk hcd S len fun A outer s H vs Q E p hot hr hsp => hbody f cdv A outer s H vs Q E p hot hr hsp⟩
section
variable {X : Cx}
theorem pe_calH {x : Str} {p pos : Pos} {k : Nat} {ps : List Str} {sp : Sp} {e : Expr} {es : List Expr} {ta : TA} (G : CalH X.prog X.w X.K X.mg X.base k x ps sp) (hr : L2H.RoomH k X.A) (hc : L2H.HotC X) (ha : PA X (e :: es) ta) (hg : Gl X x := by rfl)
    (hdb : (x == ("__debug__" : Str)) = false := by decide) (he : starEach (e :: es) X.env = (false, eval e X.env) :: starEach es X.env := by rfl) (hpl : (backTo pos (starEach es X.env)).any (·.1) = false := by rfl) :
    PE X (.Call (.Name x p) (e :: es) [] pos) (tCallS sp (fun _ => E0) ta) := by
  obtain ⟨f, fd, hm, hk, hb, FH⟩ := G.ex
  refine L2H.pe_callH FH hr hc hg hm hk hb (fun σ => ?_) ha hdb he hpl
  rintro _ _ _ _ _ _ ⟨_, _, _, _, _, _, _, _, _, _, _, _, z⟩
  exact z.elim
end
theorem r_sz {a : Nat} {B : Prop} (h : a ≤ 1000000) (q : B) : a ≤ sizeLine ∧ B := ⟨Nat.le_trans h (by decide), q⟩
/-! ### data of tuples, texts, numbers: never changed -/
mutual
inductive Tp (H : Hp) : V → PyData → Prop
  | non : Tp H .non .none
  | bl (b : Bool) : Tp H (.bl b) (.bool b)
  | int (i : Int) : Tp H (.int i) (.int i)
  | str (x : Str) : Tp H (.str x) (.str x)
  | tup {a : Addr} {xs : List V} {ds : List PyData} : H a = some (.tup xs) → TpAll H xs ds → Tp H (.ref a) (.tuple ds)
inductive TpAll (H : Hp) : List V → List PyData → Prop
  | nil : TpAll H [] []
  | cons {v : V} {vs : List V} {d : PyData} {ds : List PyData} : Tp H v d → TpAll H vs ds → TpAll H (v :: vs) (d :: ds)
end
def Keep (H H' : Hp) : Prop := ∀ a xs, H a = some (.tup xs) → H' a = some (.tup xs)
theorem Same.keep {H H' : Hp} (h : Same H H') : Keep H H' := fun a xs e => h a _ e
theorem Keep.trans {H H1 H2 : Hp} (a : Keep H H1) (b : Keep H1 H2) : Keep H H2 := fun x xs e => b x xs (a x xs e)
theorem Keep.refl (H : Hp) : Keep H H := fun _ _ e => e
theorem Keep.new {H : Hp} {p : Addr} {o : HO} (h : H p = none) : Keep H (upd H p o) := fun a xs e => by
  rw [upd_ne (ne_of_none e h)]; exact e
theorem Keep.mut {H : Hp} {p : Addr} {o u : HO} (h : H p = some u) (hu : ∀ xs, u ≠ .tup xs) : Keep H (upd H p o) := fun a xs e => by
  rw [upd_ne (ne_of e h (Ne.symm (hu xs)))]; exact e
theorem Same.new {H : Hp} {p : Addr} {o : HO} (h : H p = none) : Same H (upd H p o) := fun a u e => by
  rw [upd_ne (ne_of_none e h)]; exact e
theorem Same.mut {H H' : Hp} {p : Addr} {o : HO} (s : Same H H') (h : H p = none) : Same H (upd H' p o) := fun a u e => by
  rw [upd_ne (ne_of_none e h)]; exact s a u e
mutual
theorem Tp.keep {H H' : Hp} (k : Keep H H') : ∀ {v : V} {d : PyData}, Tp H v d → Tp H' v d
  | _, _, .non => .non
  | _, _, .bl b => .bl b
  | _, _, .int i => .int i
  | _, _, .str x => .str x
  | _, _, .tup h t => .tup (k _ _ h) (TpAll.keep k t)
theorem TpAll.keep {H H' : Hp} (k : Keep H H') : ∀ {vs : List V} {ds : List PyData}, TpAll H vs ds → TpAll H' vs ds
  | _, _, .nil => .nil
  | _, _, .cons h t => .cons (Tp.keep k h) (TpAll.keep k t)
end
mutual
theorem Tp.dp {K : Frag} {H : Hp} : ∀ {v : V} {d : PyData}, Tp H v d → Dp K H v d
  | _, _, .non => .non
  | _, _, .bl b => .bl b
  | _, _, .int i => .int i
  | _, _, .str x => .str x
  | _, _, .tup h t => .tup (SqT.of h) (TpAll.dp t)
theorem TpAll.dp {K : Frag} {H : Hp} : ∀ {vs : List V} {ds : List PyData}, TpAll H vs ds → DpAll K H vs ds
  | _, _, .nil => .nil
  | _, _, .cons h t => .cons (Tp.dp h) (TpAll.dp t)
end
theorem TpAll.app {H : Hp} : ∀ {vs us : List V} {ds es : List PyData}, TpAll H vs ds → TpAll H us es → TpAll H (vs ++ us) (ds ++ es)
  | _, _, _, _, .nil, h => h
  | _, _, _, _, .cons a b, h => .cons a (TpAll.app b h)
theorem TpAll.len {H : Hp} : ∀ {vs : List V} {ds : List PyData}, TpAll H vs ds → vs.length = ds.length
  | _, _, .nil => rfl
  | _, _, .cons _ b => congrArg (· + 1) (TpAll.len b)
theorem TpAll.get {H : Hp} : ∀ {vs : List V} {ds : List PyData} {i : Nat} {d : PyData}, TpAll H vs ds → ds[i]? = some d → ∃ v, vs[i]? = some v ∧ Tp H v d
  | _, _, _, _, .nil, h => by simp at h
  | _, _, 0, _, .cons a _, h => by
    simp at h; subst h; exact ⟨_, rfl, a⟩
  | _, _, i + 1, _, .cons _ b, h => by
    obtain ⟨v, h1, h2⟩ := TpAll.get (i := i) b (by simpa using h)
    exact ⟨v, by simpa using h1, h2⟩
end Al
namespace Al
open PySem PySem.Spec PyProof.Rows L2 NdefX PySem.W
/-! ### the lexer in plain Lean, over lists of code points -/
def isLetter (c : Nat) : Bool := (decide (97 ≤ c) && decide (c ≤ 122)) || (decide (65 ≤ c) && decide (c ≤ 90))
def isDigit (c : Nat) : Bool := decide (48 ≤ c) && decide (c ≤ 57)
def inName (c : Nat) : Bool := isLetter c || (isDigit c || decide (c = 95))
def notNl (c : Nat) : Bool := !decide (c = 10)
def spanEnd (p : Nat → Bool) (l : List Nat) (n : Nat) : Nat := n + ((l.drop n).takeWhile p).length
theorem spanEnd_go {p : Nat → Bool} {l : List Nat} {n c : Nat} (h : l[n]? = some c) (hp : p c = true) : spanEnd p l (n + 1) = spanEnd p l n := by
  unfold spanEnd
  obtain ⟨h1, h2⟩ := List.getElem?_eq_some_iff.mp h
  have e : l.drop n = c :: l.drop (n + 1) := by rw [List.drop_eq_getElem_cons h1, h2]
  rw [e, List.takeWhile_cons, if_pos hp, List.length_cons]
  omega
theorem spanEnd_stop {p : Nat → Bool} {l : List Nat} {n c : Nat} (h : l[n]? = some c) (hp : p c = false) : spanEnd p l n = n := by
  unfold spanEnd
  obtain ⟨h1, h2⟩ := List.getElem?_eq_some_iff.mp h
  have e : l.drop n = c :: l.drop (n + 1) := by rw [List.drop_eq_getElem_cons h1, h2]
  rw [e, List.takeWhile_cons, if_neg (by rw [hp]; decide)]
  simp
theorem spanEnd_end {p : Nat → Bool} {l : List Nat} {n : Nat} (h : l.length ≤ n) : spanEnd p l n = n := by
  unfold spanEnd
  rw [List.drop_eq_nil_of_le h]
  simp
theorem spanEnd_le {p : Nat → Bool} {l : List Nat} {n : Nat} (h : n ≤ l.length) : spanEnd p l n ≤ l.length := by
  unfold spanEnd
  have h1 : ((l.drop n).takeWhile p).length ≤ (l.drop n).length := (List.takeWhile_sublist _).length_le
  rw [List.length_drop] at h1
  omega
theorem spanEnd_ge {p : Nat → Bool} {l : List Nat} {n : Nat} : n ≤ spanEnd p l n := Nat.le_add_right _ _
def uS (l : List Nat) : Str := ⟨l.toArray⟩
def lS (s : Str) : List Nat := s.cps.toList
theorem uS_lS (s : Str) : uS (lS s) = s := rfl
theorem lS_uS (l : List Nat) : lS (uS l) = l := rfl
def RES : List Str := ["and", "base", "else", "false", "from", "fun", "if", "in", "iterate", "let", "not", "or", "show", "then", "true", "unit"]
def SIG : List Str := ["<=", "==", "=", "<", "+", "-", "*", "/", "^", ",", ";", ":", "(", ")", "[", "]"]
inductive Tk where
  | word (s : Str)
  | name (s : Str)
  | num (top bot : Nat)
  | sign (s : Str)
  deriving DecidableEq
def Tk.kind : Tk → Str
  | .word _ => "word"
  | .name _ => "name"
  | .num _ _ => "number"
  | .sign _ => "sign"
def Tk.val : Tk → PyData
  | .word s => .str s
  | .name s => .str s
  | .num a b => .tuple [.int (a : Int), .int (b : Int)]
  | .sign s => .str s
def tokD (t : Tk × Nat) : PyData := .tuple [.str t.1.kind, t.1.val, .int (t.2 : Int)]
/-- the value of digits -/
abbrev digV (l : List Nat) : Nat := NumText.digitsVal l
def wordTok (s : List Nat) : Option (Tk × Nat) :=
  if uS (s.takeWhile inName) ∈ RES then some (.word (uS (s.takeWhile inName)), (s.takeWhile inName).length)
  else if (s.takeWhile inName).length > 16 then none
  else some (.name (uS (s.takeWhile inName)), (s.takeWhile inName).length)
/-- the digits behind a point -/
def partOf (r : List Nat) : List Nat := match r with
  | c :: d :: r => if c = 46 ∧ isDigit d = true then (d :: r).takeWhile isDigit else []
  | _ => []
def nextIn (r : List Nat) : Bool := match r with
  | c :: _ => inName c
  | [] => false
def numLen (s : List Nat) : Nat := (s.takeWhile isDigit).length + (if partOf (s.drop (s.takeWhile isDigit).length) = [] then 0 else 1 + (partOf (s.drop (s.takeWhile isDigit).length)).length)
def numTok (s : List Nat) : Option (Tk × Nat) :=
  if (s.takeWhile isDigit).length > 6 ∨ (partOf (s.drop (s.takeWhile isDigit).length)).length > 4 ∨ nextIn (s.drop (numLen s)) = true then none
  else some (.num (digV (s.takeWhile isDigit ++ partOf (s.drop (s.takeWhile isDigit).length))) (10 ^ (partOf (s.drop (s.takeWhile isDigit).length)).length), numLen s)
def signTok (s : List Nat) : Option (Tk × Nat) := match SIG.find? (fun g => (lS g).isPrefixOf s) with
  | some g => some (.sign g, (lS g).length)
  | none => none
def tok1 (s : List Nat) : Option (Tk × Nat) := match s with
  | [] => none
  | c :: _ => if isLetter c = true then wordTok s else if isDigit c = true then numTok s else signTok s
def isSp (c : Nat) : Bool := decide (c = 32) || (decide (c = 9) || decide (c = 10))
/-- from the index i on, the rest s: the tokens, then the end (none) or a bad piece's index -/
inductive Lex : Nat → List Nat → List (Tk × Nat) → Option Nat → Prop
  | nil {i : Nat} : Lex i [] [] none
  | sp {i c : Nat} {s : List Nat} {ts : List (Tk × Nat)} {e : Option Nat} : isSp c = true → Lex (i + 1) s ts e → Lex i (c :: s) ts e
  | com {i : Nat} {s : List Nat} {ts : List (Tk × Nat)} {e : Option Nat} : Lex (i + (1 + (s.takeWhile notNl).length)) (s.drop (s.takeWhile notNl).length) ts e → Lex i (35 :: s) ts e
  | tok {i c k : Nat} {s : List Nat} {t : Tk} {ts : List (Tk × Nat)} {e : Option Nat} : isSp c = false → c ≠ 35 → tok1 (c :: s) = some (t, k) → Lex (i + k) ((c :: s).drop k) ts e → Lex i (c :: s) ((t, i) :: ts) e
  | bad {i c : Nat} {s : List Nat} : isSp c = false → c ≠ 35 → tok1 (c :: s) = none → Lex i (c :: s) [] (some i)
/-! ### one sign compared -/
theorem lt1 (a b : Nat) : decide ([a] < [b]) = decide (a < b) := by
  by_cases h : a < b
  · rw [decide_eq_true h, decide_eq_true (List.cons_lt_cons_iff.mpr (.inl h))]
  · rw [decide_eq_false h, decide_eq_false]
    intro z
    rcases List.cons_lt_cons_iff.mp z with z | ⟨_, z⟩
    · exact h z
    · exact absurd z (by simp)
theorem le1 (a b : Nat) : (!decide ([a] < [b])) = decide (b ≤ a) := by
  rw [lt1]
  by_cases h : a < b
  · rw [decide_eq_true h, decide_eq_false (by omega)] <;> rfl
  · rw [decide_eq_false h, decide_eq_true (by omega)] <;> rfl
theorem eq1 (a b : Nat) : decide ((⟨#[a]⟩ : Str) = ⟨#[b]⟩) = decide (a = b) := by simp
theorem leA (c : Nat) (x : Str) (a : Nat) (hx : x = ⟨#[a]⟩) : (!decide ((⟨#[c]⟩ : Str).cps.toList < x.cps.toList)) = decide (a ≤ c) := by subst hx; exact le1 c a
theorem leB (c : Nat) (x : Str) (a : Nat) (hx : x = ⟨#[a]⟩) : (!decide (x.cps.toList < (⟨#[c]⟩ : Str).cps.toList)) = decide (c ≤ a) := by subst hx; exact le1 a c
theorem eqA (c : Nat) (x : Str) (a : Nat) (hx : x = ⟨#[a]⟩) : decide ((⟨#[c]⟩ : Str) = x) = decide (c = a) := by subst hx; exact eq1 c a
theorem log_ok {n : Nat} (h : n ≤ 1000000) : ((n : Int)).natAbs.log2 < 1920 := by
  rw [Int.natAbs_natCast]
  by_cases h0 : n = 0
  · subst h0; decide
  · rw [Nat.log2_lt h0]
    exact Nat.lt_of_le_of_lt h (Nat.lt_of_lt_of_le (by decide : 1000000 < 2 ^ 20) (Nat.pow_le_pow_right (by decide) (by decide)))
theorem sIx_nat {N d n : Nat} (h : n ≤ N) : HT.sIx N d (some (n : Int)) = n := by
  rw [HT.sIx_nat]
  omega
theorem cutS_nat {z : Str} {n m : Nat} (h1 : n ≤ z.length) (h2 : m ≤ z.length) : cutS z (some (n : Int)) (some (m : Int)) = uS (((lS z).drop n).take (m - n)) := by
  unfold cutS
  rw [sIx_nat h1, sIx_nat h2] <;> rfl
theorem take_tw (p : Nat → Bool) : ∀ l : List Nat, l.take (l.takeWhile p).length = l.takeWhile p
  | [] => rfl
  | c :: l => by
    rw [List.takeWhile_cons]
    split
    · rw [List.length_cons, List.take_succ_cons, take_tw p l]
    · rfl
theorem cut_span {z : Str} {n : Nat} (p : Nat → Bool) (h1 : n ≤ z.length) : cutS z (some (n : Int)) (some ((spanEnd p (lS z) n : Nat) : Int)) = uS (((lS z).drop n).takeWhile p) := by
  have hl : (lS z).length = z.length := Array.length_toList
  rw [cutS_nat h1 (by rw [← hl]; exact spanEnd_le (by omega))]
  congr 1
  have e : spanEnd p (lS z) n - n = (((lS z).drop n).takeWhile p).length := by unfold spanEnd; omega
  rw [e, take_tw]
theorem inV_str (x : Str) : ∀ l : List Str, inV (.str x) (l.map V.str) = decide (x ∈ l)
  | [] => by simp [inV]
  | y :: l => by
    have ih := inV_str x l
    simp only [inV, List.map_cons, List.any_cons, List.mem_cons] at ih ⊢
    rw [ih]
    by_cases h : x = y
    · subst h; simp [eqV]
    · have h' : ¬ y = x := fun e => h e.symm
      simp [eqV, h, h']
theorem flat_strs : ∀ l : List Str, (l.map V.str).all flatV = true
  | [] => rfl
  | y :: l => by
    rw [List.map_cons, List.all_cons, flat_strs l]
    rfl
theorem starts_iff {x y : Str} {n : Nat} (h : n ≤ x.length) : Txt.startswith3 x y (n : Int) = (lS y).isPrefixOf ((lS x).drop n) := by
  have e1 : PySem.fromIndex x.length (n : Int) = n := by
    unfold PySem.fromIndex
    rw [if_neg (by omega)]
    omega
  have hx : (lS x).length = x.length := Array.length_toList
  have hy : (lS y).length = y.length := Array.length_toList
  have e2 : Builtin.Str.subAt x y n = TL.pre (lS y) ((lS x).drop n) := by
    have := PySem.StrLaws.subAt_eq x y n
    rw [this]
    show (((lS x).drop n).take y.length == lS y) = (((lS x).drop n).take (lS y).length == lS y)
    rw [hy]
  unfold Txt.startswith3
  rw [e1, e2]
  unfold TL.pre
  have e3 : (lS y).isPrefixOf ((lS x).drop n) = true ↔ (lS y) <+: ((lS x).drop n) := List.isPrefixOf_iff_prefix
  cases hp : (lS y).isPrefixOf ((lS x).drop n) with
  | true =>
    have hq := e3.mp hp
    have hlen := hq.length_le
    rw [List.length_drop] at hlen
    have ht := List.prefix_iff_eq_take.mp hq
    by_cases h0 : (lS y).length = 0
    · have : lS y = [] := List.length_eq_zero_iff.mp h0
      rw [Bool.and_eq_true]
      refine ⟨decide_eq_true (by omega), by rw [this]; rfl⟩
    · rw [Bool.and_eq_true]
      exact ⟨decide_eq_true (by omega), beq_iff_eq.mpr ht.symm⟩
  | false =>
    rw [Bool.and_eq_false_iff]
    right
    rw [beq_eq_false_iff_ne]
    intro e
    have : (lS y) <+: ((lS x).drop n) := List.prefix_iff_eq_take.mpr e.symm
    rw [e3.mpr this] at hp
    cases hp
theorem drop_cons {l : List Nat} {n c : Nat} (h : l[n]? = some c) : l.drop n = c :: l.drop (n + 1) := by
  obtain ⟨h1, h2⟩ := List.getElem?_eq_some_iff.mp h
  rw [List.drop_eq_getElem_cons h1, h2]
theorem partOf_yes {l : List Nat} {e d : Nat} (h1 : l[e]? = some 46) (h2 : l[e + 1]? = some d) (h3 : isDigit d = true) : partOf (l.drop e) = (l.drop (e + 1)).takeWhile isDigit := by
  rw [drop_cons h1, drop_cons h2]
  show (if 46 = 46 ∧ isDigit d = true then _ else _) = _
  rw [if_pos ⟨rfl, h3⟩]
theorem partOf_ne {l : List Nat} {e d : Nat} (h1 : l[e]? = some 46) (h2 : l[e + 1]? = some d) (h3 : isDigit d = true) : partOf (l.drop e) ≠ [] := by
  rw [partOf_yes h1 h2 h3, drop_cons h2, List.takeWhile_cons, if_pos h3]
  exact List.cons_ne_nil _ _
theorem partOf_no {l : List Nat} {e : Nat} (h : ¬ (l[e]? = some 46 ∧ ∃ d, l[e + 1]? = some d ∧ isDigit d = true)) : partOf (l.drop e) = [] := by
  cases hc : l[e]? with
  | none =>
    rw [List.drop_eq_nil_of_le (List.getElem?_eq_none_iff.mp hc)]
    rfl
  | some c =>
    rw [drop_cons hc]
    cases hd : l[e + 1]? with
    | none =>
      rw [List.drop_eq_nil_of_le (List.getElem?_eq_none_iff.mp hd)]
      rfl
    | some d =>
      rw [drop_cons hd]
      show (if c = 46 ∧ isDigit d = true then _ else _) = _
      rw [if_neg]
      rintro ⟨rfl, h3⟩
      exact h ⟨hc, d, hd, h3⟩
theorem partOf_digits (r : List Nat) : ∀ c ∈ partOf r, isDigit c = true := by
  intro c hc
  unfold partOf at hc
  split at hc
  · split at hc
    · exact List.all_eq_true.mp (List.all_takeWhile (l := _ :: _) (p := isDigit)) c hc
    · simp at hc
  · simp at hc
theorem isDigit_ok {c : Nat} (h : isDigit c = true) : 48 ≤ c ∧ c ≤ 57 := by
  unfold isDigit at h
  rw [Bool.and_eq_true] at h
  exact ⟨of_decide_eq_true h.1, of_decide_eq_true h.2⟩
theorem uS_app (a b : List Nat) : uS a ++ uS b = uS (a ++ b) := by
  show (⟨a.toArray ++ b.toArray⟩ : Str) = ⟨(a ++ b).toArray⟩
  simp
theorem nextIn_drop {l : List Nat} {e c : Nat} (h : l[e]? = some c) : nextIn (l.drop e) = inName c := by
  rw [drop_cons h] <;> rfl
theorem nextIn_end {l : List Nat} {e : Nat} (h : l.length ≤ e) : nextIn (l.drop e) = false := by
  rw [List.drop_eq_nil_of_le h] <;> rfl
theorem tok_match {o : Option (Tk × Nat)} {S : Tk → Nat → Prop} {N : Prop} (h1 : ∀ t k, o = some (t, k) → S t k) (h2 : o = none → N) : match o with | some (t, k) => S t k | none => N := by
  match o, h1, h2 with
  | some (t, k), h1, _ => exact h1 t k rfl
  | none, _, h2 => exact h2 rfl
theorem isp_in (c : Nat) : inV (.str ⟨#[c]⟩) [.str " ", .str "\t", .str "\n"] = isSp c := by
  have e := inV_str ⟨#[c]⟩ [" ", "\t", "\n"]
  refine Eq.trans e ?_
  unfold isSp
  have h1 := eqA c " " 32 (by decide +kernel)
  have h2 := eqA c "\t" 9 (by decide +kernel)
  have h3 := eqA c "\n" 10 (by decide +kernel)
  rw [← h1, ← h2, ← h3]
  simp [List.mem_cons]
theorem tw_le (p : Nat → Bool) (s : List Nat) : (s.takeWhile p).length ≤ s.length := (List.takeWhile_sublist p).length_le
theorem partOf_lt : ∀ r : List Nat, partOf r ≠ [] → 1 + (partOf r).length ≤ r.length
  | [], h => absurd rfl h
  | [_], h => absurd rfl h
  | a :: d :: r, h => by
    have e : partOf (a :: d :: r) = if a = 46 ∧ isDigit d = true then (d :: r).takeWhile isDigit else [] := rfl
    rw [e] at h ⊢
    split at h
    · rename_i hh
      rw [if_pos hh]
      have := tw_le isDigit (d :: r)
      rw [List.length_cons (a := a)]; omega
    · exact absurd rfl h
theorem tok1_len {c : Nat} {s : List Nat} {t : Tk} {k : Nat} (h : tok1 (c :: s) = some (t, k)) : 1 ≤ k ∧ k ≤ (c :: s).length := by
  have h : (if isLetter c = true then wordTok (c :: s) else if isDigit c = true then numTok (c :: s) else signTok (c :: s)) = some (t, k) := h
  have hw : ∀ p : Nat → Bool, p c = true → 1 ≤ ((c :: s).takeWhile p).length := fun p hp => by
    rw [List.takeWhile_cons, if_pos hp, List.length_cons]; omega
  split at h
  · rename_i hc
    unfold wordTok at h
    have h1 := hw inName (by unfold inName; rw [hc]; rfl)
    have h2 := tw_le inName (c :: s)
    split at h
    · cases h; exact ⟨h1, h2⟩
    · split at h
      · cases h
      · cases h; exact ⟨h1, h2⟩
  · split at h
    · rename_i hc
      unfold numTok at h
      have h1 := hw isDigit hc
      split at h
      · cases h
      · injection h with h
        injection h with _ h
        subst h
        unfold numLen
        have h2 := tw_le isDigit (c :: s)
        generalize ((c :: s).takeWhile isDigit).length = n at *
        refine ⟨by split <;> omega, ?_⟩
        split
        · omega
        · rename_i hp
          have h3 : 1 + (partOf ((c :: s).drop n)).length ≤ ((c :: s).drop n).length := by
            exact partOf_lt _ hp
          rw [List.length_drop] at h3
          omega
    · unfold signTok at h
      split at h
      · rename_i g hg
        cases h
        have hp := List.find?_some hg
        have hm := List.mem_of_find?_eq_some hg
        have h1 : ∀ g ∈ SIG, 1 ≤ (lS g).length := by decide +kernel
        exact ⟨h1 g hm, (List.isPrefixOf_iff_prefix.mp hp).length_le⟩
      · cases h
/-! ### promises -/
def spCh (g : Nat → Bool) : Sp := fun vs H Q _ => ∃ c : Nat, vs = [.str ⟨#[c]⟩] ∧ Q (.bl (g c)) H
def spSpan (p : Nat → Bool) : Sp := fun vs H Q _ => ∃ (z : Str) (n : Nat), vs = [.str z, .int n] ∧ z.length ≤ 20000 ∧ n ≤ z.length ∧ Q (.int (spanEnd p (lS z) n)) H
def spTok (DM : Addr) (p : Nat → Bool) (g : List Nat → Option (Tk × Nat)) : Sp := fun vs H Q E => ∃ (z : Str) (n : Nat), vs = [.str z, .int n] ∧ z.length ≤ 20000 ∧ n < z.length ∧ (∃ c, (lS z)[n]? = some c ∧ p c = true) ∧
  match g ((lS z).drop n) with
  | some (t, k) => ∀ p v H', Same H H' → H' p = some (.tup [v, .int ((n + k : Nat) : Int)]) → Tp H' v (tokD (t, n)) → Q (.ref p) H'
  | none => ∀ d H', Same H H' → H' d = some (.xd [("at", .int n)]) → E (.ref DM) (some d) H'
def spTokens (DM DO : Addr) : Sp := fun vs H Q E => ∃ (z : Str), vs = [.str z] ∧ z.length ≤ 20000 ∧
  ((12000 < z.length ∧ ∀ d H', Same H H' → H' d = some (.xd [("limit", .str "text")]) → E (.ref DO) (some d) H') ∨
    ∃ ts e, z.length ≤ 12000 ∧ Lex 0 (lS z) ts e ∧ match e with
    | none => ∀ p vs H', Same H H' → H p = none → H' p = some (.lst vs) → TpAll H' vs (ts.map tokD) → Q (.ref p) H'
    | some i => ∀ d H', Same H H' → H' d = some (.xd [("at", .int (i : Int))]) → E (.ref DM) (some d) H')
def CMal (v : V) : Prop := ∃ i : Int, v = .int i ∧ i.natAbs.log2 < 1920
def COver (v : V) : Prop := ∃ x : Str, v = .str x
/-- the constants of the lexer -/
structure LexC (K : Frag) (mg : Str → Option Value) : Prop where
  res : ∃ a, mg "RESERVED" = some (.ref a) ∧ ∀ H, SqT K H a (RES.map V.str)
  sig : ∃ a, mg "SIGNS" = some (.ref a) ∧ ∀ H, SqT K H a (SIG.map V.str)
  gMT : ∃ t, mg "MAX_TEXT" = some (.int 12000 t)
  gMN : ∃ t, mg "MAX_NAME" = some (.int 16 t)
end Al
namespace Al
open PySem PySem.Spec PyProof.Rows L2 NdefX PySem.W
/-! ### data that repr can show -/
structure ShowOk (d : PyData) (w dp : Nat) : Prop where
  sh : d.showable = true
  nd : d.hasDict = false
  lv : d.leavesShort 13 = true
  wt : d.weight ≤ w
  dp : d.depth ≤ dp
theorem ShowOk.fits {d : PyData} {w dp : Nat} (h : ShowOk d w dp) (hw : w ≤ 1000000) : d.shown.length ≤ sizeLine :=
  PyData.shown_fits (B := 13) (by decide) (by decide) h.lv (Nat.le_trans h.wt (Nat.le_trans hw (by decide)))
theorem ShowOk.mono {d : PyData} {w w' dp dp' : Nat} (h : ShowOk d w dp) (hw : w ≤ w') (hd : dp ≤ dp') : ShowOk d w' dp' := ⟨h.sh, h.nd, h.lv, Nat.le_trans h.wt hw, Nat.le_trans h.dp hd⟩
theorem ShowOk.none : ShowOk .none 0 0 := ⟨rfl, rfl, rfl, Nat.le_refl _, Nat.le_refl _⟩
theorem ShowOk.bool (b : Bool) : ShowOk (.bool b) 0 0 := ⟨rfl, rfl, rfl, Nat.le_refl _, Nat.le_refl _⟩
def Plain (x : Str) : Prop := ∀ c ∈ lS x, c < 16 ^ 8
theorem ShowOk.str {x : Str} (h : Plain x) : ShowOk (.str x) x.length 0 := by
  refine ⟨rfl, rfl, ?_, Nat.le_refl _, Nat.le_refl _⟩
  show (x.cps.toList.all fun c => decide (c < 16 ^ 8)) = true
  rw [List.all_eq_true]
  intro c hc
  exact decide_eq_true (h c hc)
theorem ShowOk.int {i : Int} (h : i.natAbs < 10 ^ 12) : ShowOk (.int i) 41 0 := by
  have hl : i.natAbs.log2 < 40 := by
    by_cases h0 : i.natAbs = 0
    · rw [h0]; decide
    · rw [Nat.log2_lt h0]
      exact Nat.lt_of_lt_of_le h (by decide)
  refine ⟨?_, rfl, ?_, ?_, Nat.le_refl _⟩
  · show decide (i.natAbs.log2 < 1920) = true
    exact decide_eq_true (by omega)
  · show decide (((PyData.int i).shown).length ≤ 13) = true
    exact decide_eq_true (PyData.shown_int_le h)
  · show (if (i == 0) = true then 0 else i.natAbs.log2 + 1) ≤ 41
    split <;> omega
theorem showAll {w dp : Nat} : ∀ {ds : List PyData}, (∀ d ∈ ds, ShowOk d w dp) → PyData.showableAll ds = true ∧ PyData.hasDictAll ds = false ∧ PyData.leavesShortAll 13 ds = true ∧ PyData.weightAll ds ≤ ds.length * (w + 1) ∧ PyData.depthAll ds ≤ dp
  | [], _ => ⟨rfl, rfl, rfl, Nat.zero_le _, Nat.zero_le _⟩
  | d :: ds, h => by
    obtain ⟨h1, h2, h3, h4, h5⟩ := showAll fun e he => h e (List.mem_cons_of_mem _ he)
    have hd := h d List.mem_cons_self
    refine ⟨?_, ?_, ?_, ?_, ?_⟩
    · simp only [PyData.showableAll, hd.sh, h1, Bool.and_self]
    · simp only [PyData.hasDictAll, hd.nd, h2, Bool.or_self]
    · simp only [PyData.leavesShortAll, hd.lv, h3, Bool.and_self]
    · simp only [PyData.weightAll, List.length_cons]
      have := hd.wt
      have e : (ds.length + 1) * (w + 1) = ds.length * (w + 1) + (w + 1) := Nat.succ_mul _ _
      omega
    · simp only [PyData.depthAll]
      exact Nat.max_le.mpr ⟨hd.dp, h5⟩
theorem ShowOk.list {ds : List PyData} {w dp : Nat} (h : ∀ d ∈ ds, ShowOk d w dp) : ShowOk (.list ds) (ds.length * (w + 1)) (dp + 1) := by
  obtain ⟨h1, h2, h3, h4, h5⟩ := showAll h
  exact ⟨by simpa [PyData.showable] using h1, by simpa [PyData.hasDict] using h2, by simpa [PyData.leavesShort] using h3, by simpa [PyData.weight] using h4, by simp only [PyData.depth]; omega⟩
theorem ShowOk.tuple {ds : List PyData} {w dp : Nat} (h : ∀ d ∈ ds, ShowOk d w dp) : ShowOk (.tuple ds) (ds.length * (w + 1)) (dp + 1) := by
  obtain ⟨h1, h2, h3, h4, h5⟩ := showAll h
  exact ⟨by simpa [PyData.showable] using h1, by simpa [PyData.hasDict] using h2, by simpa [PyData.leavesShort] using h3, by simpa [PyData.weight] using h4, by simp only [PyData.depth]; omega⟩
/-- tokens of which repr is asked -/
def Tk.ok : Tk → Prop
  | .word s => Plain s ∧ s.length ≤ 16
  | .name s => Plain s ∧ s.length ≤ 16
  | .num a b => a < 10 ^ 12 ∧ b < 10 ^ 12
  | .sign s => Plain s ∧ s.length ≤ 16
theorem tok_show {t : Tk × Nat} (h : t.1.ok) (hi : t.2 < 10 ^ 12) : ShowOk (tokD t) 303 2 := by
  obtain ⟨t, i⟩ := t
  have hk : ShowOk (.str t.kind) 100 1 := by
    have : Plain t.kind ∧ t.kind.length ≤ 100 := by
      have k4 : ∀ x ∈ (["word", "name", "number", "sign"] : List Str), Plain x ∧ x.length ≤ 100 := by unfold Plain; decide +kernel
      cases t <;> exact k4 _ (by simp [Tk.kind])
    exact (ShowOk.str this.1).mono this.2 (by decide)
  have hv : ShowOk t.val 100 1 := by
    cases t with
    | word s => exact (ShowOk.str h.1).mono (Nat.le_trans h.2 (by decide)) (by decide)
    | name s => exact (ShowOk.str h.1).mono (Nat.le_trans h.2 (by decide)) (by decide)
    | sign s => exact (ShowOk.str h.1).mono (Nat.le_trans h.2 (by decide)) (by decide)
    | num a b =>
      refine (ShowOk.tuple (ds := [.int (a : Int), .int (b : Int)]) (w := 41) (dp := 0) ?_).mono (by show 2 * 42 ≤ 100; decide) (by decide)
      intro d hd
      rcases List.mem_cons.mp hd with rfl | hd
      · exact ShowOk.int h.1
      · rcases List.mem_cons.mp hd with rfl | hd
        · exact ShowOk.int h.2
        · cases hd
  refine (ShowOk.tuple (ds := [.str t.kind, t.val, .int (i : Int)]) (w := 100) (dp := 1) ?_).mono (by show 3 * 101 ≤ 303; decide) (by decide)
  intro d hd
  rcases List.mem_cons.mp hd with rfl | hd
  · exact hk
  · rcases List.mem_cons.mp hd with rfl | hd
    · exact hv
    · rcases List.mem_cons.mp hd with rfl | hd
      · exact (ShowOk.int (i := (i : Int)) hi).mono (by decide) (by decide)
      · cases hd
end Al
namespace Al
open PySem PySem.Spec PyProof.Rows L2 NdefX PySem.W
/-! ### the law's own makers in plain Lean -/
def LETs : Str := "abcdefghijklmnopqrstuvwxyzABCDEFGHIJKLMNOPQRSTUVWXYZ"
def MOREs : Str := LETs ++ ("0123456789_" : Str)
def lawW (c : Nat) : List Nat := (lS LETs).getD (c % 52) 0 :: (List.range (c / 52 % 16)).map fun k => (lS MOREs).getD (c / 52 / (3 + k) % 63) 0
def parts : List Str := ["", "0", "5", "25", "007", "1234"]
def worths : List Nat := [1, 10, 10, 100, 1000, 10000]
def zers : List Str := ["", "0", "00"]
def wholeN (r : Nat) : Nat := r % (if r / 7 % 2 = 0 then 10 else 1000000)
def numS (n : Nat) : List Nat := lS (Str.ofString (toString ((n : Nat) : Int)))
def last6 (l : List Nat) : List Nat := l.drop (l.length - min 6 l.length)
def shOf (r : Nat) : List Nat := last6 (lS (zers.getD (r / 84 % 3) "") ++ numS (wholeN r))
def ptOf (r : Nat) : List Nat := lS (parts.getD (r / 14 % 6) "")
def lawTok (c : Nat) : Tk × List Nat :=
  if c % 5 = 0 then (.word (RES.getD (c / 5 % 16) ""), lS (RES.getD (c / 5 % 16) ""))
  else if c % 5 = 1 then (if uS (lawW (c / 5)) ∈ RES then .word (uS (lawW (c / 5))) else .name (uS (lawW (c / 5))), lawW (c / 5))
  else if c % 5 < 4 then (.num (digV (shOf (c / 5) ++ ptOf (c / 5))) (10 ^ (ptOf (c / 5)).length), shOf (c / 5) ++ (if ptOf (c / 5) = [] then [] else [46]) ++ ptOf (c / 5))
  else (.sign (SIG.getD (c / 5 % 16) ""), lS (SIG.getD (c / 5 % 16) ""))
def sepS : List Str := [" ", "\n", "\t", "  ", " # == fun\n", "\n\n"]
def sepOf (c : Nat) : List Nat := lS (sepS.getD (c / 3 % 6) "")
def bads : List Str := ["@", "1234567", "1.23456", "7a", "1.5x", "aaaaaaaaaaaaaaaaa", "!", ".", ".5", "{", "1_", "$"]
/-! ### facts -/
theorem tw_app {p : Nat → Bool} {x : Nat} {r : List Nat} (hx : p x = false) : ∀ l : List Nat, (∀ a ∈ l, p a = true) → (l ++ x :: r).takeWhile p = l
  | [], _ => by rw [List.nil_append, List.takeWhile_cons, if_neg (by rw [hx]; decide)]
  | a :: l, h => by
    rw [List.cons_append, List.takeWhile_cons, if_pos (h a List.mem_cons_self), tw_app hx l fun b hb => h b (List.mem_cons_of_mem _ hb)]
def blank3 (x : Nat) : Prop := x = 32 ∨ x = 10 ∨ x = 9
theorem blank_in {x : Nat} (h : blank3 x) : inName x = false ∧ isDigit x = false ∧ x ≠ 46 ∧ isSp x = true := by
  rcases h with rfl | rfl | rfl <;> decide
theorem word_lex {w : List Nat} {c : Nat} {x : Nat} {R : List Nat} (h0 : w.head? = some c) (hc : isLetter c = true) (hw : ∀ a ∈ w, inName a = true) (hl : w.length ≤ 16) (hx : blank3 x) :
    tok1 (w ++ x :: R) = some (if uS w ∈ RES then .word (uS w) else .name (uS w), w.length) := by
  cases w with
  | nil => cases h0
  | cons c' w =>
    cases h0
    have e := tw_app (r := R) (blank_in hx).1 (c :: w) hw
    show (if isLetter c = true then wordTok ((c :: w) ++ x :: R) else _) = _
    rw [if_pos hc]
    unfold wordTok
    rw [e]
    by_cases hm : uS (c :: w) ∈ RES
    · rw [if_pos hm, if_pos hm]
    · rw [if_neg hm, if_neg hm, if_neg (by omega)]
theorem letter_not_digit {c : Nat} (h : isDigit c = true) : isLetter c = false := by
  have := isDigit_ok h
  unfold isLetter
  rw [decide_eq_false (show ¬ 97 ≤ c by omega), decide_eq_false (show ¬ 65 ≤ c by omega)]
  rfl
theorem num_lex {sh pt : List Nat} {x : Nat} {R : List Nat} (h0 : sh ≠ []) (h1 : ∀ a ∈ sh, isDigit a = true) (h2 : ∀ a ∈ pt, isDigit a = true) (h3 : sh.length ≤ 6) (h4 : pt.length ≤ 4) (hx : blank3 x) :
    tok1 ((sh ++ (if pt = [] then [] else [46]) ++ pt) ++ x :: R) = some (.num (digV (sh ++ pt)) (10 ^ pt.length), (sh ++ (if pt = [] then [] else [46]) ++ pt).length) := by
  obtain ⟨b1, b2, b3, b4⟩ := blank_in hx
  have head : ∀ T, tok1 (sh ++ T) = numTok (sh ++ T) := fun T => by
    cases sh with
    | nil => exact absurd rfl h0
    | cons c s =>
      have hc := h1 c List.mem_cons_self
      show (if isLetter c = true then _ else if isDigit c = true then _ else _) = _
      rw [if_neg (by rw [letter_not_digit hc]; decide), if_pos hc] <;> rfl
  by_cases hp : pt = []
  · subst hp
    simp only [if_true, List.append_nil]
    rw [head]
    have e := tw_app (r := R) b2 sh h1
    have e2 : (sh ++ x :: R).drop sh.length = x :: R := by simp
    have e3 : partOf (x :: R) = [] := by
      cases R with
      | nil => rfl
      | cons d r =>
        show (if x = 46 ∧ isDigit d = true then _ else _) = _
        rw [if_neg (fun z => b3 z.1)]
    unfold numTok numLen
    rw [e, e2, e3]
    simp only [if_true, Nat.add_zero, List.length_nil, List.append_nil]
    rw [e2, if_neg]
    · rintro (z | z | z)
      · omega
      · omega
      · have : inName x = true := z
        rw [b1] at this; cases this
  · rw [if_neg hp]
    have ea : sh ++ [46] ++ pt ++ x :: R = sh ++ 46 :: (pt ++ x :: R) := by simp
    rw [ea, head]
    have e := tw_app (r := pt ++ x :: R) (by decide : isDigit 46 = false) sh h1
    have e2 : (sh ++ 46 :: (pt ++ x :: R)).drop sh.length = 46 :: (pt ++ x :: R) := by simp
    have e3 : partOf (46 :: (pt ++ x :: R)) = pt := by
      cases pt with
      | nil => exact absurd rfl hp
      | cons d r =>
        show (if 46 = 46 ∧ isDigit d = true then ((d :: r) ++ x :: R).takeWhile isDigit else []) = _
        rw [if_pos ⟨rfl, h2 d List.mem_cons_self⟩]
        exact tw_app b2 (d :: r) h2
    unfold numTok numLen
    rw [e, e2, e3, if_neg hp]
    have e4 : (sh ++ 46 :: (pt ++ x :: R)).drop (sh.length + (1 + pt.length)) = x :: R := by
      have : sh ++ 46 :: (pt ++ x :: R) = (sh ++ 46 :: pt) ++ x :: R := by simp
      rw [this]
      have hl : sh.length + (1 + pt.length) = (sh ++ 46 :: pt).length := by simp; omega
      rw [hl, List.drop_left]
    rw [e4, if_neg]
    · have hl : sh.length + (1 + pt.length) = (sh ++ [46] ++ pt).length := by simp; omega
      rw [hl]
    · rintro (z | z | z)
      · omega
      · omega
      · have : inName x = true := z
        rw [b1] at this; cases this
theorem sign_lex {k : Nat} {x : Nat} {R : List Nat} (hk : k < 16) (hx : blank3 x) : tok1 (lS (SIG.getD k "") ++ x :: R) = some (.sign (SIG.getD k ""), (lS (SIG.getD k "")).length) := by
  match k, hk with
  | 0, _ => rfl
  | 1, _ => rfl
  | 2, _ => rcases hx with rfl | rfl | rfl <;> rfl
  | 3, _ => rcases hx with rfl | rfl | rfl <;> rfl
  | 4, _ => rfl
  | 5, _ => rfl
  | 6, _ => rfl
  | 7, _ => rfl
  | 8, _ => rfl
  | 9, _ => rfl
  | 10, _ => rfl
  | 11, _ => rfl
  | 12, _ => rfl
  | 13, _ => rfl
  | 14, _ => rfl
  | 15, _ => rfl
  | k + 16, h => omega
theorem getD_mem {α : Type} {l : List α} {k : Nat} {d : α} (h : k < l.length) : l.getD k d ∈ l := by
  rw [List.getD_eq_getElem?_getD, List.getElem?_eq_getElem h]
  exact List.getElem_mem h
theorem lawW_facts (c : Nat) : ∃ a, (lawW c).head? = some a ∧ isLetter a = true ∧ (∀ b ∈ lawW c, inName b = true) ∧ (lawW c).length ≤ 16 := by
  have h1 : ∀ a ∈ lS LETs, isLetter a = true := by decide +kernel
  have h2 : ∀ a ∈ lS MOREs, inName a = true := by decide +kernel
  have l1 : (lS LETs).length = 52 := by decide +kernel
  have l2 : (lS MOREs).length = 63 := by decide +kernel
  have m1 : (lS LETs).getD (c % 52) 0 ∈ lS LETs := getD_mem (by rw [l1]; omega)
  refine ⟨_, rfl, h1 _ m1, ?_, ?_⟩
  · intro b hb
    rcases List.mem_cons.mp hb with rfl | hb
    · have := h1 _ m1
      unfold inName
      rw [this] <;> rfl
    · obtain ⟨k, _, rfl⟩ := List.mem_map.mp hb
      exact h2 _ (getD_mem (by rw [l2]; omega))
  · unfold lawW
    rw [List.length_cons, List.length_map, List.length_range]
    omega
theorem numS_eq (n : Nat) : numS n = (Nat.toDigits 10 n).map Char.toNat := KIN.signs_num n
theorem numS_digits (n : Nat) : ∀ a ∈ numS n, isDigit a = true := by
  intro a ha
  rw [numS_eq] at ha
  obtain ⟨ch, hch, rfl⟩ := List.mem_map.mp ha
  have h := Nat.isDigit_of_mem_toDigits (by decide) (by decide) hch
  unfold Char.isDigit at h
  rw [Bool.and_eq_true] at h
  unfold isDigit
  have h1 := of_decide_eq_true h.1
  have h2 := of_decide_eq_true h.2
  rw [Bool.and_eq_true]
  exact ⟨decide_eq_true (UInt32.le_iff_toNat_le.mp h1), decide_eq_true (UInt32.le_iff_toNat_le.mp h2)⟩
theorem numS_ne (n : Nat) : numS n ≠ [] := by
  rw [numS_eq]
  intro h
  have : (Nat.toDigits 10 n).length = 0 := by rw [List.map_eq_nil_iff.mp h] <;> rfl
  have h2 := Nat.length_toDigits_pos (b := 10) (n := n)
  omega
theorem last6_len (l : List Nat) : (last6 l).length = min 6 l.length := by
  unfold last6
  rw [List.length_drop]
  omega
theorem last6_sub (l : List Nat) : ∀ a ∈ last6 l, a ∈ l := fun a ha => List.mem_of_mem_drop ha
theorem sh_facts (r : Nat) : shOf r ≠ [] ∧ (∀ a ∈ shOf r, isDigit a = true) ∧ (shOf r).length ≤ 6 := by
  have hz : ∀ z ∈ zers, ∀ a ∈ lS z, isDigit a = true := by decide +kernel
  have m : zers.getD (r / 84 % 3) "" ∈ zers := getD_mem (by show _ < 3; omega)
  have hl := last6_len (lS (zers.getD (r / 84 % 3) "") ++ numS (wholeN r))
  refine ⟨?_, ?_, ?_⟩
  · intro h
    have h0 : (shOf r).length = 0 := by rw [h] <;> rfl
    have : (numS (wholeN r)).length ≠ 0 := fun z => numS_ne _ (List.length_eq_zero_iff.mp z)
    unfold shOf at h0
    rw [hl, List.length_append] at h0
    omega
  · intro a ha
    rcases List.mem_append.mp (last6_sub _ a ha) with h | h
    · exact hz _ m a h
    · exact numS_digits _ a h
  · unfold shOf
    rw [hl]
    omega
theorem pt_facts (r : Nat) : (∀ a ∈ ptOf r, isDigit a = true) ∧ (ptOf r).length ≤ 4 ∧ worths.getD (r / 14 % 6) 0 = 10 ^ (ptOf r).length ∧ (parts.getD (r / 14 % 6) "" = "" ↔ ptOf r = []) := by
  have hz : ∀ z ∈ parts, (∀ a ∈ lS z, isDigit a = true) ∧ (lS z).length ≤ 4 := by decide +kernel
  have m : parts.getD (r / 14 % 6) "" ∈ parts := getD_mem (by show _ < 6; omega)
  refine ⟨(hz _ m).1, (hz _ m).2, ?_, ?_⟩
  · have : r / 14 % 6 < 6 := by omega
    unfold ptOf
    generalize r / 14 % 6 = k at *
    match k, this with
    | 0, _ => decide +kernel
    | 1, _ => decide +kernel
    | 2, _ => decide +kernel
    | 3, _ => decide +kernel
    | 4, _ => decide +kernel
    | 5, _ => decide +kernel
    | k + 6, h => omega
  · unfold ptOf
    constructor
    · intro h; rw [h]; rfl
    · intro h
      have e : (parts.getD (r / 14 % 6) "") = uS [] := by rw [← h]; rfl
      rw [e]; decide +kernel
theorem RES_facts : ∀ g ∈ RES, (∃ a, (lS g).head? = some a ∧ isLetter a = true) ∧ (∀ b ∈ lS g, inName b = true) ∧ (lS g).length ≤ 16 := by
  have h : ∀ g ∈ RES, isLetter ((lS g).headD 0) = true ∧ lS g ≠ [] ∧ (∀ b ∈ lS g, inName b = true) ∧ (lS g).length ≤ 16 := by decide +kernel
  intro g hg
  obtain ⟨h1, h2, h3, h4⟩ := h g hg
  refine ⟨?_, h3, h4⟩
  cases hl : lS g with
  | nil => exact absurd hl h2
  | cons a l => rw [hl] at h1; exact ⟨a, rfl, h1⟩
theorem lawTok_lex (c : Nat) {x : Nat} {R : List Nat} (hx : blank3 x) : tok1 ((lawTok c).2 ++ x :: R) = some ((lawTok c).1, (lawTok c).2.length) := by
  unfold lawTok
  split
  · have m : RES.getD (c / 5 % 16) "" ∈ RES := getD_mem (by show _ < 16; omega)
    obtain ⟨⟨a, h1, h2⟩, h3, h4⟩ := RES_facts _ m
    have := word_lex (R := R) h1 h2 h3 h4 hx
    rw [if_pos (show uS (lS (RES.getD (c / 5 % 16) "")) ∈ RES from m)] at this
    exact this
  · split
    · obtain ⟨a, h1, h2, h3, h4⟩ := lawW_facts (c / 5)
      exact word_lex h1 h2 h3 h4 hx
    · split
      · obtain ⟨h1, h2, h3⟩ := sh_facts (c / 5)
        obtain ⟨g1, g2, _⟩ := pt_facts (c / 5)
        exact num_lex h1 h2 g1 h3 g2 hx
      · exact sign_lex (by omega) hx
theorem lawTok_len (c : Nat) : 1 ≤ (lawTok c).2.length ∧ (lawTok c).2.length ≤ 16 := by
  have h := lawTok_lex c (x := 32) (R := []) (.inl rfl)
  constructor
  · cases hl : (lawTok c).2 with
    | nil =>
      rw [hl] at h
      have z : tok1 ([] ++ [32]) = none := by decide
      rw [z] at h
      cases h
    | cons a l => rw [List.length_cons]; omega
  · unfold lawTok
    split
    · have m : RES.getD (c / 5 % 16) "" ∈ RES := getD_mem (by show _ < 16; omega)
      exact (RES_facts _ m).2.2
    · split
      · obtain ⟨a, h1, h2, h3, h4⟩ := lawW_facts (c / 5)
        exact h4
      · split
        · obtain ⟨h1, h2, h3⟩ := sh_facts (c / 5)
          obtain ⟨g1, g2, _⟩ := pt_facts (c / 5)
          show (shOf (c / 5) ++ (if ptOf (c / 5) = [] then [] else [46]) ++ ptOf (c / 5)).length ≤ 16
          rw [List.length_append, List.length_append]
          split <;> simp <;> omega
        · have hs : ∀ g ∈ SIG, (lS g).length ≤ 16 := by decide +kernel
          exact hs _ (getD_mem (by show _ < 16; omega))
theorem tok_start {c : Nat} {s : List Nat} {t : Tk} {k : Nat} (h : tok1 (c :: s) = some (t, k)) (hs : isSp c = true ∨ c = 35) : False := by
  have e : tok1 (c :: s) = signTok (c :: s) := by
    show (if isLetter c = true then _ else if isDigit c = true then _ else _) = _
    have hc : c = 32 ∨ c = 9 ∨ c = 10 ∨ c = 35 := by
      rcases hs with hs | hs
      · unfold isSp at hs
        simp at hs
        omega
      · omega
    rcases hc with rfl | rfl | rfl | rfl <;> rfl
  rw [e] at h
  have hc : c = 32 ∨ c = 9 ∨ c = 10 ∨ c = 35 := by
    rcases hs with hs | hs
    · unfold isSp at hs
      simp at hs
      omega
    · omega
  have : signTok (c :: s) = none := by
    rcases hc with rfl | rfl | rfl | rfl <;> rfl
  rw [this] at h
  cases h
/-- a token, then what stands behind it -/
theorem lex_tok {i : Nat} {w : List Nat} {t : Tk} {R : List Nat} {ts : List (Tk × Nat)} {e : Option Nat} (h : tok1 (w ++ R) = some (t, w.length)) (hw : w ≠ []) (hr : Lex (i + w.length) R ts e) : Lex i (w ++ R) ((t, i) :: ts) e := by
  cases w with
  | nil => exact absurd rfl hw
  | cons c w =>
    refine .tok (s := w ++ R) ?_ ?_ h ?_
    · cases hc : isSp c with
      | false => rfl
      | true => exact (tok_start h (.inl hc)).elim
    · intro hc
      exact tok_start h (.inr hc)
    · have : (c :: (w ++ R)).drop (c :: w).length = R := by
        show ((c :: w) ++ R).drop (c :: w).length = R
        exact List.drop_left
      rw [this]
      exact hr
theorem lex_sep (c : Nat) {i : Nat} {R : List Nat} {ts : List (Tk × Nat)} {e : Option Nat} (hr : Lex (i + (sepOf c).length) R ts e) : (∃ x S, sepOf c ++ R = x :: S ∧ blank3 x) ∧ Lex i (sepOf c ++ R) ts e := by
  have h6 : c / 3 % 6 < 6 := by omega
  unfold sepOf at *
  generalize c / 3 % 6 = k at *
  match k, h6 with
  | 0, _ => exact ⟨⟨_, _, rfl, .inl rfl⟩, .sp rfl hr⟩
  | 1, _ => exact ⟨⟨_, _, rfl, .inr (.inl rfl)⟩, .sp rfl hr⟩
  | 2, _ => exact ⟨⟨_, _, rfl, .inr (.inr rfl)⟩, .sp rfl hr⟩
  | 3, _ => exact ⟨⟨_, _, rfl, .inl rfl⟩, .sp rfl (.sp rfl hr)⟩
  | 4, _ =>
    refine ⟨⟨_, _, rfl, .inl rfl⟩, .sp rfl (.com ?_)⟩
    show Lex _ (10 :: R) ts e
    exact .sp rfl hr
  | 5, _ => exact ⟨⟨_, _, rfl, .inr (.inl rfl)⟩, .sp rfl (.sp rfl hr)⟩
  | k + 6, h => omega
theorem sep_len (c : Nat) : (sepOf c).length ≤ 10 := by
  have hs : ∀ g ∈ sepS, (lS g).length ≤ 10 := by decide +kernel
  exact hs _ (getD_mem (by show _ < 6; omega))
/-- the law's text and what is due, behind j pieces; C j: the j-th cell -/
def txtOf (C : Nat → Nat) : Nat → List Nat
  | 0 => []
  | j + 1 => txtOf C j ++ (lawTok (C j)).2 ++ sepOf (C j)
def dueOf (C : Nat → Nat) : Nat → List (Tk × Nat)
  | 0 => []
  | j + 1 => dueOf C j ++ [((lawTok (C j)).1, (txtOf C j).length)]
theorem lex_text (C : Nat → Nat) : ∀ (j : Nat) (R : List Nat) (ts : List (Tk × Nat)) (e : Option Nat), Lex (txtOf C j).length R ts e → Lex 0 (txtOf C j ++ R) (dueOf C j ++ ts) e
  | 0, R, ts, e, h => h
  | j + 1, R, ts, e, h => by
    have e1 : txtOf C (j + 1) ++ R = txtOf C j ++ ((lawTok (C j)).2 ++ (sepOf (C j) ++ R)) := by simp [txtOf]
    have e2 : dueOf C (j + 1) ++ ts = dueOf C j ++ (((lawTok (C j)).1, (txtOf C j).length) :: ts) := by simp [dueOf]
    rw [e1, e2]
    refine lex_text C j _ _ _ ?_
    have hl : (txtOf C (j + 1)).length = (txtOf C j).length + (lawTok (C j)).2.length + (sepOf (C j)).length := by simp [txtOf]; omega
    rw [hl] at h
    obtain ⟨⟨x, S, hx, hb⟩, h2⟩ := lex_sep (C j) h
    refine lex_tok ?_ ?_ h2
    · rw [hx]
      exact lawTok_lex (C j) hb
    · intro z
      have := (lawTok_len (C j)).1
      rw [z] at this
      simp at this
theorem txt_len (C : Nat → Nat) : ∀ j, (txtOf C j).length ≤ 26 * j
  | 0 => Nat.le_refl _
  | j + 1 => by
    have h1 := txt_len C j
    have h2 := (lawTok_len (C j)).2
    have h3 := sep_len (C j)
    simp [txtOf]
    omega
theorem due_len (C : Nat → Nat) : ∀ j, (dueOf C j).length = j
  | 0 => rfl
  | j + 1 => by simp [dueOf, due_len C j]
theorem cut_last (l : List Nat) : cutS (uS l) (some (0 - (if (l.length : Int) < 6 then (l.length : Int) else 6))) none = uS (last6 l) := by
  have hl : (uS l).length = l.length := rfl
  unfold cutS last6
  rw [HT.sIx_none, hl]
  have e : HT.sIx l.length 0 (some (0 - (if (l.length : Int) < 6 then (l.length : Int) else 6))) = l.length - min 6 l.length := by
    show (if (0 - (if (l.length : Int) < 6 then (l.length : Int) else 6)) < 0 then ((0 - (if (l.length : Int) < 6 then (l.length : Int) else 6)) + (l.length : Int)).toNat else min (0 - (if (l.length : Int) < 6 then (l.length : Int) else 6)).toNat l.length) = _
    split <;> split <;> omega
  rw [e]
  show uS ((l.drop (l.length - min 6 l.length)).take (l.length - (l.length - min 6 l.length))) = _
  rw [List.take_of_length_le (by rw [List.length_drop]; omega)]
theorem numS_len {n : Nat} (h : n < 1000000) : (numS n).length ≤ 10 := by
  have := KT.len_num (n := (n : Int)) (by omega) (by omega)
  exact this
theorem zers_len (k : Nat) (h : k < 3) : (lS (zers.getD k "")).length ≤ 2 := by
  have hs : ∀ g ∈ zers, (lS g).length ≤ 2 := by decide +kernel
  exact hs _ (getD_mem (show k < zers.length from h))
theorem dig_lt : ∀ (l : List Nat) (a : Nat), (∀ c ∈ l, isDigit c = true) → l.foldl (fun acc c => acc * 10 + (c - 48)) a < (a + 1) * 10 ^ l.length
  | [], a, _ => by simp
  | c :: l, a, h => by
    have h1 := dig_lt l (a * 10 + (c - 48)) fun d hd => h d (List.mem_cons_of_mem _ hd)
    have hc := isDigit_ok (h c List.mem_cons_self)
    rw [List.foldl_cons, List.length_cons, Nat.pow_succ]
    refine Nat.lt_of_lt_of_le h1 ?_
    have : (a * 10 + (c - 48) + 1) * 10 ^ l.length ≤ ((a + 1) * 10) * 10 ^ l.length := Nat.mul_le_mul_right _ (by omega)
    rw [Nat.mul_assoc] at this
    rw [Nat.mul_comm (10 ^ l.length) 10]
    exact this
theorem digV_lt {l : List Nat} (h : ∀ c ∈ l, isDigit c = true) : digV l < 10 ^ l.length := by
  have := dig_lt l 0 h
  rw [Nat.zero_add, Nat.one_mul] at this
  exact this
theorem lawTok_ok (c : Nat) : (lawTok c).1.ok := by
  have pl : ∀ l : List Nat, (∀ b ∈ l, inName b = true) → l.length ≤ 16 → Plain (uS l) ∧ (uS l).length ≤ 16 := fun l h1 h2 => ⟨fun b hb => by
    have := h1 b hb
    unfold inName isLetter isDigit at this
    simp at this
    omega, h2⟩
  unfold lawTok
  split
  · have m : RES.getD (c / 5 % 16) "" ∈ RES := getD_mem (by show _ < 16; omega)
    obtain ⟨_, h3, h4⟩ := RES_facts _ m
    exact pl _ h3 h4
  · split
    · obtain ⟨a, h1, h2, h3, h4⟩ := lawW_facts (c / 5)
      show (if uS (lawW (c / 5)) ∈ RES then Tk.word (uS (lawW (c / 5))) else Tk.name (uS (lawW (c / 5)))).ok
      split <;> exact pl _ h3 h4
    · split
      · obtain ⟨h1, h2, h3⟩ := sh_facts (c / 5)
        obtain ⟨g1, g2, _⟩ := pt_facts (c / 5)
        constructor
        · refine Nat.lt_of_lt_of_le (digV_lt (l := shOf (c / 5) ++ ptOf (c / 5)) fun a ha => (List.mem_append.mp ha).elim (h2 a) (g1 a)) (Nat.pow_le_pow_right (by decide) ?_)
          rw [List.length_append]; omega
        · exact Nat.lt_of_le_of_lt (Nat.pow_le_pow_right (by decide) g2) (by decide)
      · have hs : ∀ g ∈ SIG, Plain g ∧ g.length ≤ 16 := by unfold Plain; decide +kernel
        exact hs _ (getD_mem (by show _ < 16; omega))
theorem due_ok (C : Nat → Nat) : ∀ (j : Nat) (t : Tk × Nat), t ∈ dueOf C j → t.1.ok ∧ t.2 ≤ 26 * j
  | 0, t, h => by cases h
  | j + 1, t, h => by
    rcases List.mem_append.mp h with h | h
    · obtain ⟨h1, h2⟩ := due_ok C j t h
      exact ⟨h1, by omega⟩
    · have e : t = ((lawTok (C j)).1, (txtOf C j).length) := by simpa using h
      subst e
      have := txt_len C j
      exact ⟨lawTok_ok _, by show (txtOf C j).length ≤ _; omega⟩
theorem bad_lex (k i : Nat) (hk : k < 12) : Lex i (lS (bads.getD k "") ++ lS " x") [] (some i) := by
  have h : ∀ b ∈ bads, tok1 (lS b ++ lS " x") = none ∧ lS b ≠ [] ∧ isSp ((lS b).headD 0) = false ∧ (lS b).headD 0 ≠ 35 := by decide +kernel
  obtain ⟨h1, h2, h3, h4⟩ := h (bads.getD k "") (getD_mem (show k < bads.length from hk))
  cases hl : lS (bads.getD k "") with
  | nil => exact absurd hl h2
  | cons a l =>
    rw [hl] at h1 h3 h4
    exact .bad h3 h4 h1
theorem hash_lex (n i : Nat) : Lex i (List.replicate n 35) [] none := by
  cases n with
  | zero => exact .nil
  | succ n =>
    refine .com ?_
    have e : (List.replicate n 35).takeWhile notNl = List.replicate n 35 := by
      rw [List.takeWhile_replicate]
      rfl
    have e2 : (List.replicate n 35).drop ((List.replicate n 35).takeWhile notNl).length = [] := by
      rw [e, List.length_replicate]
      simp
    rw [e2]
    exact .nil
end Al
namespace Al
open PySem PySem.Spec PyProof.Rows L2 NdefX PySem.W
def top (i : Nat) : Stmt := PySem.Challenge.pw_alnage_k00_tokens.main.body.getD i (.Pass ⟨0, 0, 0, 0⟩)
local macro_rules | `(tactic| walk_at "rd1") => `(tactic| with_reducible first
  | refine r_var (by with_unfolding_all rfl) ?_ | refine r_c ?_ | refine r_op ?_ | refine r_I0 ?_ | refine r_un ?_ | refine r_U ?_
  | refine r_I (by with_unfolding_all first | exact ⟨by decide, by decide⟩ | (show (0 : Int) < _; decide)) ?_
  | refine r_eqI ?_ | refine r_neI ?_ | refine r_eqS ?_ | refine r_neS ?_ | refine r_eqB ?_ | refine r_neB ?_ | refine r_chain ?_
  | refine r_test ?_ | refine r_B ?_ | refine r_bl ?_ | refine r_int ?_ | refine r_and ?_ | refine r_or ?_ | refine r_not ?_ | refine r_andV ?_ | refine r_orV ?_ | refine r_notV ?_
  | refine r_if ?_ | refine r_nil ?_ | refine r_cons ?_ | refine r_cb ?_ | refine r_call ?_ | refine r_callS ?_ | refine r_tup ?_ | refine r_lst ?_ | refine r_seq ?_ | refine r_next ?_ | refine r_asg ?_
  | refine r_name ?_ | refine r_ifS ?_ | refine r_ret ?_ | refine r_retN ?_ | refine r_drop ?_ | refine r_brk ?_ | refine r_ct ?_ | refine r_sl ?_ | refine r_part ?_ | refine r_nopart ?_
  | refine r_bm ?_ | refine r_bm0 ?_ | refine r_raiseX ?_ | refine r_mkO ?_ | refine iteF ?_ | refine iteT ?_ | refine r_int1 ?_ | refine r_int1b ?_ | refine r_sz (by with_unfolding_all first | omega | (simp only [List.length_cons, List.length_nil]; omega)) ?_
  | (show ∃ _, _; refine ⟨_, rfl, ?_⟩) | (show ∃ _, _; refine ⟨_, _, rfl, rfl, ?_⟩))
local macro_rules | `(tactic| walk_at "rd") => `(tactic| repeat (walk_at "rd1"))

section
variable {P : Program} {w : World} {K : Frag} {mg : Str → Option Value} {base : Heap}
abbrev s_is_letter : Stmt := top 9
theorem sc_is_letter : FnScope ["char"] ["char"] (defScope s_is_letter) := ⟨rfl, rfl, rfl, by decide +kernel, rfl, by decide +kernel, by decide +kernel⟩
theorem cal_is_letter (dx : DefAt K mg "is_letter" s_is_letter) : Cal P w K mg base 1 "is_letter" ["char"] (spCh isLetter) := by
  refine cal_mk dx sc_is_letter (fun _ _ _ _ _ _ us hl => match us, hl with | [_], _ => rfl) (fun vs H Q E h => ?_) (fun f cdv A outer s H vs Q E hr h => ?_)
  · obtain ⟨c, rfl, _⟩ := h
    rfl
  · obtain ⟨c, rfl, k⟩ := h
    refine ⟨_, (pss_one (ps_ret (pe_or (pe_chain op_le_str op_le_str pe_str (pv 0) pe_str) (pe_one (pe_chain op_le_str op_le_str pe_str (pv 0) pe_str))))), ?_⟩
    walk_at "rd"
    rw [leA c "a" 97 (by decide +kernel)]
    refine r_ite (fun h1 => ?_) (fun h1 => ?_) <;> walk_at "rd"
    · rw [leB c "z" 122 (by decide +kernel)]
      refine r_ite (fun h2 => ?_) (fun h2 => ?_) <;> walk_at "rd"
      · have e : isLetter c = true := by simp [isLetter, h1, h2]
        rw [e] at k; exact k
      · rw [leA c "A" 65 (by decide +kernel), decide_eq_true (by have := of_decide_eq_true h1; omega : 65 ≤ c)]
        walk_at "rd"
        rw [leB c "Z" 90 (by decide +kernel)]
        have e : isLetter c = decide (c ≤ 90) := by have := of_decide_eq_true h1; simp [isLetter, h1, h2]; omega
        rw [e] at k; exact k
    · rw [leA c "A" 65 (by decide +kernel)]
      refine r_ite (fun h2 => ?_) (fun h2 => ?_) <;> walk_at "rd"
      · rw [leB c "Z" 90 (by decide +kernel)]
        have e : isLetter c = decide (c ≤ 90) := by simp [isLetter, h1, h2]
        rw [e] at k; exact k
      · have e : isLetter c = false := by simp [isLetter, h1, h2]
        rw [e] at k; exact k
abbrev s_is_digit : Stmt := top 10
theorem sc_is_digit : FnScope ["char"] ["char"] (defScope s_is_digit) := ⟨rfl, rfl, rfl, by decide +kernel, rfl, by decide +kernel, by decide +kernel⟩
theorem cal_is_digit (dx : DefAt K mg "is_digit" s_is_digit) : Cal P w K mg base 1 "is_digit" ["char"] (spCh isDigit) := by
  refine cal_mk dx sc_is_digit (fun _ _ _ _ _ _ us hl => match us, hl with | [_], _ => rfl) (fun vs H Q E h => ?_) (fun f cdv A outer s H vs Q E hr h => ?_)
  · obtain ⟨c, rfl, _⟩ := h
    rfl
  · obtain ⟨c, rfl, k⟩ := h
    refine ⟨_, (pss_one (ps_ret (pe_chain op_le_str op_le_str pe_str (pv 0) pe_str))), ?_⟩
    walk_at "rd"
    rw [leA c "0" 48 (by decide +kernel)]
    refine r_ite (fun h1 => ?_) (fun h1 => ?_) <;> walk_at "rd"
    · rw [leB c "9" 57 (by decide +kernel)]
      have e : isDigit c = decide (c ≤ 57) := by simp [isDigit, h1]
      rw [e] at k; exact k
    · have e : isDigit c = false := by simp [isDigit, h1]
      rw [e] at k; exact k
abbrev s_in_name : Stmt := top 11
theorem sc_in_name : FnScope ["char"] ["char"] (defScope s_in_name) := ⟨rfl, rfl, rfl, by decide +kernel, rfl, by decide +kernel, by decide +kernel⟩
theorem cal_in_name (dx : DefAt K mg "in_name" s_in_name) (G_is_letter : Cal P w K mg base 1 "is_letter" ["char"] (spCh isLetter)) (G_is_digit : Cal P w K mg base 1 "is_digit" ["char"] (spCh isDigit)) :
    Cal P w K mg base 2 "in_name" ["char"] (spCh inName) := by
  refine cal_mk dx sc_in_name (fun _ _ _ _ _ _ us hl => match us, hl with | [_], _ => rfl) (fun vs H Q E h => ?_) (fun f cdv A outer s H vs Q E hr h => ?_)
  · obtain ⟨c, rfl, _⟩ := h
    rfl
  · obtain ⟨c, rfl, k⟩ := h
    have tk : L2N.Takes (cxOf (L2N.CX P w) P w K mg base ["char"] "in_name" (defScope s_in_name) f cdv A outer s H E) (fun cls d _ H => E cls d H) := L2N.takes_of rfl rfl rfl rfl
    refine ⟨_, (pss_one (ps_ret (pe_or (pe_cal G_is_letter (hr.mono (by decide)) tk (pa_cons (pv 0) pa_nil)) (pe_or (pe_cal G_is_digit (hr.mono (by decide)) tk (pa_cons (pv 0) pa_nil)) (pe_one (pe_cmpR op_eq (pv 0) pe_str (nomark _))))))), ?_⟩
    walk_at "rd"
    refine ⟨c, rfl, ?_⟩
    walk_at "rd"
    refine r_ite (fun h1 => ?_) (fun h1 => ?_) <;> walk_at "rd"
    · have e : inName c = true := by simp [inName, h1]
      rw [e] at k; exact k
    · refine ⟨c, rfl, ?_⟩
      walk_at "rd"
      refine r_ite (fun h2 => ?_) (fun h2 => ?_) <;> walk_at "rd"
      · have e : inName c = true := by simp [inName, h2]
        rw [e] at k; exact k
      · rw [eqA c "_" 95 (by decide +kernel)]
        have e : inName c = decide (c = 95) := by simp [inName, h1, h2]
        rw [e] at k; exact k
abbrev s_run_end : Stmt := top 12
theorem sc_run_end : FnScope ["text", "at"] ["text", "at"] (defScope s_run_end) := ⟨rfl, rfl, rfl, by decide +kernel, rfl, by decide +kernel, by decide +kernel⟩
theorem cal_run_end (dx : DefAt K mg "run_end" s_run_end) (B : Bl mg) (G_in_name : Cal P w K mg base 2 "in_name" ["char"] (spCh inName)) : Cal P w K mg base 3 "run_end" ["text", "at"] (spSpan inName) := by
  refine cal_mk dx sc_run_end (fun _ _ _ _ _ _ us hl => match us, hl with | [_, _], _ => rfl) (fun vs H Q E h => ?_) (fun f cdv A outer s H vs Q E hr h => ?_)
  · obtain ⟨z, n, rfl, _⟩ := h
    rfl
  · obtain ⟨z, n, rfl, hz, hn, k⟩ := h
    have tk : L2N.Takes (cxOf (L2N.CX P w) P w K mg base ["text", "at"] "run_end" (defScope s_run_end) f cdv A outer s H E) (fun cls d _ H => E cls d H) := L2N.takes_of rfl rfl rfl rfl
    refine ⟨_, (pss_cons (ps_while (passes_of rfl) (PW.pt (pw_and (pt_cmpR op_lt (pv 1) (pe_callB call_len_str (by rfl) B.len PySem.boot_len (pa_cons (pv 0) pa_nil)) (nomark _)) (pw_and1 (pt_val (pe_cal G_in_name (hr.mono (by decide)) tk (pa_cons (pe_item_str (pv 0) (pv 1) (fun _ _ => rfl)) pa_nil))))))
      (pss_one (ps_set (i := 1) sc_run_end.nd rfl (Or.inl rfl) (pe_op op_add (pv 1) pe_int))))
      (pss_one (ps_ret (pv 1)))), ?_⟩
    walk_at "rd"
    refine ⟨fun m σ' H' => ∃ i : Nat, σ' = [some (.str z), some (.int (i : Int))] ∧ H = H' ∧ i ≤ z.length ∧ spanEnd inName (lS z) i = spanEnd inName (lS z) n ∧ m = z.length - i, ⟨_, n, rfl, rfl, hn, rfl, rfl⟩, ?_⟩
    rintro m σ' H' ⟨i, rfl, rfl, h2, h3, rfl⟩
    walk_at "rd"
    refine r_ite (fun h1 => ?_) (fun h1 => ?_) <;> walk_at "rd"
    · have hi : i < (lS z).length := by have := of_decide_eq_true h1; show i < z.cps.toList.length; rw [Array.length_toList]; show i < z.length; omega
      refine r_ch (List.getElem?_eq_getElem hi) (by omega) ?_
      walk_at "rd"
      refine ⟨_, rfl, ?_⟩
      walk_at "rd"
      refine r_ite (fun h4 => ?_) (fun h4 => ?_)
      · refine ⟨fun σ' H' => ∃ m', m' < z.length - i ∧ ∃ i : Nat, σ' = [some (.str z), some (.int (i : Int))] ∧ H = H' ∧ i ≤ z.length ∧ spanEnd inName (lS z) i = spanEnd inName (lS z) n ∧ m' = z.length - i, fun _ _ h => h, ?_⟩
        walk_at "rd"
        refine ⟨z.length - (i + 1), ?_, i + 1, rfl, rfl, ?_, ?_, rfl⟩
        · have := of_decide_eq_true h1; omega
        · have := of_decide_eq_true h1; omega
        · rw [spanEnd_go (List.getElem?_eq_getElem hi) h4, h3]
      · walk_at "rd"
        rw [spanEnd_stop (List.getElem?_eq_getElem hi) h4] at h3
        rw [h3]; exact k
    · have hi : (lS z).length ≤ i := by have := of_decide_eq_false h1; show z.cps.toList.length ≤ i; rw [Array.length_toList]; show z.length ≤ i; omega
      rw [spanEnd_end hi] at h3
      rw [h3]; exact k
abbrev s_digits_end : Stmt := top 13
theorem sc_digits_end : FnScope ["text", "at"] ["text", "at"] (defScope s_digits_end) := ⟨rfl, rfl, rfl, by decide +kernel, rfl, by decide +kernel, by decide +kernel⟩
theorem cal_digits_end (dx : DefAt K mg "digits_end" s_digits_end) (B : Bl mg) (G_is_digit : Cal P w K mg base 1 "is_digit" ["char"] (spCh isDigit)) : Cal P w K mg base 2 "digits_end" ["text", "at"] (spSpan isDigit) := by
  refine cal_mk dx sc_digits_end (fun _ _ _ _ _ _ us hl => match us, hl with | [_, _], _ => rfl) (fun vs H Q E h => ?_) (fun f cdv A outer s H vs Q E hr h => ?_)
  · obtain ⟨z, n, rfl, _⟩ := h
    rfl
  · obtain ⟨z, n, rfl, hz, hn, k⟩ := h
    have tk : L2N.Takes (cxOf (L2N.CX P w) P w K mg base ["text", "at"] "digits_end" (defScope s_digits_end) f cdv A outer s H E) (fun cls d _ H => E cls d H) := L2N.takes_of rfl rfl rfl rfl
    refine ⟨_, (pss_cons (ps_while (passes_of rfl) (PW.pt (pw_and (pt_cmpR op_lt (pv 1) (pe_callB call_len_str (by rfl) B.len PySem.boot_len (pa_cons (pv 0) pa_nil)) (nomark _)) (pw_and1 (pt_val (pe_cal G_is_digit (hr.mono (by decide)) tk (pa_cons (pe_item_str (pv 0) (pv 1) (fun _ _ => rfl)) pa_nil))))))
      (pss_one (ps_set (i := 1) sc_digits_end.nd rfl (Or.inl rfl) (pe_op op_add (pv 1) pe_int))))
      (pss_one (ps_ret (pv 1)))), ?_⟩
    walk_at "rd"
    refine ⟨fun m σ' H' => ∃ i : Nat, σ' = [some (.str z), some (.int (i : Int))] ∧ H = H' ∧ i ≤ z.length ∧ spanEnd isDigit (lS z) i = spanEnd isDigit (lS z) n ∧ m = z.length - i, ⟨_, n, rfl, rfl, hn, rfl, rfl⟩, ?_⟩
    rintro m σ' H' ⟨i, rfl, rfl, h2, h3, rfl⟩
    walk_at "rd"
    refine r_ite (fun h1 => ?_) (fun h1 => ?_) <;> walk_at "rd"
    · have hi : i < (lS z).length := by have := of_decide_eq_true h1; show i < z.cps.toList.length; rw [Array.length_toList]; show i < z.length; omega
      refine r_ch (List.getElem?_eq_getElem hi) (by omega) ?_
      walk_at "rd"
      refine ⟨_, rfl, ?_⟩
      walk_at "rd"
      refine r_ite (fun h4 => ?_) (fun h4 => ?_)
      · refine ⟨fun σ' H' => ∃ m', m' < z.length - i ∧ ∃ i : Nat, σ' = [some (.str z), some (.int (i : Int))] ∧ H = H' ∧ i ≤ z.length ∧ spanEnd isDigit (lS z) i = spanEnd isDigit (lS z) n ∧ m' = z.length - i, fun _ _ h => h, ?_⟩
        walk_at "rd"
        refine ⟨z.length - (i + 1), ?_, i + 1, rfl, rfl, ?_, ?_, rfl⟩
        · have := of_decide_eq_true h1; omega
        · have := of_decide_eq_true h1; omega
        · rw [spanEnd_go (List.getElem?_eq_getElem hi) h4, h3]
      · walk_at "rd"
        rw [spanEnd_stop (List.getElem?_eq_getElem hi) h4] at h3
        rw [h3]; exact k
    · have hi : (lS z).length ≤ i := by have := of_decide_eq_false h1; show z.cps.toList.length ≤ i; rw [Array.length_toList]; show z.length ≤ i; omega
      rw [spanEnd_end hi] at h3
      rw [h3]; exact k
abbrev s_comment_end : Stmt := top 14
theorem sc_comment_end : FnScope ["text", "at"] ["text", "at"] (defScope s_comment_end) := ⟨rfl, rfl, rfl, by decide +kernel, rfl, by decide +kernel, by decide +kernel⟩
theorem cal_comment_end (dx : DefAt K mg "comment_end" s_comment_end) (B : Bl mg)  : Cal P w K mg base 1 "comment_end" ["text", "at"] (spSpan notNl) := by
  refine cal_mk dx sc_comment_end (fun _ _ _ _ _ _ us hl => match us, hl with | [_, _], _ => rfl) (fun vs H Q E h => ?_) (fun f cdv A outer s H vs Q E hr h => ?_)
  · obtain ⟨z, n, rfl, _⟩ := h
    rfl
  · obtain ⟨z, n, rfl, hz, hn, k⟩ := h
    have tk : L2N.Takes (cxOf (L2N.CX P w) P w K mg base ["text", "at"] "comment_end" (defScope s_comment_end) f cdv A outer s H E) (fun cls d _ H => E cls d H) := L2N.takes_of rfl rfl rfl rfl
    refine ⟨_, (pss_cons (ps_while (passes_of rfl) (PW.pt (pw_and (pt_cmpR op_lt (pv 1) (pe_callB call_len_str (by rfl) B.len PySem.boot_len (pa_cons (pv 0) pa_nil)) (nomark _)) (pw_and1 (pt_cmpR op_ne (pe_item_str (pv 0) (pv 1) (fun _ _ => rfl)) pe_str (nomark _)))))
      (pss_one (ps_set (i := 1) sc_comment_end.nd rfl (Or.inl rfl) (pe_op op_add (pv 1) pe_int))))
      (pss_one (ps_ret (pv 1)))), ?_⟩
    walk_at "rd"
    refine ⟨fun m σ' H' => ∃ i : Nat, σ' = [some (.str z), some (.int (i : Int))] ∧ H = H' ∧ i ≤ z.length ∧ spanEnd notNl (lS z) i = spanEnd notNl (lS z) n ∧ m = z.length - i, ⟨_, n, rfl, rfl, hn, rfl, rfl⟩, ?_⟩
    rintro m σ' H' ⟨i, rfl, rfl, h2, h3, rfl⟩
    walk_at "rd"
    refine r_ite (fun h1 => ?_) (fun h1 => ?_) <;> walk_at "rd"
    · have hi : i < (lS z).length := by have := of_decide_eq_true h1; show i < z.cps.toList.length; rw [Array.length_toList]; show i < z.length; omega
      refine r_ch (List.getElem?_eq_getElem hi) (by omega) ?_
      walk_at "rd"
      rw [show (!decide ((⟨#[(lS z)[i]]⟩ : Str) = "\n")) = notNl (lS z)[i] from congrArg not (eqA _ "\n" 10 (by decide +kernel))]
      refine r_ite (fun h4 => ?_) (fun h4 => ?_)
      · refine ⟨fun σ' H' => ∃ m', m' < z.length - i ∧ ∃ i : Nat, σ' = [some (.str z), some (.int (i : Int))] ∧ H = H' ∧ i ≤ z.length ∧ spanEnd notNl (lS z) i = spanEnd notNl (lS z) n ∧ m' = z.length - i, fun _ _ h => h, ?_⟩
        walk_at "rd"
        refine ⟨z.length - (i + 1), ?_, i + 1, rfl, rfl, ?_, ?_, rfl⟩
        · have := of_decide_eq_true h1; omega
        · have := of_decide_eq_true h1; omega
        · rw [spanEnd_go (List.getElem?_eq_getElem hi) h4, h3]
      · walk_at "rd"
        rw [spanEnd_stop (List.getElem?_eq_getElem hi) h4] at h3
        rw [h3]; exact k
    · have hi : (lS z).length ≤ i := by have := of_decide_eq_false h1; show z.cps.toList.length ≤ i; rw [Array.length_toList]; show z.length ≤ i; omega
      rw [spanEnd_end hi] at h3
      rw [h3]; exact k
abbrev s_read_word : Stmt := top 15
theorem sc_read_word : FnScope ["text", "at", "end", "word"] ["text", "at"] (defScope s_read_word) := ⟨rfl, rfl, rfl, by decide +kernel, rfl, by decide +kernel, by decide +kernel⟩
theorem cal_read_word {DM : Addr} (dx : DefAt K mg "read_word" s_read_word) (B : Bl mg) (L : LexC K mg) (XMalformed : ExC1 P w K mg base "Malformed" DM "at" CMal) (G_run_end : Cal P w K mg base 3 "run_end" ["text", "at"] (spSpan inName)) :
    Cal P w K mg base 4 "read_word" ["text", "at"] (spTok DM (fun _ => true) wordTok) := by
  refine cal_mk dx sc_read_word (fun _ _ _ _ _ _ us hl => match us, hl with | [_, _], _ => rfl) (fun vs H Q E h => ?_) (fun f cdv A outer s H vs Q E hr h => ?_)
  · obtain ⟨z, n, rfl, _⟩ := h
    rfl
  · obtain ⟨z, n, rfl, hz, hn, hc, k⟩ := h
    obtain ⟨aR, gRES, hRES⟩ := L.res
    have tk : L2N.Takes (cxOf (L2N.CX P w) P w K mg base ["text", "at", "end", "word"] "read_word" (defScope s_read_word) f cdv A outer s H E) (fun cls d _ H => E cls d H) := L2N.takes_of rfl rfl rfl rfl
    refine ⟨_, (pss_cons (ps_set (i := 2) sc_read_word.nd rfl (Or.inl rfl) (pe_cal G_run_end (hr.mono (by decide)) tk (pa_cons (pv 0) (pa_cons (pv 1) pa_nil))))
      (pss_cons (ps_set (i := 3) sc_read_word.nd rfl (Or.inl rfl) (pe_slice sl_str (pv 0) (po_some (pv 1)) (po_some (pv 2))))
      (pss_cons (ps_if (pt_cmpR op_in_seq (pv 3) (pe_gref gRES) (by rfl))
      (pss_one (ps_ret (pe_tup (pa_cons (pe_tup (pa_cons pe_str (pa_cons (pv 3) (pa_cons (pv 1) pa_nil)))) (pa_cons (pv 2) pa_nil)))))
      pss_nil)
      (pss_cons (ps_if (pt_cmpR op_gt (pe_callB call_len_str (by rfl) B.len PySem.boot_len (pa_cons (pv 3) pa_nil)) (pe_gint L.gMN) (nomark _))
      (pss_one (ps_raiseX rfl tk (pmk_x1 XMalformed (hr.mono (by decide)) (pa_cons (pv 1) pa_nil))))
      pss_nil)
      (pss_one (ps_ret (pe_tup (pa_cons (pe_tup (pa_cons pe_str (pa_cons (pv 3) (pa_cons (pv 1) pa_nil)))) (pa_cons (pv 2) pa_nil))))))))), ?_⟩
    walk_at "rd"
    refine ⟨z, n, rfl, hz, by omega, ?_⟩
    walk_at "rd"
    refine r_slS (by rw [sizeLine_eq]; omega) ?_
    rw [cut_span inName (by omega)]
    walk_at "rd"
    refine ⟨aR, RES.map V.str, rfl, .inr (hRES _), rfl, flat_strs _, ?_⟩
    walk_at "rd"
    rw [inV_str]
    have hse : spanEnd inName (lS z) n = n + (((lS z).drop n).takeWhile inName).length := rfl
    unfold wordTok at k
    generalize hw : ((lS z).drop n).takeWhile inName = wd at *
    have hlw : (uS wd).length = wd.length := rfl
    rw [hse]
    have hwl : wd.length ≤ 20000 := by
      rw [← hw]
      have h1 := (List.takeWhile_sublist (l := (lS z).drop n) inName).length_le
      rw [List.length_drop] at h1
      have h2 : (lS z).length = z.length := Array.length_toList
      omega
    refine r_ite (fun h1 => ?_) (fun h1 => ?_)
    · have h1' : uS wd ∈ RES := of_decide_eq_true h1
      rw [if_pos h1'] at k
      walk_at "rd"
      intro p hp
      walk_at "rd"
      intro q hq
      have pq : p ≠ q := fun e => by rw [e] at hq; rw [upd_same] at hq; cases hq
      refine k q _ _ (fun b o hb => ?_) upd_same (.tup (a := p) (xs := [V.str "word", V.str (uS wd), V.int n]) ?_ (.cons (.str _) (.cons (.str _) (.cons (.int _) .nil))))
      · exact Same.new hq _ _ (Same.new hp _ _ hb)
      · rw [upd_ne pq, upd_same]
    · have h1' : ¬ uS wd ∈ RES := of_decide_eq_false h1
      rw [if_neg h1'] at k
      walk_at "rd"
      rw [hlw]
      refine r_ite (fun h2 => ?_) (fun h2 => ?_)
      · have h2' : wd.length > 16 := by have := of_decide_eq_true h2; omega
        rw [if_pos h2'] at k
        walk_at "rd"
        refine r_mkx ⟨_, rfl, log_ok (by omega)⟩ fun d H' hd hs he => k d H' hs he
      · have h2' : ¬ wd.length > 16 := by have := of_decide_eq_false h2; omega
        rw [if_neg h2'] at k
        walk_at "rd"
        intro p hp
        walk_at "rd"
        intro q hq
        have pq : p ≠ q := fun e => by rw [e] at hq; rw [upd_same] at hq; cases hq
        refine k q _ _ (fun b o hb => ?_) upd_same (.tup (a := p) (xs := [V.str "name", V.str (uS wd), V.int n]) ?_ (.cons (.str _) (.cons (.str _) (.cons (.int _) .nil))))
        · exact Same.new hq _ _ (Same.new hp _ _ hb)
        · rw [upd_ne pq, upd_same]
abbrev s_read_sign : Stmt := top 17
theorem sc_read_sign : FnScope ["text", "at", "sign"] ["text", "at"] (defScope s_read_sign) := ⟨rfl, rfl, rfl, by decide +kernel, rfl, by decide +kernel, by decide +kernel⟩
theorem cal_read_sign {DM : Addr} (dx : DefAt K mg "read_sign" s_read_sign) (B : Bl mg) (L : LexC K mg) (XMalformed : ExC1 P w K mg base "Malformed" DM "at" CMal) :
    Cal P w K mg base 3 "read_sign" ["text", "at"] (spTok DM (fun _ => true) signTok) := by
  refine cal_mk dx sc_read_sign (fun _ _ _ _ _ _ us hl => match us, hl with | [_, _], _ => rfl) (fun vs H Q E h => ?_) (fun f cdv A outer s H vs Q E hr h => ?_)
  · obtain ⟨z, n, rfl, _⟩ := h
    rfl
  · obtain ⟨z, n, rfl, hz, hn, hc, k⟩ := h
    obtain ⟨aS, gSIG, hSIG⟩ := L.sig
    have tk : L2N.Takes (cxOf (L2N.CX P w) P w K mg base ["text", "at", "sign"] "read_sign" (defScope s_read_sign) f cdv A outer s H E) (fun cls d _ H => E cls d H) := L2N.takes_of rfl rfl rfl rfl
    refine ⟨_, (pss_cons (ps_for (passes_of rfl) rfl (pi_tup (pe_gref gSIG)) (pg_name (i := 2) sc_read_sign.nd rfl (Or.inl rfl))
      (pss_one (ps_if (pt_val (pe_bm PySem.F.plainAttrs_str PySem.F.slot_str_startswith PySem.F.type_str_startswith mt_startswith3 (pv 0) (pa_cons (pv 2) (pa_cons (pv 1) pa_nil))))
      (pss_one (ps_ret (pe_tup (pa_cons (pe_tup (pa_cons pe_str (pa_cons (pv 2) (pa_cons (pv 1) pa_nil)))) (pa_cons (pe_op op_add (pv 1) (pe_callB call_len_str (by rfl) B.len PySem.boot_len (pa_cons (pv 2) pa_nil))) pa_nil)))))
      pss_nil)))
      (pss_one (ps_raiseX rfl tk (pmk_x1 XMalformed (hr.mono (by decide)) (pa_cons (pv 1) pa_nil))))), ?_⟩
    walk_at "rd"
    refine ⟨aS, rfl, ⟨_, hSIG _⟩, for_tup (K := K) (a := aS) (xs := SIG.map V.str) (fun i σ' H' => H = H' ∧ (∃ v, σ' = [some (.str z), some (.int (n : Int)), v]) ∧ i ≤ SIG.length ∧ ∀ g ∈ SIG.take i, (lS g).isPrefixOf ((lS z).drop n) = false)
      ⟨rfl, ⟨none, rfl⟩, Nat.zero_le _, fun g hg => by simp at hg⟩ (fun i σ' H' _ _ => hSIG _) ?_ ?_⟩
    · rintro i x σ' H' hi ⟨rfl, ⟨v, rfl⟩, hle, hpre⟩
      rw [List.getElem?_map] at hi
      obtain ⟨g, hg, rfl⟩ := Option.map_eq_some_iff.mp hi
      walk_at "rd"
      refine ⟨rfl, ?_⟩
      walk_at "rd"
      refine ⟨_, _, _, rfl, rfl, ?_⟩
      rw [starts_iff (by omega)]
      walk_at "rd"
      obtain ⟨hlt, hg2⟩ := List.getElem?_eq_some_iff.mp hg
      refine r_ite (fun h1 => ?_) (fun h1 => ?_)
      · have hf : SIG.find? (fun g => (lS g).isPrefixOf ((lS z).drop n)) = some g := by
          rw [List.find?_eq_some_iff_getElem]
          refine ⟨h1, i, hlt, hg2, fun j hj => ?_⟩
          have := hpre SIG[j] (List.mem_take_iff_getElem.mpr ⟨j, by omega, rfl⟩)
          rw [this] <;> rfl
        have hs : signTok ((lS z).drop n) = some (.sign g, (lS g).length) := by unfold signTok; rw [hf]
        rw [hs] at k
        walk_at "rd"
        intro p hp
        walk_at "rd"
        have hgl : g.length ≤ 2 := by
          have : ∀ g ∈ SIG, g.length ≤ 2 := by decide +kernel
          exact this g (List.mem_of_getElem? hg)
        refine r_sz (by omega) ?_
        walk_at "rd"
        intro q hq
        have pq : p ≠ q := fun e => by rw [e] at hq; rw [upd_same] at hq; cases hq
        refine k q _ _ (fun b o hb => ?_) upd_same (.tup (a := p) (xs := [V.str "sign", V.str g, V.int n]) ?_ (.cons (.str _) (.cons (.str _) (.cons (.int _) .nil))))
        · exact Same.new hq _ _ (Same.new hp _ _ hb)
        · rw [upd_ne pq, upd_same]
      · walk_at "rd"
        refine ⟨rfl, ⟨_, rfl⟩, by omega, fun g' hg' => ?_⟩
        rw [List.take_succ, hg] at hg'
        rcases List.mem_append.mp hg' with h | h
        · exact hpre g' h
        · simp at h; subst h; exact h1
    · rintro σ' H' ⟨rfl, ⟨v, rfl⟩, hle, hpre⟩
      have hs : signTok ((lS z).drop n) = none := by
        have : SIG.find? (fun g => (lS g).isPrefixOf ((lS z).drop n)) = none := by
          rw [List.find?_eq_none]
          intro g hg
          rw [List.length_map, List.take_length] at hpre
          rw [hpre g hg]; decide
        unfold signTok; rw [this]
      rw [hs] at k
      walk_at "rd"
      exact r_mkx ⟨_, rfl, log_ok (by omega)⟩ fun d H' hd hs he => k d H' hs he
abbrev s_read_number : Stmt := top 16
theorem sc_read_number : FnScope ["text", "at", "end", "whole", "part", "last", "worth", "_"] ["text", "at"] (defScope s_read_number) := ⟨rfl, rfl, rfl, by decide +kernel, rfl, by decide +kernel, by decide +kernel⟩
theorem cal_read_number {DM : Addr} (dx : DefAt K mg "read_number" s_read_number) (B : Bl mg) (XMalformed : ExC1 P w K mg base "Malformed" DM "at" CMal)
    (G_digits_end : Cal P w K mg base 2 "digits_end" ["text", "at"] (spSpan isDigit)) (G_is_digit : Cal P w K mg base 1 "is_digit" ["char"] (spCh isDigit)) (G_in_name : Cal P w K mg base 2 "in_name" ["char"] (spCh inName)) :
    Cal P w K mg base 4 "read_number" ["text", "at"] (spTok DM isDigit numTok) := by
  refine cal_mk dx sc_read_number (fun _ _ _ _ _ _ us hl => match us, hl with | [_, _], _ => rfl) (fun vs H Q E h => ?_) (fun f cdv A outer s H vs Q E hr h => ?_)
  · obtain ⟨z, n, rfl, _⟩ := h
    rfl
  · obtain ⟨z, n, rfl, hz, hn, hc, k⟩ := h
    have tk : L2N.Takes (cxOf (L2N.CX P w) P w K mg base ["text", "at", "end", "whole", "part", "last", "worth", "_"] "read_number" (defScope s_read_number) f cdv A outer s H E) (fun cls d _ H => E cls d H) := L2N.takes_of rfl rfl rfl rfl
    refine ⟨_, (pss_cons (ps_set (i := 2) sc_read_number.nd rfl (Or.inl rfl) (pe_cal G_digits_end (hr.mono (by decide)) tk (pa_cons (pv 0) (pa_cons (pv 1) pa_nil))))
      (pss_cons (ps_set (i := 3) sc_read_number.nd rfl (Or.inl rfl) (pe_slice sl_str (pv 0) (po_some (pv 1)) (po_some (pv 2))))
      (pss_cons (ps_set (i := 4) sc_read_number.nd rfl (Or.inl rfl) pe_str)
      (C8.pss_cut (ps_if (PW.pt (pw_and (pt_cmpR op_lt (pe_op op_add (pv 2) pe_int) (pe_callB call_len_str (by rfl) B.len PySem.boot_len (pa_cons (pv 0) pa_nil)) (nomark _)) (pw_and (pt_cmpR op_eq (pe_item_str (pv 0) (pv 2) (fun _ _ => rfl)) pe_str (nomark _)) (pw_and1 (pt_val (pe_cal G_is_digit (hr.mono (by decide)) tk (pa_cons (pe_item_str (pv 0) (pe_op op_add (pv 2) pe_int) (fun _ _ => rfl)) pa_nil)))))))
      (pss_cons (ps_set (i := 5) sc_read_number.nd rfl (Or.inl rfl) (pe_cal G_digits_end (hr.mono (by decide)) tk (pa_cons (pv 0) (pa_cons (pe_op op_add (pv 2) pe_int) pa_nil))))
      (pss_cons (ps_set (i := 4) sc_read_number.nd rfl (Or.inl rfl) (pe_slice sl_str (pv 0) (po_some (pe_op op_add (pv 2) pe_int)) (po_some (pv 5))))
      (pss_one (ps_set (i := 2) sc_read_number.nd rfl (Or.inl rfl) (pv 5)))))
      pss_nil)
      (C8.pss_cut (ps_if (PW.pt (pw_or (pt_cmpR op_gt (pe_callB call_len_str (by rfl) B.len PySem.boot_len (pa_cons (pv 3) pa_nil)) pe_int (nomark _)) (pw_or (pt_cmpR op_gt (pe_callB call_len_str (by rfl) B.len PySem.boot_len (pa_cons (pv 4) pa_nil)) pe_int (nomark _)) (pw_or1 (PW.pt (pw_and (pt_cmpR op_lt (pv 2) (pe_callB call_len_str (by rfl) B.len PySem.boot_len (pa_cons (pv 0) pa_nil)) (nomark _)) (pw_and1 (pt_val (pe_cal G_in_name (hr.mono (by decide)) tk (pa_cons (pe_item_str (pv 0) (pv 2) (fun _ _ => rfl)) pa_nil))))))))))
      (pss_one (ps_raiseX rfl tk (pmk_x1 XMalformed (hr.mono (by decide)) (pa_cons (pv 1) pa_nil))))
      pss_nil)
      (pss_cons (ps_set (i := 6) sc_read_number.nd rfl (Or.inl rfl) pe_int)
      (pss_cons (ps_for (passes_of rfl) rfl (pi_range1 (by rfl) B.range (pa_cons (pe_callB call_len_str (by rfl) B.len PySem.boot_len (pa_cons (pv 4) pa_nil)) pa_nil)) (pg_name (i := 7) sc_read_number.nd rfl (Or.inl rfl))
      (pss_one (ps_set (i := 6) sc_read_number.nd rfl (Or.inl rfl) (pe_op op_mulW (pv 6) pe_int))))
      (pss_one (ps_ret (pe_tup (pa_cons (pe_tup (pa_cons pe_str (pa_cons (pe_tup (pa_cons (pe_callTy call_int_str (by rfl) B.int (by decide +kernel) (pa_cons (pe_op op_add_str (pv 3) (pv 4)) pa_nil)) (pa_cons (pv 6) pa_nil))) (pa_cons (pv 1) pa_nil)))) (pa_cons (pv 2) pa_nil)))))))))))), ?_⟩
    have hl : (lS z).length = z.length := Array.length_toList
    walk_at "rd"
    refine ⟨z, n, rfl, hz, by omega, ?_⟩
    walk_at "rd"
    refine r_slS (by rw [sizeLine_eq]; omega) ?_
    rw [cut_span isDigit (by omega)]
    walk_at "rd"
    have hse : spanEnd isDigit (lS z) n = n + (((lS z).drop n).takeWhile isDigit).length := rfl
    rw [hse]
    unfold numTok numLen at k
    rw [List.drop_drop] at k
    generalize hd : ((lS z).drop n).takeWhile isDigit = ds at *
    have hdl : n + ds.length ≤ z.length := by
      have h1 := (List.takeWhile_sublist (l := (lS z).drop n) isDigit).length_le
      rw [List.length_drop, hd] at h1
      omega
    have hdd : ∀ c ∈ ds, isDigit c = true := by rw [← hd]; exact fun c hc => List.all_eq_true.mp List.all_takeWhile c hc
    generalize hp : partOf ((lS z).drop (n + ds.length)) = pt at *
    have hpd : ∀ c ∈ pt, isDigit c = true := by rw [← hp]; exact partOf_digits _
    generalize hk : (ds.length + if pt = [] then 0 else 1 + pt.length) = kk at *
    refine ⟨fun σ' H' => H = H' ∧ n + kk ≤ z.length ∧ pt.length ≤ 20000 ∧ ∃ v, σ' = [some (.str z), some (.int (n : Int)), some (.int ((n + kk : Nat) : Int)), some (.str (uS ds)), some (.str (uS pt)), v, none, none], ?_, ?_⟩
    · -- the digits behind a point
      have no : ¬ ((lS z)[n + ds.length]? = some 46 ∧ ∃ d, (lS z)[n + ds.length + 1]? = some d ∧ isDigit d = true) → pt = [] := fun h => by rw [← hp]; exact partOf_no h
      have nofin : pt = [] → H = H ∧ n + kk ≤ z.length ∧ pt.length ≤ 20000 ∧ ∃ v, [some (V.str z), some (V.int (n : Int)), some (V.int ((n + ds.length : Nat) : Int)), some (V.str (uS ds)), some (V.str ""), none, none, none] = [some (.str z), some (.int (n : Int)), some (.int ((n + kk : Nat) : Int)), some (.str (uS ds)), some (.str (uS pt)), v, none, none] := fun h => by
        subst h
        rw [if_pos rfl] at hk
        rw [← hk]
        exact ⟨rfl, by omega, by simp, _, rfl⟩
      walk_at "rd"
      refine r_ite (fun h1 => ?_) (fun h1 => ?_) <;> walk_at "rd"
      · have h1' : n + ds.length + 1 < z.length := by have := of_decide_eq_true h1; omega
        refine r_ch (List.getElem?_eq_getElem (by rw [show z.cps.toList = lS z from rfl]; omega)) (by omega) ?_
        walk_at "rd"
        rw [show decide ((⟨#[z.cps.toList[n + ds.length]'(by rw [show z.cps.toList = lS z from rfl]; omega)]⟩ : Str) = ".") = _ from eqA _ "." 46 (by decide +kernel)]
        refine r_ite (fun h2 => ?_) (fun h2 => ?_)
        · have h2' := of_decide_eq_true h2
          have g1 : (lS z)[n + ds.length]? = some 46 := by rw [List.getElem?_eq_getElem (by omega)]; exact congrArg some h2'
          walk_at "rd"
          have e1 : ((n + ds.length : Nat) : Int) + 1 = ((n + ds.length + 1 : Nat) : Int) := by omega
          rw [e1]
          refine r_ch (List.getElem?_eq_getElem (by rw [show z.cps.toList = lS z from rfl]; omega)) (by omega) ?_
          walk_at "rd"
          refine ⟨_, rfl, ?_⟩
          walk_at "rd"
          have g2 : (lS z)[n + ds.length + 1]? = some ((lS z)[n + ds.length + 1]'(by omega)) := List.getElem?_eq_getElem (by omega)
          refine r_ite (fun h3 => ?_) (fun h3 => ?_)
          · walk_at "rd"
            rw [e1]
            refine ⟨z, n + ds.length + 1, rfl, hz, by omega, ?_⟩
            walk_at "rd"
            rw [e1]
            refine r_slS (by rw [sizeLine_eq]; omega) ?_
            rw [cut_span isDigit (by omega)]
            have e2 : ((lS z).drop (n + ds.length + 1)).takeWhile isDigit = pt := by rw [← hp, partOf_yes g1 g2 h3]
            have e3 : pt ≠ [] := by rw [← hp]; exact partOf_ne g1 g2 h3
            rw [if_neg e3] at hk
            have e4 : spanEnd isDigit (lS z) (n + ds.length + 1) = n + kk := by unfold spanEnd; rw [e2]; omega
            have e5 := spanEnd_le (p := isDigit) (l := lS z) (n := n + ds.length + 1) (by omega)
            rw [e4, e2]
            walk_at "rd"
            exact ⟨rfl, by omega, by omega, _, rfl⟩
          · walk_at "rd"
            refine nofin (no ?_)
            rintro ⟨_, d, hd1, hd2⟩
            rw [g2] at hd1
            cases hd1
            have h3' : isDigit ((lS z)[n + ds.length + 1]'(by omega)) = false := h3
            rw [h3'] at hd2
            cases hd2
        · walk_at "rd"
          refine nofin (no ?_)
          rintro ⟨g1, _⟩
          rw [List.getElem?_eq_getElem (by omega)] at g1
          have := of_decide_eq_false h2
          exact this (Option.some.inj g1)
      · refine nofin (no ?_)
        rintro ⟨_, d, hd1, _⟩
        have := (List.getElem?_eq_some_iff.mp hd1).1
        have := of_decide_eq_false h1
        omega
    · -- the rest
      rintro σ' H' ⟨rfl, hkz, hpz, v, rfl⟩
      have hdz : ds.length ≤ 20000 := by omega
      have lu : ∀ l : List Nat, (uS l).length = l.length := fun _ => rfl
      have bad : (ds.length > 6 ∨ pt.length > 4 ∨ nextIn ((lS z).drop (n + kk)) = true) → tRaiseX (fun cls d _ H => E cls d H) (tMkO DM (spX1 DM "at" CMal) [] (tCons (tVar 1) tNil)) { nx := fun _ _ => True, rt := Q } [some (V.str z), some (V.int (n : Int)), some (V.int ((n + kk : Nat) : Int)), some (V.str (uS ds)), some (V.str (uS pt)), v, none, none] H := fun hb => by
        rw [List.drop_drop, if_pos hb] at k
        walk_at "rd"
        exact r_mkx ⟨_, rfl, log_ok (by omega)⟩ fun d H' hd hs he => k d H' hs he
      have good : ¬ (ds.length > 6 ∨ pt.length > 4 ∨ nextIn ((lS z).drop (n + kk)) = true) → ∀ p v H', Same H H' → H' p = some (.tup [v, .int ((n + kk : Nat) : Int)]) → Tp H' v (tokD (.num (digV (ds ++ pt)) (10 ^ pt.length), n)) → Q (.ref p) H' := fun hb => by
        rw [List.drop_drop, if_neg hb] at k
        exact k
      have l1 : (uS ds).length = ds.length := rfl
      have l2 : (uS pt).length = pt.length := rfl
      have l3 : (uS (ds ++ pt)).length = ds.length + pt.length := List.length_append
      have fin : ¬ (ds.length > 6 ∨ pt.length > 4 ∨ nextIn ((lS z).drop (n + kk)) = true) → ds.length ≤ 6 ∧ pt.length ≤ 4 := fun h => by
        constructor
        · exact Nat.le_of_not_lt fun z => h (.inl z)
        · exact Nat.le_of_not_lt fun z => h (.inr (.inl z))
      refine ⟨fun σ' H' => H = H' ∧ ¬ (ds.length > 6 ∨ pt.length > 4 ∨ nextIn ((lS z).drop (n + kk)) = true) ∧ σ' = [some (.str z), some (.int (n : Int)), some (.int ((n + kk : Nat) : Int)), some (.str (uS ds)), some (.str (uS pt)), v, none, none], ?_, ?_⟩
      · walk_at "rd"
        refine r_ite (fun h1 => ?_) (fun h1 => ?_) <;> walk_at "rd"
        · have h1' := of_decide_eq_true h1
          have hb : ds.length > 6 ∨ pt.length > 4 ∨ nextIn ((lS z).drop (n + kk)) = true := .inl (by omega)
          rw [List.drop_drop, if_pos hb] at k
          exact r_mkx ⟨_, rfl, log_ok (by omega)⟩ fun d H' hd hs he => k d H' hs he
        refine r_ite (fun h2 => ?_) (fun h2 => ?_) <;> walk_at "rd"
        · have h2' := of_decide_eq_true h2
          have hb : ds.length > 6 ∨ pt.length > 4 ∨ nextIn ((lS z).drop (n + kk)) = true := .inr (.inl (by omega))
          rw [List.drop_drop, if_pos hb] at k
          exact r_mkx ⟨_, rfl, log_ok (by omega)⟩ fun d H' hd hs he => k d H' hs he
        have h1' := of_decide_eq_false h1
        have h2' := of_decide_eq_false h2
        refine r_ite (fun h3 => ?_) (fun h3 => ?_) <;> walk_at "rd"
        · have h3' := of_decide_eq_true h3
          have g := List.getElem?_eq_getElem (l := z.cps.toList) (i := n + kk) (by rw [show z.cps.toList = lS z from rfl]; omega)
          refine r_ch g (by omega) ?_
          walk_at "rd"
          refine ⟨_, rfl, ?_⟩
          walk_at "rd"
          have gn := nextIn_drop g
          refine r_ite (fun h4 => ?_) (fun h4 => ?_) <;> walk_at "rd"
          · have hb : ds.length > 6 ∨ pt.length > 4 ∨ nextIn ((lS z).drop (n + kk)) = true := .inr (.inr (gn.trans h4))
            rw [List.drop_drop, if_pos hb] at k
            exact r_mkx ⟨_, rfl, log_ok (by omega)⟩ fun d H' hd hs he => k d H' hs he
          · refine ⟨rfl, ?_, rfl⟩
            rintro (hb | hb | hb)
            · omega
            · omega
            · rw [show (lS z).drop (n + kk) = z.cps.toList.drop (n + kk) from rfl, gn, h4] at hb
              cases hb
        · have h3' := of_decide_eq_false h3
          refine ⟨rfl, ?_, rfl⟩
          rintro (hb | hb | hb)
          · omega
          · omega
          · rw [nextIn_end (by omega)] at hb
            cases hb
      · rintro σ' H' ⟨rfl, hb, rfl⟩
        obtain ⟨f1, f2⟩ := fin hb
        have k2 := good hb
        walk_at "rd"
        refine ⟨_, rfl, _, rfl, (by show pt.length ≤ sizeLine; rw [sizeLine_eq]; omega), _, rfl, (by rw [l2]; omega), (by rw [l2]; omega), for_range (lo := 0) (n := pt.length) (fun i σ' H' => H = H' ∧ ∃ v7, σ' = [some (.str z), some (.int (n : Int)), some (.int ((n + kk : Nat) : Int)), some (.str (uS ds)), some (.str (uS pt)), v, some (.int ((10 ^ i : Nat) : Int)), v7]) ⟨rfl, none, rfl⟩ ?_ ?_⟩
        · rintro i σ' H' hi ⟨rfl, v7, rfl⟩
          walk_at "rd"
          have hi4 : i ≤ 4 := by omega
          refine r_I ?_ ?_
          · have : (10 ^ i : Nat) ≤ 10 ^ 4 := Nat.pow_le_pow_right (by decide) hi4
            exact wide_mul (a := 20) (b := 20) (by rw [Int.natAbs_natCast]; exact Nat.lt_of_le_of_lt this (by decide)) (by decide) (by decide) (by decide) (by decide)
          · walk_at "rd"
            refine ⟨rfl, some (.int (0 + (i : Int))), ?_⟩
            have e : ((10 ^ i : Nat) : Int) * 10 = ((10 ^ (i + 1) : Nat) : Int) := by
              rw [Nat.pow_succ]; omega
            rw [e]
            rfl
        · rintro σ' H' ⟨rfl, v7, rfl⟩
          walk_at "rd"
          rw [uS_app]
          walk_at "rd"
          have hne : ds ≠ [] := by
            obtain ⟨c, hc1, hc2⟩ := hc
            rw [← hd, drop_cons hc1, List.takeWhile_cons, if_pos hc2]
            exact List.cons_ne_nil _ _
          refine ⟨uS (ds ++ pt), (digV (ds ++ pt) : Nat), rfl, intText_digits (x := uS (ds ++ pt)) (fun c hcm => ?_) ?_ (by omega), by omega, ?_⟩
          · rcases List.mem_append.mp hcm with h | h
            · exact isDigit_ok (hdd c h)
            · exact isDigit_ok (hpd c h)
          · show ds ++ pt ≠ []
            simp [hne]
          walk_at "rd"
          intro p1 hp1
          walk_at "rd"
          intro p2 hp2
          walk_at "rd"
          intro p3 hp3
          have n12 : p1 ≠ p2 := fun e => by rw [e] at hp2; rw [upd_same] at hp2; cases hp2
          have n13 : p1 ≠ p3 := fun e => by rw [← e, upd_ne n12, upd_same] at hp3; cases hp3
          have n23 : p2 ≠ p3 := fun e => by rw [e] at hp3; rw [upd_same] at hp3; cases hp3
          refine k2 p3 (.ref p2) _ (fun b o hb => Same.new hp3 _ _ (Same.new hp2 _ _ (Same.new hp1 _ _ hb))) upd_same ?_
          refine .tup (a := p2) (xs := [V.str "number", V.ref p1, V.int n]) ?_ (.cons (.str _) (.cons (.tup (a := p1) (xs := [V.int (digV (ds ++ pt) : Nat), V.int ((10 ^ pt.length : Nat) : Int)]) ?_ (.cons (.int _) (.cons (.int _) .nil))) (.cons (.int _) .nil)))
          · rw [upd_ne n23, upd_same]
          · rw [upd_ne n13, upd_ne n12, upd_same]
abbrev s_tokens : Stmt := top 18
theorem sc_tokens : FnScope ["text", "result", "at", "token"] ["text"] (defScope s_tokens) := ⟨rfl, rfl, rfl, by decide +kernel, rfl, by decide +kernel, by decide +kernel⟩
theorem cal_tokens {DM DO : Addr} (dx : DefAt K mg "tokens" s_tokens) (B : Bl mg) (L : LexC K mg) (XMalformed : ExC1 P w K mg base "Malformed" DM "at" CMal) (XOversized : ExC1 P w K mg base "Oversized" DO "limit" COver)
    (G_comment_end : Cal P w K mg base 1 "comment_end" ["text", "at"] (spSpan notNl)) (G_is_letter : Cal P w K mg base 1 "is_letter" ["char"] (spCh isLetter)) (G_is_digit : Cal P w K mg base 1 "is_digit" ["char"] (spCh isDigit))
    (G_read_word : Cal P w K mg base 4 "read_word" ["text", "at"] (spTok DM (fun _ => true) wordTok)) (G_read_number : Cal P w K mg base 4 "read_number" ["text", "at"] (spTok DM isDigit numTok)) (G_read_sign : Cal P w K mg base 3 "read_sign" ["text", "at"] (spTok DM (fun _ => true) signTok)) :
    Cal P w K mg base 5 "tokens" ["text"] (spTokens DM DO) := by
  refine cal_mk dx sc_tokens (fun _ _ _ _ _ _ us hl => match us, hl with | [_], _ => rfl) (fun vs H Q E h => ?_) (fun f cdv A outer s H vs Q E hr h => ?_)
  · obtain ⟨z, rfl, _⟩ := h
    rfl
  · obtain ⟨z, rfl, hz, k⟩ := h
    have tk : L2N.Takes (cxOf (L2N.CX P w) P w K mg base ["text", "result", "at", "token"] "tokens" (defScope s_tokens) f cdv A outer s H E) (fun cls d _ H => E cls d H) := L2N.takes_of rfl rfl rfl rfl
    refine ⟨_, (pss_cons (ps_if (pt_cmpR op_gt (pe_callB call_len_str (by rfl) B.len PySem.boot_len (pa_cons (pv 0) pa_nil)) (pe_gint L.gMT) (nomark _))
      (pss_one (ps_raiseX rfl tk (pmk_x1 XOversized (hr.mono (by decide)) (pa_cons pe_str pa_nil))))
      pss_nil)
      (pss_cons (ps_set (i := 1) sc_tokens.nd rfl (Or.inl rfl) (pe_lst pa_nil))
      (pss_cons (ps_set (i := 2) sc_tokens.nd rfl (Or.inl rfl) pe_int)
      (pss_cons (ps_while (passes_of rfl) (pt_cmpR op_lt (pv 2) (pe_callB call_len_str (by rfl) B.len PySem.boot_len (pa_cons (pv 0) pa_nil)) (nomark _))
      (pss_one (ps_if (pt_cmpR op_in_seq (pe_item_str (pv 0) (pv 2) (fun _ _ => rfl)) (pe_tup (pa_cons pe_str (pa_cons pe_str (pa_cons pe_str pa_nil)))) (by rfl))
      (pss_one (ps_set (i := 2) sc_tokens.nd rfl (Or.inl rfl) (pe_op op_add (pv 2) pe_int)))
      (pss_one (ps_if (pt_cmpR op_eq (pe_item_str (pv 0) (pv 2) (fun _ _ => rfl)) pe_str (nomark _))
      (pss_one (ps_set (i := 2) sc_tokens.nd rfl (Or.inl rfl) (pe_cal G_comment_end (hr.mono (by decide)) tk (pa_cons (pv 0) (pa_cons (pv 2) pa_nil)))))
      (C8.pss_cut (ps_if (pt_val (pe_cal G_is_letter (hr.mono (by decide)) tk (pa_cons (pe_item_str (pv 0) (pv 2) (fun _ _ => rfl)) pa_nil)))
      (pss_one (ps_asg (pe_cal G_read_word (hr.mono (by decide)) tk (pa_cons (pv 0) (pa_cons (pv 2) pa_nil))) (pg_tup rfl (pgs_cons (pg_name (i := 3) sc_tokens.nd rfl (Or.inl rfl)) (pgs_cons (pg_name (i := 2) sc_tokens.nd rfl (Or.inl rfl)) pgs_nil)))))
      (pss_one (ps_if (pt_val (pe_cal G_is_digit (hr.mono (by decide)) tk (pa_cons (pe_item_str (pv 0) (pv 2) (fun _ _ => rfl)) pa_nil)))
      (pss_one (ps_asg (pe_cal G_read_number (hr.mono (by decide)) tk (pa_cons (pv 0) (pa_cons (pv 2) pa_nil))) (pg_tup rfl (pgs_cons (pg_name (i := 3) sc_tokens.nd rfl (Or.inl rfl)) (pgs_cons (pg_name (i := 2) sc_tokens.nd rfl (Or.inl rfl)) pgs_nil)))))
      (pss_one (ps_asg (pe_cal G_read_sign (hr.mono (by decide)) tk (pa_cons (pv 0) (pa_cons (pv 2) pa_nil))) (pg_tup rfl (pgs_cons (pg_name (i := 3) sc_tokens.nd rfl (Or.inl rfl)) (pgs_cons (pg_name (i := 2) sc_tokens.nd rfl (Or.inl rfl)) pgs_nil))))))))
      (pss_one (ps_expr (pe_bm PySem.F.plainAttrs_list PySem.F.slot_list_append PySem.F.type_list_append mt_append (pv 1) (pa_cons (pv 3) pa_nil))))))))))
      (pss_one (ps_ret (pv 1))))))), ?_⟩
    have hl : (lS z).length = z.length := Array.length_toList
    walk_at "rd"
    refine r_ite (fun h1 => ?_) (fun h1 => ?_) <;> walk_at "rd"
    · have h1' := of_decide_eq_true h1
      rcases k with ⟨_, k⟩ | ⟨_, _, hk, _⟩
      · exact r_mkx ⟨_, rfl⟩ fun d H' hd hs he => k d H' hs he
      · omega
    · have h1' := of_decide_eq_false h1
      rcases k with ⟨hk, _⟩ | ⟨ts, e, _, hlex, k⟩
      · omega
      intro p hp
      walk_at "rd"
      refine ⟨fun m σ' H' => ∃ (i : Nat) (ts1 ts2 : List (Tk × Nat)) (us : List V) (v3 : Option V), σ' = [some (.str z), some (.ref p), some (.int (i : Int)), v3] ∧ Same H H' ∧ H' p = some (.lst us) ∧ TpAll H' us (ts1.map tokD) ∧ Lex i ((lS z).drop i) ts2 e ∧ ts = ts1 ++ ts2 ∧ i ≤ z.length ∧ us.length ≤ i ∧ m = z.length - i,
        ⟨_, 0, [], ts, [], none, rfl, Same.new hp, upd_same, .nil, hlex, rfl, Nat.zero_le _, Nat.le_refl _, rfl⟩, ?_⟩
      rintro m σ' H' ⟨i, ts1, ts2, us, v3, rfl, hs, hpl, hus, hlex, hts, hi, hul, rfl⟩
      walk_at "rd"
      refine r_ite (fun h2 => ?_) (fun h2 => ?_) <;> walk_at "rd"
      · have h2' := of_decide_eq_true h2
        have hc := List.getElem?_eq_getElem (l := lS z) (i := i) (by omega)
        generalize (lS z)[i]'(by omega) = c at hc
        have hdc := drop_cons hc
        refine ⟨fun σ' H'' => ∃ m', m' < z.length - i ∧ ∃ (i : Nat) (ts1 ts2 : List (Tk × Nat)) (us : List V) (v3 : Option V), σ' = [some (.str z), some (.ref p), some (.int (i : Int)), v3] ∧ Same H H'' ∧ H'' p = some (.lst us) ∧ TpAll H'' us (ts1.map tokD) ∧ Lex i ((lS z).drop i) ts2 e ∧ ts = ts1 ++ ts2 ∧ i ≤ z.length ∧ us.length ≤ i ∧ m' = z.length - i, fun _ _ h => h, ?_⟩
        rw [hdc] at hlex
        walk_at "rd"
        refine r_ch hc (by omega) ?_
        walk_at "rd"
        intro q hq
        have pq : p ≠ q := fun e => by rw [e] at hpl; rw [hpl] at hq; cases hq
        have hs2 : Same H (upd H' q (.tup [V.str " ", V.str "\t", V.str "\n"])) := fun b o hb => Same.new hq _ _ (hs _ _ hb)
        have hpl2 : (upd H' q (.tup [V.str " ", V.str "\t", V.str "\n"])) p = some (.lst us) := by rw [upd_ne pq]; exact hpl
        have hus2 := hus.keep (Keep.new (o := .tup [V.str " ", V.str "\t", V.str "\n"]) hq)
        refine ⟨q, _, rfl, .inr (SqT.of upd_same), rfl, rfl, ?_⟩
        generalize upd H' q (.tup [V.str " ", V.str "\t", V.str "\n"]) = H2 at *
        walk_at "rd"
        show if (inV (.str ⟨#[c]⟩) [.str " ", .str "\t", .str "\n"]) = true then _ else _
        rw [isp_in]
        refine r_ite (fun h3 => ?_) (fun h3 => ?_) <;> walk_at "rd"
        · -- a blank
          cases hlex with
          | sp _ hl2 => exact ⟨z.length - (i + 1), by omega, i + 1, ts1, ts2, us, v3, rfl, hs2, hpl2, hus2, hl2, hts, by omega, by omega, rfl⟩
          | com _ => cases h3
          | tok h _ _ _ => rw [h] at h3; cases h3
          | bad h _ _ => rw [h] at h3; cases h3
        · refine r_ch hc (by omega) ?_
          walk_at "rd"
          rw [eqA c "#" 35 (by decide +kernel)]
          refine r_ite (fun h4 => ?_) (fun h4 => ?_) <;> walk_at "rd"
          · -- a comment
            have h4' := of_decide_eq_true h4
            subst h4'
            refine ⟨z, i, rfl, hz, hi, ?_⟩
            walk_at "rd"
            have hse : spanEnd notNl (lS z) i = i + (1 + (((lS z).drop (i + 1)).takeWhile notNl).length) := by
              unfold spanEnd
              rw [hdc, List.takeWhile_cons, if_pos (show notNl 35 = true from rfl), List.length_cons]
              omega
            have hle := spanEnd_le (p := notNl) (l := lS z) (n := i) (by omega)
            rw [hse] at hle ⊢
            cases hlex with
            | sp h _ => rw [h] at h3; cases h3
            | com hl2 =>
              rw [List.drop_drop] at hl2
              refine ⟨_, ?_, _, ts1, ts2, us, v3, rfl, hs2, hpl2, hus2, ?_, hts, by omega, by omega, rfl⟩
              · omega
              · rw [show i + (1 + (((lS z).drop (i + 1)).takeWhile notNl).length) = i + 1 + (((lS z).drop (i + 1)).takeWhile notNl).length by omega] at hl2 ⊢
                exact hl2
            | tok _ h _ _ => exact absurd rfl h
            | bad _ h _ => exact absurd rfl h
          · -- a token
            have h4' := of_decide_eq_false h4
            have htok : (∃ t k ts3, ts2 = (t, i) :: ts3 ∧ tok1 (c :: (lS z).drop (i + 1)) = some (t, k) ∧ Lex (i + k) ((lS z).drop (i + k)) ts3 e) ∨ (e = some i ∧ tok1 (c :: (lS z).drop (i + 1)) = none) := by
              cases hlex with
              | sp h _ => rw [h] at h3; cases h3
              | com _ => exact absurd rfl h4'
              | tok _ _ ht hl2 =>
                rw [← hdc, List.drop_drop] at hl2
                exact .inl ⟨_, _, _, rfl, ht, hl2⟩
              | bad _ _ ht => exact .inr ⟨rfl, ht⟩
            rw [← hdc] at htok
            have fail : tok1 ((lS z).drop i) = none → ∀ d H'', Same H2 H'' → H'' d = some (.xd [("at", .int (i : Int))]) → E (.ref DM) (some d) H'' := fun hn d H'' hs3 he => by
              rcases htok with ⟨t, k', ts3, _, ht, _⟩ | ⟨he2, _⟩
              · rw [hn] at ht; cases ht
              · subst he2
                exact k d H'' (hs2.trans hs3) he
            refine ⟨fun σ' H'' => ∃ t k' v, tok1 ((lS z).drop i) = some (t, k') ∧ σ' = [some (.str z), some (.ref p), some (.int ((i + k' : Nat) : Int)), some v] ∧ Same H2 H'' ∧ Tp H'' v (tokD (t, i)), ?_, ?_⟩
            · walk_at "rd"
              refine r_ch hc (by omega) ?_
              walk_at "rd"
              refine ⟨_, rfl, ?_⟩
              walk_at "rd"
              refine r_ite (fun h5 => ?_) (fun h5 => ?_) <;> walk_at "rd"
              · refine ⟨z, i, rfl, hz, by omega, ⟨c, hc, rfl⟩, ?_⟩
                have hg : wordTok ((lS z).drop i) = tok1 ((lS z).drop i) := by rw [hdc]; exact (if_pos h5).symm
                rw [hg]
                cases ho : tok1 ((lS z).drop i) with
                | none => exact fail ho
                | some tk' =>
                  obtain ⟨t, k'⟩ := tk'
                  intro q v H'' hs3 hq3 htp
                  exact ⟨q, _, rfl, SqT.of hq3, rfl, _, _, rfl, _, _, rfl, rfl, t, k', v, rfl, rfl, hs3, htp⟩
              · refine r_ch hc (by omega) ?_
                walk_at "rd"
                refine ⟨_, rfl, ?_⟩
                walk_at "rd"
                have h5' : ¬ isLetter c = true := by rw [h5]; decide
                refine r_ite (fun h6 => ?_) (fun h6 => ?_) <;> walk_at "rd"
                · refine ⟨z, i, rfl, hz, by omega, ⟨c, hc, h6⟩, ?_⟩
                  have hg : numTok ((lS z).drop i) = tok1 ((lS z).drop i) := by rw [hdc]; exact ((if_neg h5').trans (if_pos h6)).symm
                  rw [hg]
                  cases ho : tok1 ((lS z).drop i) with
                  | none => exact fail ho
                  | some tk' =>
                    obtain ⟨t, k'⟩ := tk'
                    intro q v H'' hs3 hq3 htp
                    exact ⟨q, _, rfl, SqT.of hq3, rfl, _, _, rfl, _, _, rfl, rfl, t, k', v, rfl, rfl, hs3, htp⟩
                · refine ⟨z, i, rfl, hz, by omega, ⟨c, hc, rfl⟩, ?_⟩
                  have h6' : ¬ isDigit c = true := by rw [h6]; decide
                  have hg : signTok ((lS z).drop i) = tok1 ((lS z).drop i) := by rw [hdc]; exact ((if_neg h5').trans (if_neg h6')).symm
                  rw [hg]
                  cases ho : tok1 ((lS z).drop i) with
                  | none => exact fail ho
                  | some tk' =>
                    obtain ⟨t, k'⟩ := tk'
                    intro q v H'' hs3 hq3 htp
                    exact ⟨q, _, rfl, SqT.of hq3, rfl, _, _, rfl, _, _, rfl, rfl, t, k', v, rfl, rfl, hs3, htp⟩
            · rintro σ' H'' ⟨t, k', v, ht, rfl, hs3, htp⟩
              have hlen := tok1_len (hdc ▸ ht)
              rw [← hdc, List.length_drop] at hlen
              have hpl3 := hs3 _ _ hpl2
              rcases htok with ⟨t2, k2, ts3, hts3, ht2, hl3⟩ | ⟨_, hn⟩
              · rw [ht] at ht2
                cases ht2
                walk_at "rd"
                refine ⟨.inl ⟨rfl, _, SqL.of hpl3⟩, ?_⟩
                walk_at "rd"
                refine ⟨p, us, v, rfl, rfl, hpl3, by rw [sizeLine_eq]; omega, ?_⟩
                have kp := Keep.mut (o := .lst (us ++ [v])) hpl3 (fun xs z => nomatch z)
                refine ⟨z.length - (i + k'), by omega, i + k', ts1 ++ [(t, i)], ts3, us ++ [v], some v, rfl, Same.mut (hs2.trans hs3) hp, upd_same, ?_, hl3, by rw [hts, hts3]; simp, by omega, ?_, rfl⟩
                · rw [List.map_append]
                  exact ((hus2.keep (Same.keep hs3)).keep kp).app (.cons (htp.keep kp) .nil)
                · rw [List.length_append]; simp; omega
              · rw [hn] at ht; cases ht
      · have h2' := of_decide_eq_false h2
        have hn : (lS z).drop i = [] := List.drop_eq_nil_of_le (by omega)
        rw [hn] at hlex
        cases hlex
        rw [hts, List.append_nil] at k
        exact k p us H' hs hp hpl hus
end
end Al
namespace Al
open PySem PySem.Spec PyProof.Rows L2 NdefX PySem.W
local macro_rules | `(tactic| walk_at "rd1") => `(tactic| with_reducible first
  | refine r_var (by with_unfolding_all rfl) ?_ | refine r_c ?_ | refine r_op ?_ | refine r_I0 ?_ | refine r_un ?_ | refine r_U ?_
  | refine r_I (by with_unfolding_all first | exact ⟨by decide, by decide⟩ | (show (0 : Int) < _; decide)) ?_
  | refine r_eqI ?_ | refine r_neI ?_ | refine r_eqS ?_ | refine r_neS ?_ | refine r_eqB ?_ | refine r_neB ?_ | refine r_chain ?_
  | refine r_test ?_ | refine r_B ?_ | refine r_bl ?_ | refine r_int ?_ | refine r_and ?_ | refine r_or ?_ | refine r_not ?_ | refine r_andV ?_ | refine r_orV ?_ | refine r_notV ?_
  | refine r_if ?_ | refine r_nil ?_ | refine r_cons ?_ | refine r_cb ?_ | refine r_call ?_ | refine r_callS ?_ | refine r_tup ?_ | refine r_lst ?_ | refine r_seq ?_ | refine r_next ?_ | refine r_asg ?_
  | refine r_name ?_ | refine r_ifS ?_ | refine r_ret ?_ | refine r_retN ?_ | refine r_drop ?_ | refine r_brk ?_ | refine r_ct ?_ | refine r_sl ?_ | refine r_part ?_ | refine r_nopart ?_
  | refine r_bm ?_ | refine r_bm0 ?_ | refine r_raiseX ?_ | refine r_mkO ?_ | refine iteF ?_ | refine iteT ?_ | refine r_int1 ?_ | refine r_int1b ?_ | refine r_sz (by with_unfolding_all first | omega | (simp only [List.length_cons, List.length_nil]; omega)) ?_
  | (show ∃ _, _; refine ⟨_, rfl, ?_⟩) | (show ∃ _, _; refine ⟨_, _, rfl, rfl, ?_⟩) | (show ∃ _, _; refine ⟨_, _, rfl, ?_⟩))
local macro_rules | `(tactic| walk_at "rd") => `(tactic| repeat (walk_at "rd1"))

theorem upd_back {H : Hp} {a b : Addr} {o u : HO} (h : a ≠ b) : upd (upd H a o) b u a = some o := (upd_ne h).trans upd_same
def spLawCell (K : Frag) : Sp := fun vs H Q _ => ∃ (a : Addr) (ns : List Int) (k : Nat), vs = [.ref a, .int (k : Int)] ∧ SqL K H a (ns.map V.int) ∧ Q (.int (ns.getD k 0)) H
def spLawWord : Sp := fun vs H Q _ => ∃ c : Nat, vs = [.int (c : Int)] ∧ Q (.str (uS (lawW c))) H
def spLawToken : Sp := fun vs H Q _ => ∃ c : Nat, vs = [.int (c : Int)] ∧ ∀ p v H', Same H H' → H' p = some (.lst [.str (lawTok c).1.kind, v, .str (uS (lawTok c).2)]) → Tp H' v (lawTok c).1.val → Q (.ref p) H'
def spLawBad : Sp := fun vs H Q _ => ∃ c : Nat, vs = [.int (c : Int)] ∧ ∀ H', Same H H' → Q (.str (bads.getD (c % 12) "")) H'
section
variable {P : Program} {w : World} {K : Frag} {mg : Str → Option Value} {base : Heap}
abbrev s_law_cell : Stmt := top 20
theorem sc_law_cell : FnScope ["_law_script", "_law_k"] ["_law_script", "_law_k"] (defScope s_law_cell) := ⟨rfl, rfl, rfl, by decide +kernel, rfl, by decide +kernel, by decide +kernel⟩
theorem cal_law_cell (dx : DefAt K mg "_law_cell" s_law_cell) (B : Bl mg) : Cal P w K mg base 1 "_law_cell" ["_law_script", "_law_k"] (spLawCell K) := by
  refine cal_mk dx sc_law_cell (fun _ _ _ _ _ _ us hl => match us, hl with | [_, _], _ => rfl) (fun vs H Q E h => ?_) (fun f cdv A outer s H vs Q E hr h => ?_)
  · obtain ⟨a, ns, k, rfl, _⟩ := h
    rfl
  · obtain ⟨a, ns, k, rfl, hS, kq⟩ := h
    refine ⟨_, (pss_cons (ps_if (pt_cmpR op_lt (pv 1) (pe_callB call_len_seq (by rfl) B.len PySem.boot_len (pa_cons (pv 0) pa_nil)) (nomark _))
      (pss_one (ps_ret (pe_callTy call_int1 (by rfl) B.int (by decide +kernel) (pa_cons (pe_ix ix_list (pv 0) (pv 1) (fun _ _ => rfl)) pa_nil))))
      pss_nil)
      (pss_one (ps_ret pe_int))), ?_⟩
    walk_at "rd"
    refine ⟨_, _, rfl, .inl hS, ?_⟩
    walk_at "rd"
    rw [List.length_map]
    refine r_ite (fun h1 => ?_) (fun h1 => ?_) <;> walk_at "rd"
    · have h1' := of_decide_eq_true h1
      have hk : k < ns.length := by omega
      refine r_ixL hS (v := .int ns[k]) (by rw [List.getElem?_map, List.getElem?_eq_getElem hk] <;> rfl) ?_
      walk_at "rd"
      rw [List.getD_eq_getElem?_getD, List.getElem?_eq_getElem hk] at kq
      exact kq
    · have h1' := of_decide_eq_false h1
      rw [List.getD_eq_getElem?_getD, List.getElem?_eq_none (by omega)] at kq
      exact kq
abbrev s_law_word : Stmt := top 21
theorem sc_law_word : FnScope ["_law_cell_here", "_law_letters", "_law_more", "_law_text", "_law_rest", "_law_k"] ["_law_cell_here"] (defScope s_law_word) := ⟨rfl, rfl, rfl, by decide +kernel, rfl, by decide +kernel, by decide +kernel⟩
theorem cal_law_word (dx : DefAt K mg "_law_word" s_law_word) (B : Bl mg) : Cal P w K mg base 1 "_law_word" ["_law_cell_here"] spLawWord := by
  refine cal_mk dx sc_law_word (fun _ _ _ _ _ _ us hl => match us, hl with | [_], _ => rfl) (fun vs H Q E h => ?_) (fun f cdv A outer s H vs Q E hr h => ?_)
  · obtain ⟨c, rfl, _⟩ := h
    rfl
  · obtain ⟨c, rfl, k⟩ := h
    refine ⟨_, (pss_cons (ps_set (i := 1) sc_law_word.nd rfl (Or.inl rfl) pe_str)
      (pss_cons (ps_set (i := 2) sc_law_word.nd rfl (Or.inl rfl) (pe_op op_add_str (pv 1) pe_str))
      (pss_cons (ps_set (i := 3) sc_law_word.nd rfl (Or.inl rfl) (pe_item_str (pv 1) (pe_op op_mod (pe_callTy call_int1 (by rfl) B.int (by decide +kernel) (pa_cons (pv 0) pa_nil)) pe_int) (fun _ _ => rfl)))
      (pss_cons (ps_set (i := 4) sc_law_word.nd rfl (Or.inl rfl) (pe_op op_fdiv (pv 0) pe_int))
      (pss_cons (ps_for (passes_of rfl) rfl (pi_range1 (by rfl) B.range (pa_cons (pe_op op_mod (pe_callTy call_int1 (by rfl) B.int (by decide +kernel) (pa_cons (pv 4) pa_nil)) pe_int) pa_nil)) (pg_name (i := 5) sc_law_word.nd rfl (Or.inl rfl))
      (pss_one (ps_set (i := 3) sc_law_word.nd rfl (Or.inl rfl) (pe_op op_add_str (pv 3) (pe_item_str (pv 2) (pe_op op_mod (pe_callTy call_int1 (by rfl) B.int (by decide +kernel) (pa_cons (pe_op op_fdiv (pv 4) (pe_op op_add pe_int (pv 5))) pa_nil)) pe_int) (fun _ _ => rfl))))))
      (pss_one (ps_ret (pv 3)))))))), ?_⟩
    have l1 : (lS LETs).length = 52 := by decide +kernel
    have l2 : (lS MOREs).length = 63 := by decide +kernel
    have s1 : LETs.length = 52 := by decide +kernel
    have s2 : MOREs.length = 63 := by decide +kernel
    walk_at "rd"
    rw [show (("abcdefghijklmnopqrstuvwxyzABCDEFGHIJKLMNOPQRSTUVWXYZ" : Str)) = LETs from rfl, show LETs ++ ("0123456789_" : Str) = MOREs from rfl]
    refine r_sz (by rw [s1]; decide) ?_
    walk_at "rd"
    have e1 : (c : Int) % 52 = ((c % 52 : Nat) : Int) := by omega
    have e2 : (c : Int) / 52 = ((c / 52 : Nat) : Int) := by omega
    rw [e1]
    have g1 : (lS LETs)[c % 52]? = some ((lS LETs).getD (c % 52) 0) := by
      rw [List.getD_eq_getElem?_getD, List.getElem?_eq_getElem (by rw [l1]; omega)] <;> rfl
    refine r_ch g1 (by rw [s1]; decide) ?_
    walk_at "rd"
    rw [e2]
    generalize hr52 : c / 52 = r at *
    have e3 : (r : Int) % 16 = ((r % 16 : Nat) : Int) := by omega
    refine ⟨_, rfl, .inl ⟨_, rfl, ?_⟩⟩
    refine ⟨_, _, rfl, rfl, by show (0 : Int) < 16; decide, _, rfl, by rw [e3]; omega, by rw [e3]; omega, ?_⟩
    rw [show ((r : Int) % 16).toNat = r % 16 by omega]
    refine for_range (lo := 0) (n := r % 16) (fun i σ' H' => H = H' ∧ ∃ v5, σ' = [some (.int (c : Int)), some (.str LETs), some (.str MOREs), some (.str (uS ((lS LETs).getD (c % 52) 0 :: (List.range i).map fun k => (lS MOREs).getD (r / (3 + k) % 63) 0))), some (.int (r : Int)), v5]) ⟨rfl, none, rfl⟩ ?_ ?_
    · rintro i σ' H' hi ⟨rfl, v5, rfl⟩
      walk_at "rd"
      have hi16 : i < 16 := by omega
      refine r_I ⟨by omega, by omega⟩ ?_
      have e4 : (r : Int) / (3 + (0 + (i : Int))) = ((r / (3 + i) : Nat) : Int) := by
        rw [show (3 + (0 + (i : Int))) = ((3 + i : Nat) : Int) by omega]
        exact (Int.natCast_ediv _ _).symm
      rw [e4]
      walk_at "rd"
      have e5 : ((r / (3 + i) : Nat) : Int) % 63 = ((r / (3 + i) % 63 : Nat) : Int) := by omega
      rw [e5]
      have g2 : (lS MOREs)[r / (3 + i) % 63]? = some ((lS MOREs).getD (r / (3 + i) % 63) 0) := by
        rw [List.getD_eq_getElem?_getD, List.getElem?_eq_getElem (by rw [l2]; omega)] <;> rfl
      refine r_ch g2 (by rw [s2]; decide) ?_
      walk_at "rd"
      refine r_sz ?_ ?_
      · show (uS _).length + 1 ≤ 1000000
        rw [show ∀ l : List Nat, (uS l).length = l.length from fun _ => rfl, List.length_cons, List.length_map, List.length_range]
        omega
      walk_at "rd"
      refine ⟨rfl, some (.int (0 + (i : Int))), ?_⟩
      have e6 : uS ((lS LETs).getD (c % 52) 0 :: (List.range i).map fun k => (lS MOREs).getD (r / (3 + k) % 63) 0) ++ (⟨#[(lS MOREs).getD (r / (3 + i) % 63) 0]⟩ : Str) = uS ((lS LETs).getD (c % 52) 0 :: (List.range (i + 1)).map fun k => (lS MOREs).getD (r / (3 + k) % 63) 0) := by
        rw [show (⟨#[(lS MOREs).getD (r / (3 + i) % 63) 0]⟩ : Str) = uS [(lS MOREs).getD (r / (3 + i) % 63) 0] from rfl, uS_app, List.range_succ, List.map_append]
        rfl
      rw [e6]
      rfl
    · rintro σ' H' ⟨rfl, v5, rfl⟩
      walk_at "rd"
      unfold lawW at k
      rw [hr52] at k
      exact k
abbrev s_law_bad : Stmt := top 23
theorem sc_law_bad : FnScope ["_law_cell_here"] ["_law_cell_here"] (defScope s_law_bad) := ⟨rfl, rfl, rfl, by decide +kernel, rfl, by decide +kernel, by decide +kernel⟩
theorem cal_law_bad (dx : DefAt K mg "_law_bad" s_law_bad) (B : Bl mg) : Cal P w K mg base 1 "_law_bad" ["_law_cell_here"] spLawBad := by
  refine cal_mk dx sc_law_bad (fun _ _ _ _ _ _ us hl => match us, hl with | [_], _ => rfl) (fun vs H Q E h => ?_) (fun f cdv A outer s H vs Q E hr h => ?_)
  · obtain ⟨c, rfl, _⟩ := h
    rfl
  · obtain ⟨c, rfl, k⟩ := h
    refine ⟨_, (pss_one (ps_ret (pe_ix ix_list (pe_lst (pa_cons pe_str (pa_cons pe_str (pa_cons pe_str (pa_cons pe_str (pa_cons pe_str (pa_cons (pe_op op_mulS pe_str pe_int) (pa_cons pe_str (pa_cons pe_str (pa_cons pe_str (pa_cons pe_str (pa_cons pe_str (pa_cons pe_str pa_nil))))))))))))) (pe_op op_mod (pe_callTy call_int1 (by rfl) B.int (by decide +kernel) (pa_cons (pv 0) pa_nil)) pe_int) (fun _ _ => rfl)))), ?_⟩
    walk_at "rd"
    refine r_mulS (n := 17) (by decide) (by decide) ?_
    walk_at "rd"
    intro p hp
    walk_at "rd"
    have e1 : (c : Int) % 12 = ((c % 12 : Nat) : Int) := by omega
    rw [e1]
    have hb : (bads.map V.str)[c % 12]? = some (.str (bads.getD (c % 12) "")) := by
      rw [List.getElem?_map, List.getD_eq_getElem?_getD, List.getElem?_eq_getElem (show c % 12 < bads.length by show _ < 12; omega)] <;> rfl
    refine r_ixL (xs := bads.map V.str) (SqL.of ?_) hb ?_
    · rw [upd_same]
      have : timesS ("a" : Str) 17 = ("aaaaaaaaaaaaaaaaa" : Str) := by decide +kernel
      rw [this]
      rfl
    · exact k _ (Same.new hp)
abbrev s_law_token : Stmt := top 22
theorem sc_law_token : FnScope ["_law_cell_here", "_law_kind", "_law_rest", "_law_word_here", "_law_whole", "_law_part", "_law_worth", "_law_zeros", "_law_shown", "_law_signs", "_law_sign"] ["_law_cell_here"] (defScope s_law_token) := ⟨rfl, rfl, rfl, by decide +kernel, rfl, by decide +kernel, by decide +kernel⟩
theorem cal_law_token (dx : DefAt K mg "_law_token" s_law_token) (B : Bl mg) (L : LexC K mg) (G_law_word : Cal P w K mg base 1 "_law_word" ["_law_cell_here"] spLawWord) : Cal P w K mg base 2 "_law_token" ["_law_cell_here"] spLawToken := by
  refine cal_mk dx sc_law_token (fun _ _ _ _ _ _ us hl => match us, hl with | [_], _ => rfl) (fun vs H Q E h => ?_) (fun f cdv A outer s H vs Q E hr h => ?_)
  · obtain ⟨c, rfl, _⟩ := h
    rfl
  · obtain ⟨c, rfl, k⟩ := h
    obtain ⟨aR, gRES, hRES⟩ := L.res
    have tk : L2N.Takes (cxOf (L2N.CX P w) P w K mg base ["_law_cell_here", "_law_kind", "_law_rest", "_law_word_here", "_law_whole", "_law_part", "_law_worth", "_law_zeros", "_law_shown", "_law_signs", "_law_sign"] "_law_token" (defScope s_law_token) f cdv A outer s H E) (fun cls d _ H => E cls d H) := L2N.takes_of rfl rfl rfl rfl
    refine ⟨_, (pss_cons (ps_set (i := 1) sc_law_token.nd rfl (Or.inl rfl) (pe_op op_mod (pe_callTy call_int1 (by rfl) B.int (by decide +kernel) (pa_cons (pv 0) pa_nil)) pe_int))
      (pss_cons (ps_set (i := 2) sc_law_token.nd rfl (Or.inl rfl) (pe_op op_fdiv (pv 0) pe_int))
      (pss_cons (ps_if (pt_cmpR op_eq (pv 1) pe_int (nomark _))
      (pss_cons (ps_set (i := 3) sc_law_token.nd rfl (Or.inl rfl) (pe_ix ix_tup (pe_gref gRES) (pe_op op_mod (pe_callTy call_int1 (by rfl) B.int (by decide +kernel) (pa_cons (pv 2) pa_nil)) (pe_callB call_len_seq (by rfl) B.len PySem.boot_len (pa_cons (pe_gref gRES) pa_nil))) (fun _ _ => rfl)))
      (pss_one (ps_ret (pe_lst (pa_cons pe_str (pa_cons (pv 3) (pa_cons (pv 3) pa_nil)))))))
      pss_nil)
      (pss_cons (ps_if (pt_cmpR op_eq (pv 1) pe_int (nomark _))
      (pss_cons (ps_set (i := 3) sc_law_token.nd rfl (Or.inl rfl) (pe_cal G_law_word (hr.mono (by decide)) tk (pa_cons (pv 2) pa_nil)))
      (pss_one (ps_ret (pe_lst (pa_cons (pe_ix ix_list (pe_lst (pa_cons pe_str (pa_cons pe_str pa_nil))) (pe_callTy call_int1 (by rfl) B.int (by decide +kernel) (pa_cons (pe_cmpR op_in_seq (pv 3) (pe_gref gRES) (by rfl)) pa_nil)) (fun _ _ => rfl)) (pa_cons (pv 3) (pa_cons (pv 3) pa_nil)))))))
      pss_nil)
      (pss_cons (ps_if (pt_cmpR op_lt (pv 1) pe_int (nomark _))
      (pss_cons (ps_set (i := 4) sc_law_token.nd rfl (Or.inl rfl) (pe_callTy call_str_int (by rfl) B.str (by decide +kernel) (pa_cons (pe_op op_mod (pe_callTy call_int1 (by rfl) B.int (by decide +kernel) (pa_cons (pv 2) pa_nil)) (pe_ix ix_list (pe_lst (pa_cons pe_int (pa_cons pe_int pa_nil))) (pe_op op_mod (pe_callTy call_int1 (by rfl) B.int (by decide +kernel) (pa_cons (pe_op op_fdiv (pv 2) pe_int) pa_nil)) pe_int) (fun _ _ => rfl))) pa_nil)))
      (pss_cons (ps_set (i := 5) sc_law_token.nd rfl (Or.inl rfl) (pe_ix ix_list (pe_lst (pa_cons pe_str (pa_cons pe_str (pa_cons pe_str (pa_cons pe_str (pa_cons pe_str (pa_cons pe_str pa_nil))))))) (pe_op op_mod (pe_callTy call_int1 (by rfl) B.int (by decide +kernel) (pa_cons (pe_op op_fdiv (pv 2) pe_int) pa_nil)) pe_int) (fun _ _ => rfl)))
      (pss_cons (ps_set (i := 6) sc_law_token.nd rfl (Or.inl rfl) (pe_ix ix_list (pe_lst (pa_cons pe_int (pa_cons pe_int (pa_cons pe_int (pa_cons pe_int (pa_cons pe_int (pa_cons pe_int pa_nil))))))) (pe_op op_mod (pe_callTy call_int1 (by rfl) B.int (by decide +kernel) (pa_cons (pe_op op_fdiv (pv 2) pe_int) pa_nil)) pe_int) (fun _ _ => rfl)))
      (pss_cons (ps_set (i := 7) sc_law_token.nd rfl (Or.inl rfl) (pe_ix ix_list (pe_lst (pa_cons pe_str (pa_cons pe_str (pa_cons pe_str pa_nil)))) (pe_op op_mod (pe_callTy call_int1 (by rfl) B.int (by decide +kernel) (pa_cons (pe_op op_fdiv (pv 2) pe_int) pa_nil)) pe_int) (fun _ _ => rfl)))
      (pss_cons (ps_set (i := 8) sc_law_token.nd rfl (Or.inl rfl) (pe_slice sl_str (pe_op op_add_str (pv 7) (pv 4)) (po_some (pe_op op_sub pe_int (pe_callB (call_min2 rfl) (by rfl) B.min (by decide +kernel) (pa_cons pe_int (pa_cons (pe_callB call_len_str (by rfl) B.len PySem.boot_len (pa_cons (pe_op op_add_str (pv 7) (pv 4)) pa_nil)) pa_nil))))) po_none))
      (pss_one (ps_ret (pe_lst (pa_cons pe_str (pa_cons (pe_tup (pa_cons (pe_callTy call_int_str (by rfl) B.int (by decide +kernel) (pa_cons (pe_op op_add_str (pv 8) (pv 5)) pa_nil)) (pa_cons (pv 6) pa_nil))) (pa_cons (pe_op op_add_str (pe_op op_add_str (pv 8) (pe_ix ix_list (pe_lst (pa_cons pe_str (pa_cons pe_str pa_nil))) (pe_callTy call_int1 (by rfl) B.int (by decide +kernel) (pa_cons (pe_cmpR op_ne (pv 5) pe_str (nomark _)) pa_nil)) (fun _ _ => rfl))) (pv 5)) pa_nil)))))))))))
      pss_nil)
      (pss_cons (ps_set (i := 9) sc_law_token.nd rfl (Or.inl rfl) (pe_lst (pa_cons pe_str (pa_cons pe_str (pa_cons pe_str (pa_cons pe_str (pa_cons pe_str (pa_cons pe_str (pa_cons pe_str (pa_cons pe_str (pa_cons pe_str (pa_cons pe_str (pa_cons pe_str (pa_cons pe_str (pa_cons pe_str (pa_cons pe_str (pa_cons pe_str (pa_cons pe_str pa_nil))))))))))))))))))
      (pss_cons (ps_set (i := 10) sc_law_token.nd rfl (Or.inl rfl) (pe_ix ix_list (pv 9) (pe_op op_mod (pe_callTy call_int1 (by rfl) B.int (by decide +kernel) (pa_cons (pv 2) pa_nil)) pe_int) (fun _ _ => rfl)))
      (pss_one (ps_ret (pe_lst (pa_cons pe_str (pa_cons (pv 10) (pa_cons (pv 10) pa_nil))))))))))))), ?_⟩
    have e1 : (c : Int) % 5 = ((c % 5 : Nat) : Int) := by omega
    have e2 : (c : Int) / 5 = ((c / 5 : Nat) : Int) := by omega
    unfold lawTok at k
    walk_at "rd"
    rw [e1, e2]
    generalize hk5 : c % 5 = kd at *
    generalize hr5 : c / 5 = r at *
    refine r_ite (fun h1 => ?_) (fun h1 => ?_) <;> walk_at "rd"
    · have h1' := of_decide_eq_true h1
      rw [if_pos (by omega)] at k
      refine ⟨_, _, rfl, .inr (hRES _), ?_⟩
      walk_at "rd"
      have e3 : (r : Int) % ((RES.map V.str).length : Int) = ((r % 16 : Nat) : Int) := by
        rw [show (RES.map V.str).length = 16 from rfl]; omega
      rw [e3]
      have hb : (RES.map V.str)[r % 16]? = some (.str (RES.getD (r % 16) "")) := by
        rw [List.getElem?_map, List.getD_eq_getElem?_getD, List.getElem?_eq_getElem (show r % 16 < RES.length by show _ < 16; omega)] <;> rfl
      refine r_ixT (hRES _) hb ?_
      walk_at "rd"
      intro p hp
      exact k p _ _ (Same.new hp) upd_same (.str _)
    · have h1' := of_decide_eq_false h1
      rw [if_neg (by omega)] at k
      refine r_ite (fun h2 => ?_) (fun h2 => ?_) <;> walk_at "rd"
      · have h2' := of_decide_eq_true h2
        rw [if_pos (by omega)] at k
        refine ⟨r, rfl, ?_⟩
        walk_at "rd"
        intro p hp
        walk_at "rd"
        refine r_isT (hRES _) rfl (flat_strs _) ?_
        walk_at "rd"
        rw [inV_str]
        have hb : ([V.str "name", V.str "word"] : List V)[if decide (uS (lawW r) ∈ RES) = true then 1 else 0]? = some (.str (if uS (lawW r) ∈ RES then "word" else "name")) := by
          by_cases hm : uS (lawW r) ∈ RES
          · rw [if_pos (decide_eq_true hm), if_pos hm] <;> rfl
          · rw [if_neg (by rw [decide_eq_false hm]; decide), if_neg hm] <;> rfl
        have e3 : (if decide (uS (lawW r) ∈ RES) = true then (1 : Int) else 0) = ((if decide (uS (lawW r) ∈ RES) = true then 1 else 0 : Nat) : Int) := by split <;> rfl
        rw [e3]
        refine r_ixL (SqL.of upd_same) hb ?_
        walk_at "rd"
        intro q hq
        refine k q (.str (uS (lawW r))) _ (fun b o hb => Same.new hq _ _ (Same.new hp _ _ hb)) ?_ ?_
        · rw [upd_same]
          by_cases hm : uS (lawW r) ∈ RES
          · rw [if_pos hm, if_pos hm] <;> rfl
          · rw [if_neg hm, if_neg hm] <;> rfl
        · by_cases hm : uS (lawW r) ∈ RES
          · show Tp _ _ ((if uS (lawW r) ∈ RES then Tk.word (uS (lawW r)) else Tk.name (uS (lawW r))).val)
            rw [if_pos hm, if_pos hm]; exact .str _
          · show Tp _ _ ((if uS (lawW r) ∈ RES then Tk.word (uS (lawW r)) else Tk.name (uS (lawW r))).val)
            rw [if_neg hm, if_neg hm]; exact .str _
      · have h2' := of_decide_eq_false h2
        rw [if_neg (by omega)] at k
        refine r_ite (fun h3 => ?_) (fun h3 => ?_) <;> walk_at "rd"
        · have h3' := of_decide_eq_true h3
          rw [if_pos (by omega)] at k
          intro p1 hp1
          walk_at "rd"
          rw [show (r : Int) / 7 % 2 = ((r / 7 % 2 : Nat) : Int) by omega]
          have hb1 : ([V.int 10, V.int 1000000] : List V)[r / 7 % 2]? = some (.int ((if r / 7 % 2 = 0 then 10 else 1000000 : Nat) : Int)) := by
            have : r / 7 % 2 < 2 := by omega
            generalize r / 7 % 2 = j at *
            match j, this with
            | 0, _ => rfl
            | 1, _ => rfl
            | j + 2, h => omega
          refine r_ixL (SqL.of upd_same) hb1 ?_
          refine r_I (by show (0 : Int) < ((if r / 7 % 2 = 0 then 10 else 1000000 : Nat) : Int); split <;> decide) ?_
          rw [show (r : Int) % ((if r / 7 % 2 = 0 then 10 else 1000000 : Nat) : Int) = ((wholeN r : Nat) : Int) from (Int.natCast_emod _ _).symm]
          walk_at "rd"
          have hwn : wholeN r < 1000000 := by unfold wholeN; split <;> omega
          refine ⟨log_ok (by omega), ?_⟩
          rw [show ((toString ((wholeN r : Nat) : Int) : String) : Str) = uS (numS (wholeN r)) from rfl]
          have hnl : (uS (numS (wholeN r))).length ≤ 10 := numS_len hwn
          walk_at "rd"
          intro p2 hp2
          walk_at "rd"
          rw [show (r : Int) / 14 % 6 = ((r / 14 % 6 : Nat) : Int) by omega]
          have hb2 : (parts.map V.str)[r / 14 % 6]? = some (.str (uS (ptOf r))) := by
            rw [List.getElem?_map, List.getElem?_eq_getElem (show r / 14 % 6 < parts.length by show _ < 6; omega)]
            unfold ptOf
            rw [List.getD_eq_getElem?_getD, List.getElem?_eq_getElem (show r / 14 % 6 < parts.length by show _ < 6; omega)] <;> rfl
          refine r_ixL (xs := parts.map V.str) (SqL.of upd_same) hb2 ?_
          walk_at "rd"
          intro p3 hp3
          walk_at "rd"
          rw [show (r : Int) / 14 % 6 = ((r / 14 % 6 : Nat) : Int) by omega]
          obtain ⟨f1, f2, f3, f4⟩ := pt_facts r
          have hb3 : (worths.map (fun n => V.int (n : Nat)))[r / 14 % 6]? = some (.int ((10 ^ (ptOf r).length : Nat) : Int)) := by
            rw [List.getElem?_map, ← f3, List.getD_eq_getElem?_getD, List.getElem?_eq_getElem (show r / 14 % 6 < worths.length by show _ < 6; omega)] <;> rfl
          refine r_ixL (xs := worths.map (fun n => V.int (n : Nat))) (SqL.of upd_same) hb3 ?_
          walk_at "rd"
          intro p4 hp4
          walk_at "rd"
          rw [show (r : Int) / 84 % 3 = ((r / 84 % 3 : Nat) : Int) by omega]
          have hb4 : (zers.map V.str)[r / 84 % 3]? = some (.str (uS (lS (zers.getD (r / 84 % 3) "")))) := by
            rw [List.getElem?_map, List.getElem?_eq_getElem (show r / 84 % 3 < zers.length by show _ < 3; omega)]
            rw [List.getD_eq_getElem?_getD, List.getElem?_eq_getElem (show r / 84 % 3 < zers.length by show _ < 3; omega)] <;> rfl
          refine r_ixL (xs := zers.map V.str) (SqL.of upd_same) hb4 ?_
          have hzl : (uS (lS (zers.getD (r / 84 % 3) ""))).length ≤ 2 := zers_len _ (by omega)
          have hal : (uS (lS (zers.getD (r / 84 % 3) "") ++ numS (wholeN r))).length ≤ 12 := by
            show (lS (zers.getD (r / 84 % 3) "") ++ numS (wholeN r)).length ≤ 12
            rw [List.length_append]
            exact Nat.add_le_add hzl hnl
          have same : Same H (upd (upd (upd (upd H p1 (.lst [V.int 10, V.int 1000000])) p2 (.lst (parts.map V.str))) p3 (.lst (worths.map (fun n => V.int (n : Nat))))) p4 (.lst (zers.map V.str))) := fun b o hb => Same.new hp4 _ _ (Same.new hp3 _ _ (Same.new hp2 _ _ (Same.new hp1 _ _ hb)))
          change Same H (upd (upd (upd (upd H p1 _) p2 _) p3 _) p4 _) at same
          walk_at "rd"
          rw [uS_app]
          generalize hzw : lS (zers.getD (r / 84 % 3) "") ++ numS (wholeN r) = zw at *
          have hsh : shOf r = last6 zw := by unfold shOf; rw [hzw]
          walk_at "rd"
          rw [show ((uS zw).length : Int) = (zw.length : Int) from rfl]
          refine r_slS (by rw [sizeLine_eq]; omega) ?_
          rw [cut_last, ← hsh]
          obtain ⟨s1, s2, s3⟩ := sh_facts r
          have s3' : (uS (shOf r)).length ≤ 6 := s3
          have f2' : (uS (ptOf r)).length ≤ 4 := f2
          walk_at "rd"
          rw [uS_app]
          refine ⟨uS (shOf r ++ ptOf r), (digV (shOf r ++ ptOf r) : Nat), rfl, intText_digits (x := uS (shOf r ++ ptOf r)) (fun c hcm => ?_) ?_ ?_, ?_, ?_⟩
          · rcases List.mem_append.mp hcm with h | h
            · exact isDigit_ok (s2 c h)
            · exact isDigit_ok (f1 c h)
          · show shOf r ++ ptOf r ≠ []
            simp [s1]
          · show (shOf r ++ ptOf r).length ≤ 4300
            rw [List.length_append]; omega
          · show (shOf r ++ ptOf r).length ≤ 640
            rw [List.length_append]; omega
          walk_at "rd"
          intro p5 hp5
          walk_at "rd"
          intro p6 hp6
          walk_at "rd"
          have e7 : (!decide (uS (ptOf r) = ("" : Str))) = !decide (ptOf r = []) := by
            congr 1
            by_cases h : ptOf r = []
            · rw [decide_eq_true h, decide_eq_true (by rw [h]; decide +kernel)]
            · rw [decide_eq_false h, decide_eq_false]
              intro z
              apply h
              have : lS (uS (ptOf r)) = lS ("" : Str) := by rw [z]
              exact this
          rw [e7]
          have e8 : (if (!decide (ptOf r = [])) = true then (1 : Int) else 0) = ((if ptOf r = [] then 0 else 1 : Nat) : Int) := by
            by_cases h : ptOf r = []
            · simp [h]
            · simp [h]
          rw [e8]
          have hb5 : ([V.str "", V.str "."] : List V)[if ptOf r = [] then 0 else 1]? = some (.str (uS (if ptOf r = [] then [] else [46]))) := by
            by_cases h : ptOf r = []
            · rw [if_pos h, if_pos h]; rfl
            · rw [if_neg h, if_neg h]; rfl
          refine r_ixL (SqL.of upd_same) hb5 ?_
          have dl : (uS (if ptOf r = [] then [] else [46])).length ≤ 1 := by
            split <;> decide
          walk_at "rd"
          rw [uS_app]
          have dl2 : (uS (shOf r ++ if ptOf r = [] then [] else [46])).length ≤ 7 := by
            show (shOf r ++ if ptOf r = [] then [] else [46]).length ≤ 7
            rw [List.length_append]
            exact Nat.add_le_add s3 dl
          walk_at "rd"
          rw [uS_app]
          walk_at "rd"
          intro p7 hp7
          have n56 : p5 ≠ p6 := ne_of_none upd_same hp6
          have n57 : p5 ≠ p7 := ne_of_none (upd_back n56) hp7
          refine k p7 (.ref p5) _ (fun b o hb => Same.new hp7 _ _ (Same.new hp6 _ _ (Same.new hp5 _ _ (Same.new hp4 _ _ (Same.new hp3 _ _ (Same.new hp2 _ _ (Same.new hp1 _ _ hb))))))) ?_ ?_
          · rw [upd_same]
            rfl
          · exact .tup (a := p5) (xs := [V.int (digV (shOf r ++ ptOf r) : Nat), V.int ((10 ^ (ptOf r).length : Nat) : Int)]) ((upd_ne n57).trans (upd_back n56)) (.cons (.int _) (.cons (.int _) .nil))
        · have h3' := of_decide_eq_false h3
          rw [if_neg (by omega)] at k
          intro p hp
          walk_at "rd"
          have e3 : (r : Int) % 16 = ((r % 16 : Nat) : Int) := by omega
          rw [e3]
          have hb : (SIG.map V.str)[r % 16]? = some (.str (SIG.getD (r % 16) "")) := by
            rw [List.getElem?_map, List.getD_eq_getElem?_getD, List.getElem?_eq_getElem (show r % 16 < SIG.length by show _ < 16; omega)] <;> rfl
          refine r_ixL (xs := SIG.map V.str) (SqL.of upd_same) hb ?_
          walk_at "rd"
          intro q hq
          exact k q _ _ (fun b o hb => Same.new hq _ _ (Same.new hp _ _ hb)) upd_same (.str _)
end
end Al
namespace Al
open PySem PySem.Spec PyProof.Rows L2 NdefX PySem.W
local macro_rules | `(tactic| walk_at "rd1") => `(tactic| with_reducible first
  | refine r_var (by with_unfolding_all rfl) ?_ | refine r_c ?_ | refine r_op ?_ | refine r_I0 ?_ | refine r_un ?_ | refine r_U ?_
  | refine r_I (by with_unfolding_all first | exact ⟨by decide, by decide⟩ | (show (0 : Int) < _; decide)) ?_
  | refine r_eqI ?_ | refine r_neI ?_ | refine r_eqS ?_ | refine r_neS ?_ | refine r_eqB ?_ | refine r_neB ?_ | refine r_chain ?_
  | refine r_test ?_ | refine r_B ?_ | refine r_bl ?_ | refine r_int ?_ | refine r_and ?_ | refine r_or ?_ | refine r_not ?_ | refine r_andV ?_ | refine r_orV ?_ | refine r_notV ?_
  | refine r_if ?_ | refine r_nil ?_ | refine r_cons ?_ | refine r_cb ?_ | refine r_call ?_ | refine r_callS ?_ | refine r_tup ?_ | refine r_lst ?_ | refine r_seq ?_ | refine r_next ?_ | refine r_asg ?_
  | refine r_name ?_ | refine r_ifS ?_ | refine r_ret ?_ | refine r_retN ?_ | refine r_drop ?_ | refine r_brk ?_ | refine r_ct ?_ | refine r_sl ?_ | refine r_part ?_ | refine r_nopart ?_
  | refine r_bm ?_ | refine r_bm0 ?_ | refine r_raiseX ?_ | refine r_mkO ?_ | refine iteF ?_ | refine iteT ?_ | refine r_int1 ?_ | refine r_int1b ?_ | refine r_sz (by with_unfolding_all first | omega | (simp only [List.length_cons, List.length_nil]; omega)) ?_
  | (show ∃ _, _; refine ⟨_, rfl, ?_⟩) | (show ∃ _, _; refine ⟨_, _, rfl, rfl, ?_⟩) | (show ∃ _, _; refine ⟨_, _, rfl, ?_⟩))
local macro_rules | `(tactic| walk_at "rd") => `(tactic| repeat (walk_at "rd1"))

def spHash : Sp := fun vs H Q _ => ∃ (z : Str) (n : Nat), vs = [.str z] ∧ lS z = List.replicate n 35 ∧ n ≤ 12000 ∧ ∀ p H', Same H H' → H' p = some (.lst []) → Q (.ref p) H'
section
variable {P : Program} {w : World} {K : Frag} {mg : Str → Option Value} {base : Heap}
theorem calH_comment_end (dx : DefAt K mg "comment_end" s_comment_end) (B : Bl mg)  : CalH P w K mg base 1 "comment_end" ["text", "at"] (spSpan notNl) := by
  refine calH_mk dx sc_comment_end (fun _ _ _ _ _ _ us hl => match us, hl with | [_, _], _ => rfl) (fun vs H Q E h => ?_) (fun f cdv A outer s H vs Q E ph hot hr h => ?_)
  · obtain ⟨z, n, rfl, _⟩ := h
    rfl
  · obtain ⟨z, n, rfl, hz, hn, k⟩ := h
    refine ⟨_, (pss_cons (ps_while (passes_of rfl) (PW.pt (pw_and (pt_cmpR op_lt (pv 1) (pe_callB call_len_str (by rfl) B.len PySem.boot_len (pa_cons (pv 0) pa_nil)) (nomark _)) (pw_and1 (pt_cmpR op_ne (pe_item_str (pv 0) (pv 1) (fun _ _ => rfl)) pe_str (nomark _)))))
      (pss_one (ps_set (i := 1) sc_comment_end.nd rfl (Or.inl rfl) (pe_op op_add (pv 1) pe_int))))
      (pss_one (ps_ret (pv 1)))), ?_⟩
    walk_at "rd"
    refine ⟨fun m σ' H' => ∃ i : Nat, σ' = [some (.str z), some (.int (i : Int))] ∧ H = H' ∧ i ≤ z.length ∧ spanEnd notNl (lS z) i = spanEnd notNl (lS z) n ∧ m = z.length - i, ⟨_, n, rfl, rfl, hn, rfl, rfl⟩, ?_⟩
    rintro m σ' H' ⟨i, rfl, rfl, h2, h3, rfl⟩
    walk_at "rd"
    refine r_ite (fun h1 => ?_) (fun h1 => ?_) <;> walk_at "rd"
    · have hi : i < (lS z).length := by have := of_decide_eq_true h1; show i < z.cps.toList.length; rw [Array.length_toList]; show i < z.length; omega
      refine r_ch (List.getElem?_eq_getElem hi) (by omega) ?_
      walk_at "rd"
      rw [show (!decide ((⟨#[(lS z)[i]]⟩ : Str) = "\n")) = notNl (lS z)[i] from congrArg not (eqA _ "\n" 10 (by decide +kernel))]
      refine r_ite (fun h4 => ?_) (fun h4 => ?_)
      · refine ⟨fun σ' H' => ∃ m', m' < z.length - i ∧ ∃ i : Nat, σ' = [some (.str z), some (.int (i : Int))] ∧ H = H' ∧ i ≤ z.length ∧ spanEnd notNl (lS z) i = spanEnd notNl (lS z) n ∧ m' = z.length - i, fun _ _ h => h, ?_⟩
        walk_at "rd"
        refine ⟨z.length - (i + 1), ?_, i + 1, rfl, rfl, ?_, ?_, rfl⟩
        · have := of_decide_eq_true h1; omega
        · have := of_decide_eq_true h1; omega
        · rw [spanEnd_go (List.getElem?_eq_getElem hi) h4, h3]
      · walk_at "rd"
        rw [spanEnd_stop (List.getElem?_eq_getElem hi) h4] at h3
        rw [h3]; exact k
    · have hi : (lS z).length ≤ i := by have := of_decide_eq_false h1; show z.cps.toList.length ≤ i; rw [Array.length_toList]; show z.length ≤ i; omega
      rw [spanEnd_end hi] at h3
      rw [h3]; exact k
theorem calH_tokens (dx : DefAt K mg "tokens" s_tokens) (B : Bl mg) (L : LexC K mg) (H_comment_end : CalH P w K mg base 1 "comment_end" ["text", "at"] (spSpan notNl)) :
    CalH P w K mg base 2 "tokens" ["text"] spHash := by
  refine calH_mk dx sc_tokens (fun _ _ _ _ _ _ us hl => match us, hl with | [_], _ => rfl) (fun vs H Q E h => ?_) (fun f cdv A outer s H vs Q E ph hot hr h => ?_)
  · obtain ⟨z, n, rfl, _⟩ := h
    rfl
  · obtain ⟨z, n, rfl, hz, hn, k⟩ := h
    have hotc : L2H.HotC (L2H.cxH (L2N.CX P w) P w K mg base ["text", "result", "at", "token"] "tokens" (defScope s_tokens) f cdv A outer s H E ph) := ⟨ph, ⟨hot.1, hot.2⟩, List.mem_cons_self⟩
    refine ⟨_, (pss_cons (ps_if (pt_cmpR op_gt (pe_callB call_len_str (by rfl) B.len PySem.boot_len (pa_cons (pv 0) pa_nil)) (pe_gint L.gMT) (nomark _))
      (pss_one ps_never)
      pss_nil)
      (pss_cons (ps_set (i := 1) sc_tokens.nd rfl (Or.inl rfl) (pe_lst pa_nil))
      (pss_cons (ps_set (i := 2) sc_tokens.nd rfl (Or.inl rfl) pe_int)
      (pss_cons (ps_while (passes_of rfl) (pt_cmpR op_lt (pv 2) (pe_callB call_len_str (by rfl) B.len PySem.boot_len (pa_cons (pv 0) pa_nil)) (nomark _))
      (pss_one (ps_if (pt_cmpR op_in_seq (pe_item_str (pv 0) (pv 2) (fun _ _ => rfl)) (pe_tup (pa_cons pe_str (pa_cons pe_str (pa_cons pe_str pa_nil)))) (by rfl))
      (pss_one (ps_set (i := 2) sc_tokens.nd rfl (Or.inl rfl) (pe_op op_add (pv 2) pe_int)))
      (pss_one (ps_if (pt_cmpR op_eq (pe_item_str (pv 0) (pv 2) (fun _ _ => rfl)) pe_str (nomark _))
      (pss_one (ps_set (i := 2) sc_tokens.nd rfl (Or.inl rfl) (pe_calH H_comment_end (hr.mono (by decide)) hotc (pa_cons (pv 0) (pa_cons (pv 2) pa_nil)))))
      (pss_cons ps_never
      (pss_one ps_never)))))))
      (pss_one (ps_ret (pv 1))))))), ?_⟩
    have hl : z.length = n := by
      have : (lS z).length = z.length := Array.length_toList
      rw [← this, hz, List.length_replicate]
    walk_at "rd"
    refine r_ite (fun h1 => ?_) (fun h1 => ?_) <;> walk_at "rd"
    · have h1' := of_decide_eq_true h1
      omega
    · intro p hp
      walk_at "rd"
      refine ⟨fun m σ' H' => ∃ (i : Nat), σ' = [some (.str z), some (.ref p), some (.int (i : Int)), none] ∧ Same H H' ∧ H' p = some (.lst []) ∧ i ≤ n ∧ m = n - i, ⟨_, 0, rfl, Same.new hp, upd_same, Nat.zero_le _, rfl⟩, ?_⟩
      rintro m σ' H' ⟨i, rfl, hs, hpl, hi, rfl⟩
      walk_at "rd"
      refine r_ite (fun h2 => ?_) (fun h2 => ?_) <;> walk_at "rd"
      · have h2' := of_decide_eq_true h2
        have hc : (lS z)[i]? = some 35 := by rw [hz, List.getElem?_replicate, if_pos (by omega)]
        refine ⟨fun σ' H'' => ∃ m', m' < n - i ∧ ∃ (i : Nat), σ' = [some (.str z), some (.ref p), some (.int (i : Int)), none] ∧ Same H H'' ∧ H'' p = some (.lst []) ∧ i ≤ n ∧ m' = n - i, fun _ _ h => h, ?_⟩
        walk_at "rd"
        refine r_ch hc (by omega) ?_
        walk_at "rd"
        intro q hq
        have pq : p ≠ q := ne_of_none hpl hq
        refine r_isT (SqT.of upd_same) rfl rfl ?_
        walk_at "rd"
        rw [isp_in]
        refine r_ite (fun h3 => ?_) (fun h3 => ?_)
        · cases h3
        walk_at "rd"
        refine r_ch hc (by omega) ?_
        walk_at "rd"
        rw [eqA 35 "#" 35 (by decide +kernel)]
        refine r_ite (fun h4 => ?_) (fun h4 => ?_)
        · walk_at "rd"
          refine ⟨z, i, rfl, by omega, by omega, ?_⟩
          walk_at "rd"
          have e1 : spanEnd notNl (lS z) i = n := by
            unfold spanEnd
            rw [hz, List.drop_replicate, List.takeWhile_replicate, if_pos (show notNl 35 = true from rfl), List.length_replicate]
            omega
          rw [e1]
          exact ⟨0, by omega, n, rfl, fun b o hb => Same.new hq _ _ (hs _ _ hb), by rw [upd_ne pq]; exact hpl, Nat.le_refl _, by omega⟩
        · cases h4
      · exact k p H' hs hpl
end
end Al
namespace Al
open PySem PySem.Spec PyProof.Rows L2 NdefX PySem.W
local macro_rules | `(tactic| walk_at "rd1") => `(tactic| with_reducible first
  | refine r_var (by with_unfolding_all rfl) ?_ | refine r_c ?_ | refine r_op ?_ | refine r_I0 ?_ | refine r_un ?_ | refine r_U ?_
  | refine r_I (by with_unfolding_all first | exact ⟨by decide, by decide⟩ | (show (0 : Int) < _; decide)) ?_
  | refine r_eqI ?_ | refine r_neI ?_ | refine r_eqS ?_ | refine r_neS ?_ | refine r_eqB ?_ | refine r_neB ?_ | refine r_chain ?_
  | refine r_test ?_ | refine r_B ?_ | refine r_bl ?_ | refine r_int ?_ | refine r_and ?_ | refine r_or ?_ | refine r_not ?_ | refine r_andV ?_ | refine r_orV ?_ | refine r_notV ?_
  | refine r_if ?_ | refine r_nil ?_ | refine r_cons ?_ | refine r_cb ?_ | refine r_call ?_ | refine r_callS ?_ | refine r_tup ?_ | refine r_lst ?_ | refine r_seq ?_ | refine r_next ?_ | refine r_asg ?_
  | refine r_name ?_ | refine r_ifS ?_ | refine r_ret ?_ | refine r_retN ?_ | refine r_drop ?_ | refine r_brk ?_ | refine r_ct ?_ | refine r_sl ?_ | refine r_part ?_ | refine r_nopart ?_
  | refine r_bm ?_ | refine r_bm0 ?_ | refine r_raiseX ?_ | refine r_mkO ?_ | refine iteF ?_ | refine iteT ?_ | refine r_int1 ?_ | refine r_int1b ?_ | refine r_sz (by with_unfolding_all first | omega | (simp only [List.length_cons, List.length_nil]; omega)) ?_
  | (show ∃ _, _; refine ⟨_, rfl, ?_⟩) | (show ∃ _, _; refine ⟨_, _, rfl, rfl, ?_⟩) | (show ∃ _, _; refine ⟨_, _, rfl, ?_⟩))
local macro_rules | `(tactic| walk_at "rd") => `(tactic| repeat (walk_at "rd1"))

theorem op_eqDk {X : Cx} {K : Frag} (hK : X.K = K) (hu : X.A.units + 64 < cLine) : OpR X (compareOp .Eq) (rEqD K) := by
  subst hK
  exact op_eqD hu
theorem roomH_s {k : Nat} {A : Around} {h : Option Value} (r : Room k A) : L2H.RoomH k (A.mark h) := ⟨r.dp, r.un⟩
theorem timesS_hash (n : Nat) : lS (timesS "#" n) = List.replicate n 35 := by
  show ((List.replicate n [35]).flatten).toArray.toList = _
  induction n with
  | zero => rfl
  | succ n ih =>
    rw [List.replicate_succ, List.replicate_succ, List.flatten_cons]
    exact congrArg (35 :: ·) ih
def spLaw (K : Frag) : Sp := fun vs H Q _ => ∃ (a : Addr) (ns : List Int), vs = [.ref a] ∧ SqL K H a (ns.map V.int) ∧ ns.length ≤ 63 ∧ ∀ H', Q (.bl true) H'
section
variable {P : Program} {w : World} {K : Frag} {mg : Str → Option Value} {base : Heap}
abbrev s_law : Stmt := top 24
theorem sc_law : FnScope ["_law_script", "_law_text", "_law_due", "_law_k", "_law_cell_here", "_law_kind", "_law_value", "_law_shown", "_law_actual", "_law_bad_here", "e"] ["_law_script"] (defScope s_law) := ⟨rfl, rfl, rfl, by decide +kernel, rfl, by decide +kernel, by decide +kernel⟩
theorem fnC_law {f : Addr} {fd : FuncData} {DM DO : Addr} (FL : FnP K "law" s_law f fd) (B : Bl mg) (XMalformed : ExC1 P w K mg base "Malformed" DM "at" CMal) (XOversized : ExC1 P w K mg base "Oversized" DO "limit" COver)
    (eM : exmOne K (.ref DM) (.ref DM) = some true) (eO : exmOne K (.ref DO) (.ref DO) = some true)
    (G_law_cell : Cal P w K mg base 1 "_law_cell" ["_law_script", "_law_k"] (spLawCell K)) (G_law_token : Cal P w K mg base 2 "_law_token" ["_law_cell_here"] spLawToken) (G_law_bad : Cal P w K mg base 1 "_law_bad" ["_law_cell_here"] spLawBad)
    (G_tokens : Cal P w K mg base 5 "tokens" ["text"] (spTokens DM DO)) (H_tokens : CalH P w K mg base 2 "tokens" ["text"] spHash) : FnC P w K mg base (L2N.CX P w) f fd ["_law_script"] (spLaw K) := by
  refine fnC_of (k := 6) ⟨rfl, by decide, by decide⟩ FL sc_law (fun vs H Q E h => ?_) (fun cdv s H vs Q E hr h => ?_)
  · obtain ⟨a, ns, rfl, _⟩ := h
    rfl
  · obtain ⟨a, ns, rfl, hS, hlen, k⟩ := h
    have tk : L2N.Takes (cxOf (L2N.CX P w) P w K mg base ["_law_script", "_law_text", "_law_due", "_law_k", "_law_cell_here", "_law_kind", "_law_value", "_law_shown", "_law_actual", "_law_bad_here", "e"] "law" (defScope s_law) f cdv callerA [] s H E) (fun cls d _ H => E cls d H) := L2N.takes_of rfl rfl rfl rfl
    have hg : (callerA.deeper (envOfC "law" (defScope s_law) s.heap.objs.size f cdv)).guards = some [] := rfl
    have hu110 : (callerA.deeper (envOfC "law" (defScope s_law) s.heap.objs.size f cdv)).units + 110 < cLine := by have := hr.un; omega
    have hu64 : (callerA.deeper (envOfC "law" (defScope s_law) s.heap.objs.size f cdv)).units + 64 < cLine := by omega
    refine ⟨_, (pss_cons (ps_set (i := 1) sc_law.nd rfl (Or.inl rfl) pe_str)
      (pss_cons (ps_set (i := 2) sc_law.nd rfl (Or.inl rfl) (pe_lst pa_nil))
      (pss_cons (ps_for (passes_of rfl) rfl (pi_range2 (by rfl) B.range (pa_cons pe_int (pa_cons (pe_callB (call_min2 rfl) (by rfl) B.min (by decide +kernel) (pa_cons (pe_callB call_len_seq (by rfl) B.len PySem.boot_len (pa_cons (pv 0) pa_nil)) (pa_cons pe_int pa_nil))) pa_nil))) (pg_name (i := 3) sc_law.nd rfl (Or.inl rfl))
      (pss_cons (ps_set (i := 4) sc_law.nd rfl (Or.inl rfl) (pe_callB call_abs (by rfl) B.abs (by decide +kernel) (pa_cons (pe_cal G_law_cell (hr.mono (by decide)) tk (pa_cons (pv 0) (pa_cons (pv 3) pa_nil))) pa_nil)))
      (pss_cons (ps_asg (pe_cal G_law_token (hr.mono (by decide)) tk (pa_cons (pv 4) pa_nil)) (pg_lst rfl (pgs_cons (pg_name (i := 5) sc_law.nd rfl (Or.inl rfl)) (pgs_cons (pg_name (i := 6) sc_law.nd rfl (Or.inl rfl)) (pgs_cons (pg_name (i := 7) sc_law.nd rfl (Or.inl rfl)) pgs_nil)))))
      (pss_cons (ps_expr (pe_bm PySem.F.plainAttrs_list PySem.F.slot_list_append PySem.F.type_list_append mt_append (pv 2) (pa_cons (pe_tup (pa_cons (pv 5) (pa_cons (pv 6) (pa_cons (pe_callB call_len_str (by rfl) B.len PySem.boot_len (pa_cons (pv 1) pa_nil)) pa_nil)))) pa_nil)))
      (pss_one (ps_set (i := 1) sc_law.nd rfl (Or.inl rfl) (pe_op op_add_str (pe_op op_add_str (pv 1) (pv 7)) (pe_ix ix_list (pe_lst (pa_cons pe_str (pa_cons pe_str (pa_cons pe_str (pa_cons pe_str (pa_cons pe_str (pa_cons pe_str pa_nil))))))) (pe_op op_mod (pe_callTy call_int1 (by rfl) B.int (by decide +kernel) (pa_cons (pe_op op_fdiv (pv 4) pe_int) pa_nil)) pe_int) (fun _ _ => rfl)))))))))
      (pss_cons (ps_set (i := 8) sc_law.nd rfl (Or.inl rfl) (pe_cal G_tokens (hr.mono (by decide)) tk (pa_cons (pv 1) pa_nil)))
      (pss_cons (ps_if (PW.pt (pw_or (pt_not (pt_val (pe_callB RZ.call_isTy (by rfl) B.isinstance (by decide +kernel) (pa_cons (pv 8) (pa_cons (pe_bltn (v := .ty "list") (by rfl) B.list (by decide +kernel) rfl) pa_nil))))) (pw_or1 (pt_cmpR op_ne (pe_callB (call_reprD hg hu110) (by rfl) B.repr (by decide +kernel) (pa_cons (pv 8) pa_nil)) (pe_callB (call_reprD hg hu110) (by rfl) B.repr (by decide +kernel) (pa_cons (pv 2) pa_nil)) (nomark _)))))
      (pss_one (ps_ret pe_bl))
      pss_nil)
      (pss_cons (ps_set (i := 9) sc_law.nd rfl (Or.inl rfl) (pe_cal G_law_bad (hr.mono (by decide)) tk (pa_cons (pe_callB call_abs (by rfl) B.abs (by decide +kernel) (pa_cons (pe_cal G_law_cell (hr.mono (by decide)) tk (pa_cons (pv 0) (pa_cons pe_int pa_nil))) pa_nil)) pa_nil)))
      (pss_cons (L2N.ps_try_as (i := 10) rfl rfl sc_law.nd rfl rfl ⟨rfl, by decide, Or.inl XMalformed.gm⟩ tk (fun W pn xe tk hp =>
      (pss_cons (ps_expr (pe_cal G_tokens (hr.mono (by decide)) tk (pa_cons (pe_op op_add_str (pe_op op_add_str (pv 1) (pv 9)) pe_str) pa_nil)))
      (pss_one (ps_ret pe_bl))))
      (fun a oe cls d pn hz hf =>
      (pss_one (ps_if (pt_cmpR op_ne (pe_xf XMalformed.xf XMalformed.nf hz.zc hf (pv 10)) (pe_callB call_len_str (by rfl) B.len PySem.boot_len (pa_cons (pv 1) pa_nil)) (nomark _))
      (pss_one (ps_ret pe_bl))
      pss_nil))))
      (pss_cons (L2N.ps_try_as (i := 10) rfl rfl sc_law.nd rfl rfl ⟨rfl, by decide, Or.inl XOversized.gm⟩ tk (fun W pn xe tk hp =>
      (pss_one (ps_expr (pe_cal G_tokens (hr.mono (by decide)) tk (pa_cons (pe_op op_mulS pe_str pe_int) pa_nil)))))
      (fun a oe cls d pn hz hf =>
      (pss_one (ps_ret (pe_and (pe_cmpR op_eq (pe_xf XOversized.xf XOversized.nf hz.zc hf (pv 10)) pe_str (nomark _)) (pe_one (pe_cmpR (op_eqDk rfl hu64) (pe_calH H_tokens (roomH_s (hr.mono (by decide))) (hotC_of hz hf) (pa_cons (pe_op op_mulS pe_str pe_int) pa_nil)) (pe_lst pa_nil) (nomark _))))))))
      (pss_one (ps_ret pe_bl)))))))))), ?_⟩
    walk_at "rd"
    intro d hd
    walk_at "rd"
    have hnl : (ns.map V.int).length = ns.length := List.length_map ..
    generalize hC : (fun j => (ns.getD (j + 1) 0).natAbs) = C at *
    have hCj : ∀ j, C j = (ns.getD (j + 1) 0).natAbs := fun j => by rw [← hC]
    have hdn : H d = none := hd
    -- the number of turns
    refine ⟨_, rfl, _, _, rfl, .inl (L2.Same.seq (Same.new hd) hS), _, _, rfl, _, _, rfl, ?_, ?_⟩
    · rw [hnl]
      refine ⟨by decide, by decide, ?_, ?_⟩ <;> split <;> omega
    have hJ : ((if (61 : Int) < ((ns.map V.int).length : Int) then 61 else ((ns.map V.int).length : Int)) - 1).toNat = min ns.length 61 - 1 := by
      rw [hnl]; split <;> omega
    rw [hJ]
    generalize hN : min ns.length 61 - 1 = N at *
    have hN60 : N ≤ 60 := by omega
    refine for_range (lo := 1) (n := N) (fun j σ' H' => ∃ us v3 v4 v5 v6 v7, σ' = [some (.ref a), some (.str (uS (txtOf C j))), some (.ref d), v3, v4, v5, v6, v7, none, none, none] ∧ Same H H' ∧ H' d = some (.lst us) ∧ TpAll H' us ((dueOf C j).map tokD))
      ⟨[], none, none, none, none, none, rfl, Same.new hd, upd_same, .nil⟩ ?_ ?_
    · rintro j σ' H' hj ⟨us, v3, v4, v5, v6, v7, rfl, hs, hdl, hus⟩
      walk_at "rd"
      refine ⟨a, ns, j + 1, by rw [show (1 : Int) + (j : Int) = ((j + 1 : Nat) : Int) by omega], L2.Same.seq hs hS, ?_⟩
      walk_at "rd"
      have e1 : (if ns.getD (j + 1) 0 < 0 then -(ns.getD (j + 1) 0) else ns.getD (j + 1) 0) = ((C j : Nat) : Int) := by
        rw [hCj]; split <;> omega
      rw [e1]
      walk_at "rd"
      refine ⟨C j, rfl, fun p v H2 hs2 hp2 hv2 => ?_⟩
      have hdl2 := hs2 _ _ hdl
      refine ⟨p, _, rfl, SqL.of hp2, rfl, _, _, rfl, _, _, rfl, _, _, rfl, rfl, ?_⟩
      walk_at "rd"
      have tl : (uS (txtOf C j)).length ≤ 1600 := by
        have := txt_len C j
        show (txtOf C j).length ≤ 1600
        omega
      refine ⟨.inl ⟨rfl, _, SqL.of hdl2⟩, ?_⟩
      walk_at "rd"
      intro q hq
      have qd : d ≠ q := ne_of_none hdl2 hq
      have hul : us.length ≤ 60 := by rw [hus.len, List.length_map, due_len]; omega
      refine ⟨d, us, .ref q, rfl, rfl, by rw [upd_ne qd]; exact hdl2, by rw [sizeLine_eq]; omega, ?_⟩
      have kl := lawTok_len (C j)
      have kl2 : (uS (lawTok (C j)).2).length ≤ 16 := kl.2
      walk_at "rd"
      rw [uS_app]
      intro q2 hq2
      walk_at "rd"
      rw [show ((C j : Nat) : Int) / 3 % 6 = ((C j / 3 % 6 : Nat) : Int) by omega]
      have hb : (sepS.map V.str)[C j / 3 % 6]? = some (.str (uS (sepOf (C j)))) := by
        unfold sepOf
        rw [List.getElem?_map, List.getElem?_eq_getElem (show C j / 3 % 6 < sepS.length by show _ < 6; omega), List.getD_eq_getElem?_getD, List.getElem?_eq_getElem (show C j / 3 % 6 < sepS.length by show _ < 6; omega)] <;> rfl
      refine r_ixL (xs := sepS.map V.str) (SqL.of upd_same) hb ?_
      have sl : (uS (sepOf (C j))).length ≤ 10 := sep_len (C j)
      have tl2 : (uS (txtOf C j ++ (lawTok (C j)).2)).length ≤ 1620 := by
        show (txtOf C j ++ (lawTok (C j)).2).length ≤ 1620
        rw [List.length_append]
        exact Nat.le_trans (Nat.add_le_add tl kl.2) (by decide)
      walk_at "rd"
      rw [uS_app]
      have dq2 : d ≠ q2 := ne_of_none upd_same hq2
      refine ⟨us ++ [.ref q], _, _, _, _, _, rfl, ?_, ?_, ?_⟩
      · intro b o hb
        have sm : Same H (upd (upd H2 q (.tup [V.str (lawTok (C j)).1.kind, v, V.int ((uS (txtOf C j)).length : Int)])) d (.lst (us ++ [.ref q]))) := Same.mut (fun b o hb => Same.new hq _ _ (hs2 _ _ (hs _ _ hb))) hdn
        exact Same.new hq2 _ _ (sm _ _ hb)
      · rw [upd_ne dq2, upd_same]
      · have k1 := Keep.new (o := .tup [V.str (lawTok (C j)).1.kind, v, V.int ((uS (txtOf C j)).length : Int)]) hq
        have k2 := Keep.mut (p := d) (o := .lst (us ++ [.ref q])) (show (upd H2 q (.tup [V.str (lawTok (C j)).1.kind, v, V.int ((uS (txtOf C j)).length : Int)])) d = some (.lst us) by rw [upd_ne qd]; exact hdl2) (fun xs z => nomatch z)
        have k3 := Keep.new (o := .lst (sepS.map V.str)) hq2
        have kk := (k1.trans k2).trans k3
        rw [show dueOf C (j + 1) = dueOf C j ++ [((lawTok (C j)).1, (txtOf C j).length)] from rfl, List.map_append]
        refine ((hus.keep (Same.keep hs2)).keep kk).app (.cons (.tup (a := q) (xs := [V.str (lawTok (C j)).1.kind, v, V.int ((uS (txtOf C j)).length : Int)]) ?_ (.cons (.str _) (.cons (hv2.keep kk) (.cons (.int _) .nil)))) .nil)
        exact k3 _ _ (k2 _ _ upd_same)
    · rintro σ' H' ⟨us, v3, v4, v5, v6, v7, rfl, hs, hdl, hus⟩
      walk_at "rd"
      have tl : (txtOf C N).length ≤ 1600 := by
        have := txt_len C N
        omega
      have tlS : (uS (txtOf C N)).length ≤ 1600 := tl
      have hlex : Lex 0 (lS (uS (txtOf C N))) (dueOf C N) none := by
        have := lex_text C N [] [] none .nil
        rw [List.append_nil, List.append_nil] at this
        exact this
      refine ⟨uS (txtOf C N), rfl, by omega, .inr ⟨dueOf C N, none, by omega, hlex, ?_⟩⟩
      intro r us2 H2 hs2 hr hrl hus2
      have hdl2 := hs2 _ _ hdl
      have hus' := hus.keep (Same.keep hs2)
      walk_at "rd"
      refine ⟨_, _, rfl, .lst hrl, ?_⟩
      walk_at "rd"
      refine r_ite (fun h0 => ?_) (fun h0 => ?_)
      · cases h0
      walk_at "rd"
      have dshow : ShowOk (.list ((dueOf C N).map tokD)) 20000 3 := by
        refine (ShowOk.list (w := 303) (dp := 2) ?_).mono ?_ (by decide)
        · intro x hx
          obtain ⟨t, ht, rfl⟩ := List.mem_map.mp hx
          obtain ⟨h1, h2⟩ := due_ok C N t ht
          exact tok_show h1 (by omega)
        · rw [List.length_map, due_len]; omega
      refine ⟨r, _, rfl, .lst (SqL.of hrl) (TpAll.dp hus2), dshow.sh, dshow.nd, Nat.le_trans dshow.dp (by decide), dshow.fits (by decide), ?_⟩
      walk_at "rd"
      refine ⟨d, _, rfl, .lst (SqL.of hdl2) (TpAll.dp hus'), dshow.sh, dshow.nd, Nat.le_trans dshow.dp (by decide), dshow.fits (by decide), ?_⟩
      walk_at "rd"
      rw [decide_eq_true (rfl : (PyData.list ((dueOf C N).map tokD)).shown = _)]
      refine r_ite (fun h1 => ?_) (fun h1 => ?_)
      · cases h1
      walk_at "rd"
      have hsa : Same H H2 := fun b o hb => hs2 _ _ (hs _ _ hb)
      refine ⟨a, ns, 0, rfl, L2.Same.seq hsa hS, ?_⟩
      walk_at "rd"
      generalize hc0 : (ns.getD 0 0).natAbs = c0
      have e1 : (if ns.getD 0 0 < 0 then -(ns.getD 0 0) else ns.getD 0 0) = ((c0 : Nat) : Int) := by
        rw [← hc0]; split <;> omega
      rw [e1]
      refine ⟨c0, rfl, fun H3 hs3 => ?_⟩
      walk_at "rd"
      have hbd : ∀ b ∈ bads, b.length ≤ 17 := by decide +kernel
      have hbl : (bads.getD (c0 % 12) "").length ≤ 17 := hbd _ (getD_mem (show c0 % 12 < bads.length from Nat.mod_lt _ (by decide)))
      generalize hB : bads.getD (c0 % 12) "" = bd at *
      obtain ⟨bl, rfl⟩ : ∃ bl, bd = uS bl := ⟨lS bd, rfl⟩
      have hbl' : bl.length ≤ 17 := hbl
      refine ⟨by rw [sizeLine_eq]; omega, ?_⟩
      walk_at "rd"
      rw [uS_app]
      have hxl : (uS (txtOf C N ++ bl)).length = (txtOf C N).length + bl.length := List.length_append
      refine ⟨by rw [sizeLine_eq, hxl]; show _ + 2 ≤ _; omega, ?_⟩
      walk_at "rd"
      rw [show uS (txtOf C N ++ bl) ++ (" x" : Str) = uS ((txtOf C N ++ bl) ++ [32, 120]) from uS_app ..]
      have hzl : (uS ((txtOf C N ++ bl) ++ [32, 120])).length = (txtOf C N).length + bl.length + 2 := by
        show ((txtOf C N ++ bl) ++ [32, 120]).length = _
        rw [List.length_append, List.length_append]; rfl
      have hlex2 : Lex 0 (lS (uS ((txtOf C N ++ bl) ++ [32, 120]))) (dueOf C N ++ []) (some (txtOf C N).length) := by
        have := lex_text C N (bl ++ lS " x") [] (some (txtOf C N).length) (by
          have h := bad_lex (c0 % 12) (txtOf C N).length (Nat.mod_lt _ (by decide))
          rw [hB] at h; exact h)
        rw [← List.append_assoc] at this
        exact this
      refine ⟨_, rfl, by omega, .inr ⟨_, _, by omega, hlex2, fun e1 H4 hs4 he1 => ?_⟩⟩
      refine ⟨true, eM, fun _ a0 ha0 => ?_, fun q => Bool.noConfusion q⟩
      walk_at "rd"
      refine ⟨_, rfl, rfl, rfl, e1, _, _, rfl, he1, rfl, ?_⟩
      walk_at "rd"
      refine r_ite (fun h2 => ?_) (fun h2 => ?_)
      · rw [decide_eq_true (show (((txtOf C N).length : Nat) : Int) = ((uS (txtOf C N)).length : Int) from rfl)] at h2
        cases h2
      walk_at "rd"
      refine r_mulS (n := 12001) (by decide) (by decide) ?_
      walk_at "rd"
      have hl1 : (timesS "#" 12001).length = 12001 := by rw [timesS_length]; decide
      refine ⟨_, rfl, by omega, .inl ⟨by omega, fun e2 H5 hs5 he2 => ?_⟩⟩
      refine ⟨true, eO, fun _ a1 ha1 => ?_, fun q => Bool.noConfusion q⟩
      walk_at "rd"
      refine ⟨_, rfl, rfl, rfl, e2, _, _, rfl, he2, rfl, ?_⟩
      walk_at "rd"
      refine r_ite (fun h3 => ?_) (fun h3 => absurd ((decide_eq_true rfl).symm.trans h3) (by decide))
      walk_at "rd"
      refine r_mulS (n := 12000) (by decide) (by decide) ?_
      walk_at "rd"
      refine ⟨_, 12000, rfl, timesS_hash 12000, by decide, fun p2 H6 hs6 hp2 => ?_⟩
      walk_at "rd"
      intro q3 hq3
      walk_at "rd"
      refine ⟨.list [], .list [], .lst (SqL.of (by rw [upd_ne (ne_of_none hp2 hq3)]; exact hp2)) .nil, .lst (SqL.of upd_same) .nil, rfl, rfl, ?_⟩
      exact k _
end
end Al
namespace Al
open PySem PySem.Spec PyProof.Rows L2 NdefX PySem.W
/-! ### own exceptions whose __init__ says super().__init__: facts read off the head -/
def oexB (K : Frag) (C : Addr) : Bool := (match K.lookup C with
  | some ⟨.type t, _, .cls cd, sl⟩ => decide (t = "type") && (match cd.mro, sl.toList with
    | .ref C' :: bm, [_, _, _, _, some (.builtin n), _] => decide (C' = C) && (decide (n = "ValueError.__new__") && (!cd.hasDel && (cd.hasDict && HandSPX.refsVE bm)))
    | _, _ => false)
  | _ => false) && (decide (findIn K (.ref C) "__setattr__" = some (some (.builtin "object.__setattr__"))) && (decide (subIn K (.ref C) (.type "BaseException") = some true) &&
    (decide (typeIn K (.ref C) = some (.type "type")) && keepIn K (.ref C))))
theorem oexB_ok {K : Frag} {C : Addr} (h : oexB K C = true) : OexC K C := by
  obtain ⟨h0, h⟩ := He.ba h
  obtain ⟨h1, h⟩ := He.ba h
  obtain ⟨h2, h⟩ := He.ba h
  obtain ⟨h3, h4⟩ := He.ba h
  refine ⟨?_, of_decide_eq_true h1, of_decide_eq_true h2, of_decide_eq_true h3, h4⟩
  split at h0
  · rename_i t dd cd sl ho
    obtain ⟨ht, h0⟩ := He.ba h0
    split at h0
    · rename_i C' bm k0 k1 k2 k3 n k5 hm hs
      obtain ⟨e1, h0⟩ := He.ba h0
      obtain ⟨e2, h0⟩ := He.ba h0
      obtain ⟨e3, h0⟩ := He.ba h0
      obtain ⟨e4, e5⟩ := He.ba h0
      have e1 := of_decide_eq_true e1
      have e2 := of_decide_eq_true e2
      have ht := of_decide_eq_true ht
      obtain ⟨nm, bs, mro, ns, qn, hd, sn, sub, ab, col, del⟩ := cd
      have e3' : del = false := by
        cases del with
        | false => rfl
        | true => cases e3
      dsimp only at hm e4
      subst hm e1 e2 ht e4 e3'
      have hsl : sl = #[k0, k1, k2, k3, some (.builtin "ValueError.__new__"), k5] := by
        obtain ⟨l⟩ := sl
        simp only at hs
        rw [hs]
      subst hsl
      exact ⟨nm, qn, ns, bs, bm, sn, sub, ab, col, dd, k0, k1, k2, k3, k5, ho, e5⟩
    · cases h0
  · cases h0
/-- one such class: its name, its __init__'s qualified name, its def -/
structure ExD where
  x : Str
  qual : Str
  st : Stmt
  fs : List Str
abbrev ExO : Type := Option (Str × Str × Arguments × FuncBody × Scope × Addr × Addr)
def ExD.val (d : ExD) : ExO := some ("__init__", d.qual, defArgs d.st, .stmts (defBody d.st), defScope d.st, mainGlobals, builtinsNs)
def exI (K : Frag) (d : ExD) : Addr := He.ma K (He.ga K d.x) "__init__"
def exObs (K : Frag) (d : ExD) : ExO := match K.lookup (exI K d) with
  | some ⟨_, _, .func fd, _⟩ => some (fd.name, fd.qualname, fd.params, fd.body, fd.scope, fd.globals, fd.builtins)
  | _ => none
def cellB (K : Frag) (cc D : Addr) : Bool := match K.lookup cc with
  | some ⟨_, _, .cell (some (.ref c)), _⟩ => decide (c = D)
  | _ => false
def codeB (K : Frag) (file : Str) (cda : Addr) : Bool := match K.lookup cda with
  | some ⟨_, _, .fields vs, _⟩ => (match (vs[2]? : Option Value) with
    | some (.str z _) => file == z
    | _ => false)
  | _ => false
def exFnB (K : Frag) (file : Str) (d : ExD) : Bool := match K.lookup (exI K d) with
  | some ⟨_, _, .func fd, _⟩ => (match fd.closure, fd.code, fd.defaults with
    | [(n, cc)], .ref cda, .none => decide (n = "__class__") && (cellB K cc (He.ga K d.x) && (codeB K file cda && codeIn K (.ref cda) d.qual))
    | _, _, _ => false)
  | _ => false
def exB (file : Str) (K : Frag) (d : ExD) : Bool := exFnB K file d && (oexB K (He.ga K d.x) && (xfB K (He.ga K d.x) && (He.eqO (nsIn K mainGlobals d.x) (some (some (.ref (He.ga K d.x)))) &&
  (He.eqO (findIn K (.ref (He.ga K d.x)) "__init__") (some (some (.ref (exI K d)))) && (decide (typeIn K (.ref (exI K d)) = some (.type "function")) &&
  (d.fs.all (fun f => He.eqO (findIn K (.ref (He.ga K d.x)) f) (some none)) && ((clsIn K (He.ga K d.x)).isSome && (decide (mroIn K (He.ga K d.x) (.ref (He.ga K d.x)) = some true) &&
  (He.eqO (ks_superIn K (He.ga K d.x) (He.ga K d.x) "__init__") (some (some (.builtin "ValueError.__init__"))) && (decide (subIn K (.ref (He.ga K d.x)) (.type "ValueError") = some true) && He.eqO (nsIn K cStatics "thirdparty.any") (some none)))))))))))
structure ExF (P : Program) (K : Frag) (mg : Str → Option Value) (d : ExD) : Prop where
  fn : ∃ oc od osl kV doc pm an cda ct cc, K.lookup (exI K d) = some ⟨oc, od, .func (ksFn "__init__" d.qual (defArgs d.st) (defBody d.st) (defScope d.st) .none kV doc pm an (.ref cda) ct cc), osl⟩ ∧ codeIn K (.ref cda) d.qual = true ∧ SupC K mg (He.ga K d.x) cda cc P
  gm : mg d.x = some (.ref (He.ga K d.x))
  fi : findIn K (.ref (He.ga K d.x)) "__init__" = some (some (.ref (exI K d)))
  ty : typeIn K (.ref (exI K d)) = some (.type "function")
  xf : XfC K (He.ga K d.x)
  nf : ∀ f ∈ d.fs, findIn K (.ref (He.ga K d.x)) f = some none
theorem exF_of {P : Program} {K : Frag} {h : Heap} {mg : Str → Option Value} {d : ExD} (X : K.In h) (G : h.Ns mainGlobals mg) (hs : mg "super" = none) (ht : (P.main.scope.names.lookup ("super" : Str)).isSome = false)
    (e : exObs K d = d.val) (c : exB P.main.file K d = true) : ExF P K mg d := by
  obtain ⟨c1, c⟩ := He.ba c
  obtain ⟨c2, c⟩ := He.ba c
  obtain ⟨c3, c⟩ := He.ba c
  obtain ⟨c4, c⟩ := He.ba c
  obtain ⟨c5, c⟩ := He.ba c
  obtain ⟨c6, c⟩ := He.ba c
  obtain ⟨c7, c⟩ := He.ba c
  obtain ⟨c8, c⟩ := He.ba c
  obtain ⟨c9, c⟩ := He.ba c
  obtain ⟨c10, c⟩ := He.ba c
  obtain ⟨c11, c12⟩ := He.ba c
  refine ⟨?_, mg_of X G (He.eqO_ok c4), He.eqO_ok c5, of_decide_eq_true c6, xfB_ok c3, fun f hf => He.eqO_ok (List.all_eq_true.mp c7 f hf)⟩
  unfold exFnB at c1
  unfold exObs at e
  cases q : K.lookup (exI K d) with
  | none =>
    rw [q] at e
    cases e
  | some o =>
    obtain ⟨oc, od, dt, osl⟩ := o
    rw [q] at e c1
    cases dt with
    | func fd =>
      obtain ⟨n1, n2, n3, n4, n5, n6, n7, n8, n9, n10, n11, n12, n13, n14, n15⟩ := fd
      have e2 : (some (n1, n2, n3, n4, n5, n6, n15) : ExO) = some (("__init__" : Str), d.qual, defArgs d.st, .stmts (defBody d.st), defScope d.st, mainGlobals, builtinsNs) := e
      simp only [Option.some.injEq, Prod.mk.injEq] at e2
      obtain ⟨h1, h2, h3, h4, h5, h6, h7⟩ := e2
      subst h1 h2 h3 h4 h5 h6 h7
      have c1' : (match (generalizing := false) n7, n13, n8 with
        | [(n, cc)], .ref cda, .none => decide (n = "__class__") && (cellB K cc (He.ga K d.x) && (codeB K P.main.file cda && codeIn K (.ref cda) d.qual))
        | _, _, _ => false) = true := c1
      split at c1'
      · rename_i n cc cda
        obtain ⟨u1, c1'⟩ := He.ba c1'
        obtain ⟨u2, c1'⟩ := He.ba c1'
        obtain ⟨u3, u4⟩ := He.ba c1'
        have u1 := of_decide_eq_true u1
        subst u1
        refine ⟨oc, od, osl, n9, n10, n11, n12, cda, n14, cc, rfl, u4, oexB_ok c2, ?_, of_decide_eq_true c9, He.eqO_ok c10, of_decide_eq_true c11, hs, He.eqO_ok c12, ?_, ?_, ht⟩
        · exact Option.isSome_iff_exists.mp c8
        · unfold cellB at u2
          split at u2
          · rename_i cl cld D' csl hq
            rw [← of_decide_eq_true u2]
            exact ⟨_, _, _, hq⟩
          · cases u2
        · unfold codeB at u3
          split at u3
          · rename_i ccl cdd vs ccs hq
            split at u3
            · rename_i z tf hz
              exact ⟨_, _, _, _, _, _, hq, hz, u3⟩
            · cases u3
          · cases u3
      · cases c1'
    | _ => cases c1
/-! ### the Hook -/
abbrev AlE : Type := He.AlD × List ExO × Bool
def obsK (fa : List He.Fa) (fn : List He.DefD) (exs : List ExD) (ex : Frag → Bool) (K : Frag) : AlE := (He.obsD fa fn K, exs.map (exObs K), ex K)
def valK (fn : List He.DefD) (exs : List ExD) : AlE := (He.valD fn, exs.map ExD.val, true)
def frE (g : Addr → Option Obj) (n : Nat) : Frag := He.frG g (cStatics :: He.asD g n)
structure SaysE (fa : List He.Fa) (fn : List He.DefD) (exs : List ExD) (ex : Frag → Bool) (K : Frag) : Prop where
  d : He.SaysD fa fn K
  o : exs.map (exObs K) = exs.map ExD.val
  b : ex K = true
def hookE (n : Nat) (fa : List He.Fa) (fn : List He.DefD) (exs : List ExD) (ex : Frag → Bool) : Hook where
  α := AlE
  obs := fun s => obsK fa fn exs ex (frE s.heap.get? n)
  val := fun _ => valK fn exs
  says := fun _ h => ∃ K : Frag, K.In h ∧ SaysE fa fn exs ex K
  of := fun _ _ e => ⟨_, He.frG_in, congrArg (fun z : AlE => z.1) e, congrArg (fun z : AlE => z.2.1) e, congrArg (fun z : AlE => z.2.2) e⟩
  keeps := fun _ _ _ ⟨K, hK, c⟩ k => ⟨K, Frag.In.keeps hK k, c⟩
theorem obsK_eq {n : Nat} {fa : List He.Fa} {fn : List He.DefD} {exs : List ExD} {ex : Frag → Bool} {g : Addr → Option Obj} {s : Shared} (h : ∀ a, g a = s.heap.get? a) : obsK fa fn exs ex (frE g n) = (hookE n fa fn exs ex).obs s := by
  have e : g = s.heap.get? := funext h
  rw [e] <;> rfl
theorem SaysE.exo {fa : List He.Fa} {fn : List He.DefD} {exs : List ExD} {ex : Frag → Bool} {K : Frag} (c : SaysE fa fn exs ex K) (i : Nat) {d : ExD} (h : exs[i]? = some d := by rfl) : exObs K d = d.val := by
  have e2 : (exs.map (exObs K))[i]? = (exs.map ExD.val)[i]? := by rw [c.o]
  rw [List.getElem?_map, List.getElem?_map, h] at e2
  exact Option.some.inj e2
/-- a def as the head tells it -/
def dfn (x : Str) (st : Stmt) : He.DefD := ⟨(x, none), x, x, defArgs st, defBody st, defScope st, [], []⟩
theorem defAt_of {fa : List He.Fa} {fn : List He.DefD} {K : Frag} {h : Heap} {mg : Str → Option Value} (X : K.In h) (G : h.Ns mainGlobals mg) (c : He.SaysD fa fn K) (i j : Nat) {x : Str} {st : Stmt} (hd : fn[i]? = some (dfn x st) := by rfl) (hf : fa[j]? = some (.glo x) := by rfl) :
    DefAt K mg x st := by
  obtain ⟨fd, F⟩ := c.def_ i hd
  exact ⟨_, fd, He.glo_ok X G (c.fact j hf), F⟩
/-- the end of a law over a head by facts -/
theorem walk_W {l : OpenLaw} {n : Nat} {q : Program} {loose : List Str} {XP : (Str → Option Value) → Heap → Prop} {YP : World → Heap → Prop} {d : DefRec} {CX : World → CXT} {x : Str}
    (hn : l.most = some n) (hn2 : n ≤ sizeLine) (hdf : d.params.defaults = [])
    (F : ∀ (w : World) (mg : Str → Option Value) (fa : Addr) (h : Heap), YP w h → h.Ns mainGlobals mg → mg d.name = some (.ref fa) →
      ∃ (K : Frag) (fd : FuncData) (sp : Sp), K.In h ∧ (∀ (s : Shared) (u : Value), BindsTo s fd ⟨[u], []⟩ [(x, u)]) ∧
        (∀ (H : Hp) (a : Addr) (ns : List Int), ns.length ≤ n → Only H → SqL K H a (ns.map V.int) → sp [.ref a] H (fun v _ => v = .bl true) fun _ _ _ => False) ∧
        ∀ base : Heap, K.In base → base.Ns mainGlobals mg → FnC l.prog w K mg base (CX w) fa fd [x] sp)
    (noexc : ∀ (w : World) (H : Hp) (s : Shared) (e : Value) (s' : Shared), CX w [] H s (fun _ _ _ => False) e s' → False) :
    WalkO q loose XP YP l.row.toRowW d [] (fun f vs => PySem.call f vs) := by
  refine Att.attach_call hn hdf ?_
  intro w s₀ s₁ mg mb fa o pm cd doc a vs ns G Y ho hd hcd hmg hobj hints hlen hg
  obtain ⟨K, fd, sp, KX, hb, hsp, hF⟩ := F w mg fa _ Y G.T.g hmg
  exact law_callC KX G.T.g G.T.b G.T.builtins G.T.nolimit hg hobj hints (Nat.le_trans hlen hn2) hF hb (fun H o s => hsp H a ns hlen o s) (fun H e s' => noexc w H s₁ e s')
end Al
namespace Al
open PySem PySem.Spec PyProof.Rows L2 NdefX PySem.W
abbrev R : OpenRow := OpenLaw.row PySem.Challenge.rw_alnage_k00_tokens
abbrev sIMalformed : Stmt := inClass (top 2) 0
def xdMalformed : ExD := ⟨"Malformed", "Malformed.__init__", sIMalformed, ["at"]⟩
abbrev sIOversized : Stmt := inClass (top 3) 0
def xdOversized : ExD := ⟨"Oversized", "Oversized.__init__", sIOversized, ["limit"]⟩
def exs : List ExD := [xdMalformed, xdOversized]
def fns : List He.DefD := [dfn "is_letter" (top 9), dfn "is_digit" (top 10), dfn "in_name" (top 11), dfn "run_end" (top 12), dfn "digits_end" (top 13), dfn "comment_end" (top 14), dfn "read_word" (top 15), dfn "read_number" (top 16), dfn "read_sign" (top 17), dfn "tokens" (top 18), dfn "_law_cell" (top 20), dfn "_law_word" (top 21), dfn "_law_token" (top 22), dfn "_law_bad" (top 23), dfn "law" (top 24)]
def fas : List He.Fa := [.free "len", .free "str", .free "int", .free "abs", .free "min", .free "max", .free "range", .free "repr", .free "isinstance", .free "dict", .free "list", .free "tuple", .free "sorted", .free "any", .free "all", .free "sum", .free "reversed", .free "super", .free "bool", .glo "is_letter", .glo "is_digit", .glo "in_name", .glo "run_end", .glo "digits_end", .glo "comment_end", .glo "read_word", .glo "read_number", .glo "read_sign", .glo "tokens", .glo "_law_cell", .glo "_law_word", .glo "_law_token", .glo "_law_bad", .glo "law", .glo "RESERVED", .glo "SIGNS", .int "MAX_TEXT" 12000, .int "MAX_NAME" 16, .exm "Malformed" "Malformed" true, .exm "Oversized" "Oversized" true]
def exFacts (K : Frag) : Bool := exs.all (exB R.prog.main.file K) && He.tupB K "RESERVED" (RES.map He.Dv.str) && He.tupB K "SIGNS" (SIG.map He.Dv.str)
abbrev hk : Hook := hookE 6 fas fns exs exFacts
def ob (s : SharedT) : AlE := obsK fas fns exs exFacts (frE (HandSHeadRun.getT s) 6)
theorem ob_eq (s : SharedT) : ob s = hk.obs s.abs := obsK_eq (HandSHeadRun.getT_eq s)
def loose : List Str := ["__name__", "Refused", "Malformed", "Oversized", "MAX_TEXT", "MAX_NAME", "RESERVED", "SIGNS", "is_letter", "is_digit", "in_name", "run_end", "digits_end", "comment_end", "read_word", "read_number", "read_sign", "tokens", "_law_cell", "_law_word", "_law_token", "_law_bad"]
theorem top_run (w : World) : HandSHeadRun.RunEq R (view R.prog [24]) hk ob 4000 loose w := by
  intro os
  kernel_rfl
section
variable {P : Program} {w : World} {K : Frag} {mg : Str → Option Value} {base h : Heap}
theorem bl_of (X : K.In h) (G : h.Ns mainGlobals mg) (c : He.SaysD fas fns K) : Bl mg :=
  ⟨He.free_ok X G (c.fact 0 (f := .free "len") rfl), He.free_ok X G (c.fact 1 (f := .free "str") rfl), He.free_ok X G (c.fact 2 (f := .free "int") rfl), He.free_ok X G (c.fact 3 (f := .free "abs") rfl), He.free_ok X G (c.fact 4 (f := .free "min") rfl), He.free_ok X G (c.fact 5 (f := .free "max") rfl), He.free_ok X G (c.fact 6 (f := .free "range") rfl), He.free_ok X G (c.fact 7 (f := .free "repr") rfl), He.free_ok X G (c.fact 8 (f := .free "isinstance") rfl), He.free_ok X G (c.fact 9 (f := .free "dict") rfl), He.free_ok X G (c.fact 10 (f := .free "list") rfl), He.free_ok X G (c.fact 11 (f := .free "tuple") rfl), He.free_ok X G (c.fact 12 (f := .free "sorted") rfl), He.free_ok X G (c.fact 13 (f := .free "any") rfl), He.free_ok X G (c.fact 14 (f := .free "all") rfl), He.free_ok X G (c.fact 15 (f := .free "sum") rfl), He.free_ok X G (c.fact 16 (f := .free "reversed") rfl), He.free_ok X G (c.fact 17 (f := .free "super") rfl), He.free_ok X G (c.fact 18 (f := .free "bool") rfl)⟩
theorem at_is_letter (X : K.In h) (G : h.Ns mainGlobals mg) (c : He.SaysD fas fns K) : DefAt K mg "is_letter" (top 9) := defAt_of X G c 0 19
theorem at_is_digit (X : K.In h) (G : h.Ns mainGlobals mg) (c : He.SaysD fas fns K) : DefAt K mg "is_digit" (top 10) := defAt_of X G c 1 20
theorem at_in_name (X : K.In h) (G : h.Ns mainGlobals mg) (c : He.SaysD fas fns K) : DefAt K mg "in_name" (top 11) := defAt_of X G c 2 21
theorem at_run_end (X : K.In h) (G : h.Ns mainGlobals mg) (c : He.SaysD fas fns K) : DefAt K mg "run_end" (top 12) := defAt_of X G c 3 22
theorem at_digits_end (X : K.In h) (G : h.Ns mainGlobals mg) (c : He.SaysD fas fns K) : DefAt K mg "digits_end" (top 13) := defAt_of X G c 4 23
theorem at_comment_end (X : K.In h) (G : h.Ns mainGlobals mg) (c : He.SaysD fas fns K) : DefAt K mg "comment_end" (top 14) := defAt_of X G c 5 24
theorem at_read_word (X : K.In h) (G : h.Ns mainGlobals mg) (c : He.SaysD fas fns K) : DefAt K mg "read_word" (top 15) := defAt_of X G c 6 25
theorem at_read_number (X : K.In h) (G : h.Ns mainGlobals mg) (c : He.SaysD fas fns K) : DefAt K mg "read_number" (top 16) := defAt_of X G c 7 26
theorem at_read_sign (X : K.In h) (G : h.Ns mainGlobals mg) (c : He.SaysD fas fns K) : DefAt K mg "read_sign" (top 17) := defAt_of X G c 8 27
theorem at_tokens (X : K.In h) (G : h.Ns mainGlobals mg) (c : He.SaysD fas fns K) : DefAt K mg "tokens" (top 18) := defAt_of X G c 9 28
theorem at_law_cell (X : K.In h) (G : h.Ns mainGlobals mg) (c : He.SaysD fas fns K) : DefAt K mg "_law_cell" (top 20) := defAt_of X G c 10 29
theorem at_law_word (X : K.In h) (G : h.Ns mainGlobals mg) (c : He.SaysD fas fns K) : DefAt K mg "_law_word" (top 21) := defAt_of X G c 11 30
theorem at_law_token (X : K.In h) (G : h.Ns mainGlobals mg) (c : He.SaysD fas fns K) : DefAt K mg "_law_token" (top 22) := defAt_of X G c 12 31
theorem at_law_bad (X : K.In h) (G : h.Ns mainGlobals mg) (c : He.SaysD fas fns K) : DefAt K mg "_law_bad" (top 23) := defAt_of X G c 13 32
theorem at_law (X : K.In h) (G : h.Ns mainGlobals mg) (c : He.SaysD fas fns K) : DefAt K mg "law" (top 24) := defAt_of X G c 14 33
theorem int_MAX_TEXT (X : K.In h) (G : h.Ns mainGlobals mg) (c : He.SaysD fas fns K) : ∃ t, mg "MAX_TEXT" = some (.int 12000 t) := He.int_ok X G (c.fact 36 (f := .int "MAX_TEXT" 12000) rfl)
theorem int_MAX_NAME (X : K.In h) (G : h.Ns mainGlobals mg) (c : He.SaysD fas fns K) : ∃ t, mg "MAX_NAME" = some (.int 16 t) := He.int_ok X G (c.fact 37 (f := .int "MAX_NAME" 16) rfl)
theorem glo_RESERVED (X : K.In h) (G : h.Ns mainGlobals mg) (c : He.SaysD fas fns K) : mg "RESERVED" = some (.ref (He.ga K "RESERVED")) := He.glo_ok X G (c.fact 34 (f := .glo "RESERVED") rfl)
theorem glo_SIGNS (X : K.In h) (G : h.Ns mainGlobals mg) (c : He.SaysD fas fns K) : mg "SIGNS" = some (.ref (He.ga K "SIGNS")) := He.glo_ok X G (c.fact 35 (f := .glo "SIGNS") rfl)
theorem exm_Malformed (c : He.SaysD fas fns K) : exmOne K (.ref (He.ga K "Malformed")) (.ref (He.ga K "Malformed")) = some true := He.exm_ok (c.fact 38 (f := .exm "Malformed" "Malformed" true) rfl)
theorem exm_Oversized (c : He.SaysD fas fns K) : exmOne K (.ref (He.ga K "Oversized")) (.ref (He.ga K "Oversized")) = some true := He.exm_ok (c.fact 39 (f := .exm "Oversized" "Oversized" true) rfl)
theorem glo_law (X : K.In h) (G : h.Ns mainGlobals mg) (c : He.SaysD fas fns K) : mg "law" = some (.ref (He.ga K "law")) := He.glo_ok X G (c.fact 33 (f := .glo "law") rfl)
theorem fn_law (c : He.SaysD fas fns K) : ∃ fd, FnP K "law" (top 24) (He.ga K "law") fd := c.def_ 14 (d := dfn "law" (top 24)) rfl
end
end Al
namespace Al
open PySem PySem.Spec PyProof.Rows L2 NdefX PySem.W
section
variable {P : Program} {w : World} {K : Frag} {mg : Str → Option Value} {base h : Heap}
theorem scMal : NScope ["self", "at", "__class__"] ["self", "at"] ["__class__"] (defScope sIMalformed) := nscope_by (by decide +kernel)
theorem scOver : NScope ["self", "limit", "__class__"] ["self", "limit"] ["__class__"] (defScope sIOversized) := nscope_by (by decide +kernel)
theorem exc_Malformed (F : ExF P K mg xdMalformed) (hs : mg "str" = none) : ExC1 P w K mg base "Malformed" (He.ga K "Malformed") "at" CMal := by
  obtain ⟨oc, od, osl, kV, doc, pm, an, cda, ct, cc, lk, hcd, T⟩ := F.fn
  refine ⟨F.gm, T.ox, ⟨_, ksFn "__init__" "Malformed.__init__" (defArgs sIMalformed) (defBody sIMalformed) (defScope sIMalformed) .none kV doc pm an (.ref cda) ct cc, F.fi, F.ty, Binds.all fun us hl => match us, hl with | [_, _], _ => rfl, ?_⟩, F.xf, F.nf _ (by simp [xdMalformed])⟩
  · refine fn_super (N := ["self", "at", "__class__"]) lk hcd T scMal rfl rfl (by decide +kernel) (fun _ => rfl) (fun L env e => ⟨_, by subst e; rfl⟩) (fun L env e => by subst e; rfl) (fun vs H Q E h => ?_) (fun A outer s H vs Q E hr h => ?_)
    · obtain ⟨x, v, rfl, _⟩ := h
      rfl
    · obtain ⟨x, v, rfl, ⟨i, rfl, hi⟩, hx, k⟩ := h
      refine ⟨x, _, rfl, hx, _, _, pa_cons (pe_callTy call_str_int (by rfl) hs (by decide +kernel) (pa_cons (pv 1) pa_nil)) pa_nil, pss_one (ps_ost (pv 0) (pv 1)), ?_⟩
      refine ⟨_, rfl, i, rfl, hi, ?_⟩
      exact ⟨by show 1 ≤ 1000; decide, hx, _, rfl, _, rfl, x, _, rfl, T.ox, F.nf _ (by simp [xdMalformed]), .inl ⟨hx, fun dx hn hd => k dx hn hd⟩⟩
theorem exc_Oversized (F : ExF P K mg xdOversized) (hs : mg "str" = none) : ExC1 P w K mg base "Oversized" (He.ga K "Oversized") "limit" COver := by
  obtain ⟨oc, od, osl, kV, doc, pm, an, cda, ct, cc, lk, hcd, T⟩ := F.fn
  refine ⟨F.gm, T.ox, ⟨_, ksFn "__init__" "Oversized.__init__" (defArgs sIOversized) (defBody sIOversized) (defScope sIOversized) .none kV doc pm an (.ref cda) ct cc, F.fi, F.ty, Binds.all fun us hl => match us, hl with | [_, _], _ => rfl, ?_⟩, F.xf, F.nf _ (by simp [xdOversized])⟩
  · refine fn_super (N := ["self", "limit", "__class__"]) lk hcd T scOver rfl rfl (by decide +kernel) (fun _ => rfl) (fun L env e => ⟨_, by subst e; rfl⟩) (fun L env e => by subst e; rfl) (fun vs H Q E h => ?_) (fun A outer s H vs Q E hr h => ?_)
    · obtain ⟨x, v, rfl, _⟩ := h
      rfl
    · obtain ⟨x, v, rfl, ⟨i, rfl⟩, hx, k⟩ := h
      refine ⟨x, _, rfl, hx, _, _, pa_cons (pe_callTy SkE.call_str_str (by rfl) hs (by decide +kernel) (pa_cons (pv 1) pa_nil)) pa_nil, pss_one (ps_ost (pv 0) (pv 1)), ?_⟩
      refine ⟨_, rfl, i, rfl, ?_⟩
      exact ⟨by show 1 ≤ 1000; decide, hx, _, rfl, _, rfl, x, _, rfl, T.ox, F.nf _ (by simp [xdOversized]), .inl ⟨hx, fun dx hn hd => k dx hn hd⟩⟩
end
end Al
namespace Al
open PySem PySem.Spec PyProof.Rows L2 NdefX PySem.W
theorem tup_strs {K : Frag} {x : Str} {l : List Str} (h : He.tupB K x (l.map He.Dv.str) = true) (H : Hp) : SqT K H (He.ga K x) (l.map V.str) := by
  have := He.tupB_ok h H
  rw [List.map_map] at this
  exact this
theorem law_fnC {K : Frag} {mg : Str → Option Value} {h : Heap} {f : Addr} (w : World) (X : K.In h) (G : h.Ns mainGlobals mg) (hf : mg "law" = some (.ref f)) (c : SaysE fas fns exs exFacts K) :
    ∃ fd, (∀ (s : Shared) (u : Value), BindsTo s fd ⟨[u], []⟩ [("_law_script", u)]) ∧ ∀ base : Heap, FnC R.prog w K mg base (L2N.CX R.prog w) f fd ["_law_script"] (spLaw K) := by
  obtain ⟨fd, F⟩ := fn_law c.d
  have e := hf.symm.trans (glo_law X G c.d)
  cases e
  have B := bl_of X G c.d
  obtain ⟨b1, b3⟩ := He.ba c.b
  obtain ⟨b1, b2⟩ := He.ba b1
  have top0 : (R.prog.main.scope.names.lookup ("super" : Str)).isSome = false := by decide +kernel
  have FM : ExF R.prog K mg xdMalformed := exF_of X G B.super top0 (c.exo 0) (List.all_eq_true.mp b1 _ (by simp [exs]))
  have FO : ExF R.prog K mg xdOversized := exF_of X G B.super top0 (c.exo 1) (List.all_eq_true.mp b1 _ (by simp [exs]))
  have bA := FunD.bindsA (ps := ["_law_script"]) F fun _ _ _ _ _ _ us hl => match us, hl with | [_], _ => rfl
  refine ⟨fd, fun s v => bA s [v] rfl, fun base => ?_⟩
  have XM : ExC1 R.prog w K mg base "Malformed" _ "at" CMal := exc_Malformed FM B.str
  have XO : ExC1 R.prog w K mg base "Oversized" _ "limit" COver := exc_Oversized FO B.str
  have L : LexC K mg := ⟨⟨_, glo_RESERVED X G c.d, fun H => tup_strs b2 H⟩, ⟨_, glo_SIGNS X G c.d, fun H => tup_strs b3 H⟩, int_MAX_TEXT X G c.d, int_MAX_NAME X G c.d⟩
  have g1 := cal_is_letter (P := R.prog) (w := w) (base := base) (at_is_letter X G c.d)
  have g2 := cal_is_digit (P := R.prog) (w := w) (base := base) (at_is_digit X G c.d)
  have g3 := cal_in_name (at_in_name X G c.d) g1 g2
  have g4 := cal_run_end (at_run_end X G c.d) B g3
  have g5 := cal_digits_end (at_digits_end X G c.d) B g2
  have g6 := cal_comment_end (P := R.prog) (w := w) (base := base) (at_comment_end X G c.d) B
  have g7 := cal_read_word (at_read_word X G c.d) B L XM g4
  have g8 := cal_read_sign (at_read_sign X G c.d) B L XM
  have g9 := cal_read_number (at_read_number X G c.d) B XM g5 g2 g3
  have g10 := cal_tokens (at_tokens X G c.d) B L XM XO g6 g1 g2 g7 g9 g8
  have h1 := calH_comment_end (P := R.prog) (w := w) (base := base) (at_comment_end X G c.d) B
  have h2 := calH_tokens (at_tokens X G c.d) B L h1
  have l1 := cal_law_cell (P := R.prog) (w := w) (base := base) (at_law_cell X G c.d) B
  have l2 := cal_law_word (P := R.prog) (w := w) (base := base) (at_law_word X G c.d) B
  have l3 := cal_law_bad (P := R.prog) (w := w) (base := base) (at_law_bad X G c.d) B
  have l4 := cal_law_token (at_law_token X G c.d) B L l2
  exact fnC_law F B XM XO (exm_Malformed c.d) (exm_Oversized c.d) l1 l4 l3 g10 h2
end Al
open PySem PySem.W PySem.Calls PyProof.Rows
theorem PySem.Challenge.cw_alnage_k00_tokens_holds : PySem.Challenge.rw_alnage_k00_tokens.Holds := by
  w_on; o_law
  refine HandSHeadRun.head_any (r := OpenLaw.row PySem.Challenge.rw_alnage_k00_tokens) (q := view (OpenLaw.row PySem.Challenge.rw_alnage_k00_tokens).prog [24]) (H := Al.hk) (ob := Al.ob) (M := 4000) (loose := Al.loose) (d := HandSHeadRun.topDef (OpenLaw.row PySem.Challenge.rw_alnage_k00_tokens).prog 24) (kwd := []) Al.ob_eq
    (by kernel_rfl) (fun s => by kernel_rfl) Al.top_run (by kernel_rfl) (by kernel_rfl) (by kernel_rfl) (by rfl) (by first | assumption | decide +kernel) (by decide +kernel) ⟨rfl, rfl, rfl, rfl, rfl, by decide +kernel⟩ ?hw ?hc
  case hw => w_witness2
  case hc =>
    refine Al.walk_W (l := PySem.Challenge.rw_alnage_k00_tokens) (n := 63) (x := "_law_script") (CX := L2N.CX Al.R.prog) rfl (by decide) (by kernel_rfl) ?F ?N
    · intro w mg fa h Y G hmg0
      obtain ⟨K, KX, c⟩ := Y
      have hmg : mg ("law" : PySem.Str) = some (.ref fa) := by
        have e : (HandSHeadRun.topDef (OpenLaw.row PySem.Challenge.rw_alnage_k00_tokens).prog 24).name = ("law" : PySem.Str) := by kernel_rfl
        rw [← e]
        exact hmg0
      obtain ⟨fd, hb, hF⟩ := Al.law_fnC w KX G hmg c
      exact ⟨K, fd, Al.spLaw K, KX, hb, fun H a ns hl _ hS => ⟨a, ns, rfl, hS, hl, fun _ => rfl⟩, fun base _ _ => hF base⟩
    · rintro w H s e s' ⟨_, _, _, _, _, _, _, _, _, _, _, _, z⟩
      exact z
