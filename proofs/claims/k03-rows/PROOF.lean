import PyProof.Rows.All
import Wide.All
import OpenK.AllK
import Wide.FinOn
import HandS.ForMost
import HandS.ForExc
import HandS.ExcInit
import HandS.ExcSuper
import HandS.Nested
import KE.KExcSuper
import HandS.RaiseMore
import HandS.ExcField
import HandS.Defaults
import HandS.HeadEnd
import HandS.StrMore
import PyProof.ReprRoads
import HandS.Codes
import HandS.ExcCtx
import HandS.HotCalls
import HandS.Wide
import PyProof.StrOps2
import HandS.Head0
import HandS.Head1
import HandS.Head2
import HandS.Head3
import HandS.HeadHook1
import HandS.HeadHook2
import HandS.Iter
import HandS.Walk
import HandS.More
import HandS.ExcOwn
import HandS.List
import HandS.HeadHook3
import HandS.Comp
import HandS.Zip
import HandS.Dict
import PyProof.NoPylong
import PySem.Challenge.RW_alnage_k03_whole_numbers_solve_rows
import HandS.Gcd
import HandS.AnyAll
import HandS.RevRange
import HandS.TupLe
import HandS.IsInst
set_option Elab.async false
set_option linter.all false
set_option maxRecDepth 100000
set_option maxHeartbeats 0
namespace Al
open PySem PySem.Spec PyProof.Rows L2 NdefX PySem.W
section
variable {prog : Program} {w : World} {A : Around} {E : Value → Shared → Prop} {h : Heap} {g : Array GenState} {d : Drawn} {t : Nat} {os : OsState}
variable {nm q : Str} {C N : Addr} {bs bm : List Value} {hdct : Bool} {sn : List Str} {sub : List Value} {ab : Bool} {col : Option Bool} {dd : Option Addr} {k0 k1 k2 k3 k5 : Option Value}
/-- the bound ValueError.__init__ called -/
theorem call_bwV {u e t0 : Addr} {rest : List Value} {Q : Value → Shared → Prop}
    (hC : h.get? C = some (excClassObj nm q C N bs bm hdct sn sub ab col dd k0 k1 k2 k3 k5 "ValueError.__new__")) (he : h.get? e = some (HandSPX.excO C t0)) (hu : h.get? u = some (kxs_mw "ValueError.__init__" e)) (hrest : rest.length ≤ sizeLine)
    (hq : ∀ h' t1, (∀ b o, b ≠ e → h.get? b = some o → h'.get? b = some o) → h'.get? e = some (HandSPX.excO C t1) → Q .none ⟨h', g, d, t, os⟩) :
    wpAny (model prog w) A (call (.ref u) rest) Q E ⟨h, g, d, t, os⟩ := by
  refine wpAny_call (codeAny_of_tree ?_)
  show wpAny _ A.in1 (callAny (.ref u) ⟨rest, []⟩) _ _ _
  simp only [callAny]
  refine wpAny_bind (wpAny_load hu ?_)
  simp only [kxs_mw, show (Value.type "method-wrapper" == Value.type "method" || Value.type "method-wrapper" == Value.type "builtin_function_or_method" || Value.type "method-wrapper" == Value.type "method-wrapper") = true by decide, if_true]
  refine W.KFB.if_so (by decide) ?_
  refine wpAny_bind (ESX.check_bound F.excBase_ValueError hC he rfl ?_)
  refine wpAny_bind (wpAny_pure (wpAny_pure ?_))
  refine ⟨Code.quiet_builtin _ (by decide +kernel), codeAny_builtin F.excBase_ValueError.initEntry ?_⟩
  rw [Around.under_plainId F.excBase_ValueError.init.plain _]
  wp_walk
  refine hq _ h.objs.size (fun b o hb ho => ?_) ?_
  · rw [Heap.get?_update_other _ _ (Ne.symm hb)]
    exact Heap.get?_push_of_some _ ho
  · rw [Heap.get?_update_self _ (Heap.get?_push_of_some _ he) rfl]
    rfl
end
/-- the facts about the class at D, whose __init__ says super().__init__(..) -/
structure SupC (K : Frag) (mg : Str → Option Value) (D cda cc : Addr) (P : Program) : Prop where
  ox : OexC K D
  cl : ∃ cd, clsIn K D = some cd
  ms : mroIn K D (.ref D) = some true
  sup : ks_superIn K D D "__init__" = some (some (.builtin "ValueError.__init__"))
  sV : subIn K (.ref D) (.type "ValueError") = some true
  sm : mg "super" = none
  st : nsIn K cStatics "thirdparty.any" = some none
  cell : ∃ cl cld csl, K.lookup cc = some ⟨cl, cld, .cell (some (.ref D)), csl⟩
  code : ∃ ccl cdd vs ccs file tf, K.lookup cda = some ⟨ccl, cdd, .fields vs, ccs⟩ ∧ vs[2]? = some (.str file tf) ∧ ((P.main.file : Str) == file) = true
  top : (P.main.scope.names.lookup ("super" : Str)).isSome = false
section
variable {CX : CXT} {P : Program} {w : World} {K : PySem.W.Frag} {mg : Str → Option Value} {base : Heap} {k : Nat} {f D cda cc : Addr} {name qual : Str} {params : Arguments} {scope : Scope} {kV doc pm ct oc : Value} {an od : Option Addr}
    {osl : Array (Option Value)} {N ps : List Str} {sp : Sp} {ex : Expr} {rest : List Stmt} {p0 p1 pa pc pe : Pos} {ar : Arg}
abbrev supBody (ex : Expr) (rest : List Stmt) (p0 p1 pa pc pe : Pos) : List Stmt := .Expr (.Call (.Attribute (.Call (.Name "super" p0) [] [] p1) "__init__" pa) [ex] [] pc) pe :: rest
abbrev supNF (name qual : Str) (params : Arguments) (body : List Stmt) (scope : Scope) (cc cda : Addr) : NF := ⟨name, qual, params, body, scope, [("__class__", cc)], cda⟩
theorem fn_super (lk : K.lookup f = some ⟨oc, od, .func (ksFn name qual params (supBody ex rest p0 p1 pa pc pe) scope .none kV doc pm an (.ref cda) ct cc), osl⟩)
    (hcd : codeIn K (.ref cda) qual = true) (T : SupC K mg D cda cc P) (S : NScope N ps ["__class__"] scope) (har : (params.posonlyargs ++ params.args).head? = some ar)
    (h0 : N[0]? = some ar.arg) (hsN : scope.names.lookup ("super" : Str) = some .globalImplicit)
    (hsw : ∀ L, swapsWith (.Call (.Attribute (.Call (.Name "super" p0) [] [] p1) "__init__" pa) [ex] [] pc) none pe.line (envF (supNF name qual params (supBody ex rest p0 p1 pa pc pe) scope cc cda) f L) = pure false)
    (hev : ∀ L, ∀ env, env = envF (supNF name qual params (supBody ex rest p0 p1 pa pc pe) scope cc cda) f L → ∃ pl, eval (.Call (.Attribute (.Call (.Name "super" p0) [] [] p1) "__init__" pa) [ex] [] pc) env = (do
      let ov ← attributeBase (.Call (.Name "super" p0) [] [] p1) "__init__" env (eval (.Call (.Name "super" p0) [] [] p1) env)
      standAt pa.atName
      let (f, first) ← holding [ov] (getMethod ov "__init__" pl)
      callWith pc f first (backTo pc (starEach [ex] env)) []))
    (hst : ∀ L, ∀ env, env = envF (supNF name qual params (supBody ex rest p0 p1 pa pc pe) scope cc cda) f L → starEach [ex] env = (false, eval ex env) :: starEach [] env)
    (len : ∀ vs H Q E, sp vs H Q E → vs.length = ps.length)
    (hbody : ∀ (A : Around) (outer : List Env) (s : Shared) (H : Hp) (vs : List V) (Q : VK) (E : XK), Room k (A.deeper (envF (supNF name qual params (supBody ex rest p0 p1 pa pc pe) scope cc cda) f s.heap.objs.size)) → sp vs H Q E →
      ∃ x xs, vs = .ref x :: xs ∧ H x = some (exo x D none) ∧ ∃ ta t, PA (ncx CX P w K mg base N (supNF name qual params (supBody ex rest p0 p1 pa pc pe) scope cc cda) f A outer s H E) [ex] ta ∧
        PSs (ncx CX P w K mg base N (supNF name qual params (supBody ex rest p0 p1 pa pc pe) scope cc cda) f A outer s H E) rest t ∧
        ta (startF N vs [none]) H (fun ws H1 => ws.length ≤ 1000 ∧ H1 x = some (exo x D none) ∧ t { nx := fun _ H' => Q .non H', rt := Q } (startF N vs [none]) H1)) :
    FnOk P w K mg base CX (k + 1) f (ksFn name qual params (supBody ex rest p0 p1 pa pc pe) scope .none kV doc pm an (.ref cda) ct cc) ps sp := by
  refine ⟨len, fun A outer s H args us vs Q E hr e0 hb r hsp => ?_⟩
  have hl := len _ _ _ _ hsp
  have KX : K.In s.heap := e0.mod.kin.keeps fun b o e => (e0.bs b o e).1
  have lim : s.heap.NoLimit := e0.mod.nolimit.keeps fun b o e => (e0.bs b o e).1
  obtain ⟨cl, cld, csl, hcell⟩ := T.cell
  have ccB := e0.mod.kin _ _ hcell
  have CA : CellsAt (supNF name qual params (supBody ex rest p0 p1 pa pc pe) scope cc cda).cl ["__class__"] [none] s.heap H := by
    refine ⟨rfl, fun y c hy => ?_, fun y z c h1 h2 => ?_, fun i y hi => ?_⟩
    · have : c = cc := by
        have h2 : List.lookup y [(("__class__" : Str), cc)] = some c := hy
        rw [List.lookup_cons] at h2
        split at h2
        · exact (Option.some.inj h2).symm
        · simp at h2
      subst this
      exact ⟨(e0.bs _ _ ccB).2, some (.ref D), _, (e0.bs _ _ ccB).1, rfl⟩
    · have h1' : List.lookup y [(("__class__" : Str), cc)] = some c := h1
      have h2' : List.lookup z [(("__class__" : Str), cc)] = some c := h2
      rw [List.lookup_cons] at h1' h2'
      split at h1' <;> rename_i e1
      · split at h2' <;> rename_i e2
        · rw [beq_iff_eq.mp e1, beq_iff_eq.mp e2]
        · simp at h2'
      · simp at h1'
    · match i, hi with
      | 0, hi =>
        have hi : some (("__class__" : Str)) = some y := hi
        have := Option.some.inj hi
        subst this
        exact ⟨cc, rfl, fun v hv => by simp at hv⟩
      | i + 1, hi => simp at hi
  refine ks_codeAny_call_defAt (fd := ksFn name qual params (supBody ex rest p0 p1 pa pc pe) scope .none kV doc pm an (.ref cda) ct cc) (body := supBody ex rest p0 p1 pa pc pe) (binds := ps.zip us) hr.depth (KX _ _ lk) rfl lim (codeRec_of KX hcd) rfl hb S.nocell
    (fun ⟨n, v⟩ hy => S.par n (List.of_mem_zip hy).1) (fun h₁ hns kp => ?_) S.co S.gen S.kind
  obtain ⟨x, xs, rfl, hx, ta, t, hA, hS, hq⟩ := hbody A outer s H vs Q E (hr.deeper _) hsp
  have I : Inv (ncx CX P w K mg base N (supNF name qual params (supBody ex rest p0 p1 pa pc pe) scope cc cda) f A outer s H E) [] (startF N (.ref x :: xs) [none]) H { s with heap := h₁, toks := s.toks + (ps.zip us).length } := inv_startN S hr.hd e0 hl r CA hns kp
  let env := envF (supNF name qual params (supBody ex rest p0 p1 pa pc pe) scope cc cda) f s.heap.objs.size
  let X := ncx CX P w K mg base N (supNF name qual params (supBody ex rest p0 p1 pa pc pe) scope cc cda) f A outer s H E
  have hxC : H x ≠ none := by rw [hx]; exact fun z => nomatch z
  -- the frame's name self
  obtain ⟨m, hn, hlk⟩ := id I.loc
  have hpar : scope.names.lookup ar.arg = some .local := by
    cases ps with
    | nil => simp at hl
    | cons p ps =>
      have q := S.pre
      have e1 : (N.take ((p :: ps).length + 1))[0]? = N[0]? := by
        rw [List.getElem?_take_of_lt (by simp)]
      have q2 : List.take ((p :: ps).length + 1) N = p :: ps ++ [("__class__" : Str)] := q
      rw [q2] at e1
      have e2 : some p = N[0]? := e1
      rw [h0] at e2
      have e3 : p = ar.arg := Option.some.inj e2
      rw [← e3]
      exact S.par p (by simp)
  have hlen0 : 0 < N.length := by
    rcases List.getElem?_eq_some_iff.mp h0 with ⟨z, _⟩
    exact z
  have hself : m ar.arg = some (.ref x) := by
    obtain ⟨u, ru, q⟩ := hlk 0 ar.arg (.ref x) h0 rfl (.inl hpar)
    obtain rfl : u = Value.ref x := ru
    rcases q with ⟨_, e⟩ | ⟨kk, _⟩
    · exact e
    · rcases kk with kk | kk
      · have kk' : scope.names.lookup ar.arg = some .cell := kk
        rw [hpar] at kk'; cases kk'
      · have kk' : scope.names.lookup ar.arg = some .free := kk
        rw [hpar] at kk'; cases kk'
  have hfree : scope.names.lookup ("__class__" : Str) = some .free := S.frk _ (by simp)
  obtain ⟨ccl, cdd, cvs, ccs, file, tf, hcode, hvs, hfile⟩ := T.code
  obtain ⟨cdD, hclD⟩ := T.cl
  show PySem.wpAt (model P w) (A.deeper env) (.func (supBody ex rest p0 p1 pa pc pe) env) (execs (supBody ex rest p0 p1 pa pc pe) env) _ _ _
  refine ks_wpAt_execs_cons (ks_wpAt_Expr_any ?_ (by show interactive env = false; simp [interactive, env, S.kind]) (hsw _))
  obtain ⟨pl, hev⟩ := hev _ env rfl
  refine ks_wpAt_MethodCall (pl := pl) ?_ hev
  have KX1 : K.In h₁ := I.kIn
  obtain ⟨oD, hD1, hD2⟩ : ∃ oD, h₁.get? D = some oD ∧ oD.data = .cls cdD := by
    unfold clsIn at hclD
    split at hclD
    · rename_i c d cd' sl ho
      cases hclD
      exact ⟨_, KX1 _ _ ho, rfl⟩
    · cases hclD
  obtain ⟨t1, hx1⟩ := exo_at I.hok hx
  obtain ⟨mb, hb1, hb2⟩ := I.mod.blt
  have IA : InstAt h₁ x (HandSPX.excO D t1) D none := ⟨hx1, rfl, rfl, trivial⟩
  refine ks_wpAt_super_base (env := env) hsN hfree (by decide) rfl (KX1 _ _ lk) rfl har rfl (KX1 _ _ hcode) rfl hvs hfile T.top ?_
  refine ks_loadName_global S.kind hsN (Calls.loadGlobal_builtin (env := env) (I.mod.glob.keeps I.bk) T.sm (hb1.keeps I.bk) ((hb2 _ (by decide)).trans (by decide +kernel : bootBuiltins "super" = some (.type "super"))) ⟨rfl, ?_⟩)
  refine wpAny_loadName_free S.kind hfree rfl ⟨_, KX1 _ _ hcell, rfl⟩ ?_
  refine wpAny_loadName_local S.kind hpar hn hself ?_
  refine ks_wpAny_isType_cls hD1 hD2 ⟨rfl, ?_⟩
  refine ks_wpAny_call_super hD1 hD2 IA.at_ IA.cls (fun c e => ?_) (looks_mroIn KX1 T.ms) (fun h2 e2 k2 => ?_)
  · have := IA.no
    unfold notCls at this
    rw [e] at this
    exact Bool.noConfusion this
  have I2 : Inv X [] (startF N (.ref x :: xs) [none]) H { s with heap := h2, toks := s.toks + (ps.zip us).length } := I.kept k2
  have KX2 : K.In h2 := I2.kIn
  have IA2 : InstAt h2 x (HandSPX.excO D t1) D none := ⟨k2 _ _ hx1, rfl, rfl, trivial⟩
  have hsup := T.sup
  unfold ks_superIn at hsup
  rw [hclD] at hsup
  refine kxs_getMethod kxs_ValueError e2 (looks_opaque KX2 T.st) (l₀ := cdD.mro) (fun A Q E s k q => wpAny_bind ((looks_clsIn KX2 hclD) A _ E s k (wpAny_pure q))) rfl KX2 hsup
    (IA2.type.andThen (looks_subIn KX2 T.sV)) (ks_ne KX2 IA2 hclD) (by decide) ?_
  have k3 : ∀ b o, h2.get? b = some o → (h2.push (kxs_mw "ValueError.__init__" x)).get? b = some o := fun b o e => Heap.get?_push_of_some _ e
  have I3 : Inv X [] (startF N (.ref x :: xs) [none]) H { s with heap := h2.push (kxs_mw "ValueError.__init__" x), toks := s.toks + (ps.zip us).length + 1 } := I2.kept (t' := s.toks + (ps.zip us).length + 1) k3
  have hu3 : (h2.push (kxs_mw "ValueError.__init__" x)).get? h2.objs.size = some (kxs_mw "ValueError.__init__" x) := Heap.get?_push_at rfl rfl
  have I4 : Inv X [(h2.objs.size, kxs_mw "ValueError.__init__" x)] (startF N (.ref x :: xs) [none]) H { s with heap := h2.push (kxs_mw "ValueError.__init__" x), toks := s.toks + (ps.zip us).length + 1 } := I3.pins_of (by
    intro p hp
    obtain rfl : p = (h2.objs.size, kxs_mw "ValueError.__init__" x) := by simpa using hp
    refine ⟨hu3, I2.hok.fresh (Nat.le_refl _), Nat.ne_of_gt I2.lt, I2.nofs (Nat.le_refl _), fun v z => nomatch z⟩)
  show wpAny _ _ (callWith pc (.ref h2.objs.size) [] (backTo pc (starEach [ex] env)) []) _ _ _
  have hst' := hst _ env rfl
  have hAr := hA.run pc [(h2.objs.size, kxs_mw "ValueError.__init__" x)] _ _ _ _ I4 hq
  have hAr2 : wpAny (model P w) (A.deeper env) (spliced (backTo pc (starEach [ex] env))) _ _ _ := hAr
  rw [hst'] at hAr2 ⊢
  refine kxs_callWith (i := "ValueError.__init__") (x := x) rfl (Calls.evalArgs_plain (wpAny_mono hAr2 (fun ws' s4 h4 => ?_) fun e s' hs => hs))
  obtain ⟨ws, H1, I5, r5, hz, hx5, q5⟩ := h4
  have hpin := (I5.pin (h2.objs.size, kxs_mw "ValueError.__init__" x) (by simp)).1
  refine ⟨hpin, ?_⟩
  obtain ⟨nm, qn, N', bs, bm, sn, sub, ab, col, dd, k0, k1, k2', k3', k5, hC, hbm⟩ := T.ox.cls
  obtain ⟨t5, ho5⟩ := exo_at I5.hok hx5
  obtain ⟨h5, g5, d5, tk5, os5⟩ := s4
  have hlen5 : ws'.length ≤ sizeLine := by
    rw [← Paired.length r5, sizeLine_eq]
    omega
  refine call_bwV (I5.kIn _ _ hC) ho5 hpin hlen5 fun h6 t6 k6 hx6 => ?_
  have J := I5.write (t' := tk5) (x := x) (e := x) (o := exo x D none) (by rw [hx5]; exact True.intro) (.inl rfl) k6 ⟨_, hx6⟩ (exo_ok hx6)
  have eu : upd H1 x (exo x D none) = H1 := by
    funext b
    by_cases hb : b = x
    · rw [hb, upd_same, hx5]
    · rw [upd_ne hb]
  rw [eu] at J
  have J0 : Inv X [] (startF N (.ref x :: xs) [none]) H1 ⟨h6, g5, d5, tk5, os5⟩ := J.pins_of (by intro p hp; simp at hp)
  show PySem.wpAt (model P w) (A.deeper env) _ (execs rest env) _ _ _
  refine PySem.wpAt_of_wpAny ?_
  refine wpAny_mono (hS.run [] _ _ _ _ J0 q5) (fun fl s' hs => ?_) fun e s' hs => hs
  have fin : ∀ {σ' : L2.St} {H' : Hp} {v : V} {u : Value}, Inv X [] σ' H' s' → L2.RelV v u → Q v H' → CE outer P w H s Q u s' :=
    fun {σ' H' v u} J rv q => ⟨v, H', J.os, J.bare, J.base, J.hok, rv, q⟩
  cases fl with
  | ret u =>
    obtain ⟨v, σ', H', J, rv, q⟩ := hs
    exact fin J rv q
  | next =>
    obtain ⟨σ', H', J, q⟩ := hs
    exact fin (v := V.non) (u := Value.none) J rfl q
  | brk =>
    obtain ⟨_, _, _, q⟩ := hs
    exact False.elim q
  | cont =>
    obtain ⟨_, _, _, q⟩ := hs
    exact False.elim q
/-- the promise of an __init__ that keeps one field -/
def spX1 (D : Addr) (f : Str) (C : V → Prop) : Sp := fun vs H Q _ => ∃ x v, vs = [.ref x, v] ∧ C v ∧ H x = some (exo x D none) ∧
  ∀ dx, H dx = none → dx ≠ x → Q .non (upd (upd H dx (exd dx [(f, v)])) x (exo x D (some dx)))
end
end Al
namespace Al
open PySem PySem.Spec PyProof.Rows L2 NdefX PySem.W
/-! ### the law's own def, called from outside: what runs around it is known (no guards: repr needs that) -/
structure FnC (P : Program) (w : World) (K : Frag) (mg : Str → Option Value) (base : Heap) (CX : CXT) (f : Addr) (fd : FuncData) (ps : List Str) (sp : Sp) : Prop where
  go : ∀ (s : Shared) (H : Hp) (args : Args) (us : List Value) (vs : List V) (Q : VK) (E : XK), Env0 P w K mg base callerA [] s H → BindsTo s fd args (ps.zip us) → Vals vs us → sp vs H Q E →
    codeAny (model P w) callerA (.call (.ref f) args) (CR CX [] P w H s Q E) s
section
variable {P : Program} {w : World} {K : Frag} {mg mb : Str → Option Value} {base : Heap} {CX : CXT} {f : Addr} {fd : FuncData} {N ps : List Str} {k : Nat} {sp : Sp}
theorem fnC_of {x qual : Str} {params : Arguments} {body : List Stmt} {scope : Scope} {dvs : List V} {kws : List (Str × V)} (hr : Room (k + 1) callerA) (F : FunD K x qual params body scope dvs kws f fd) (S : FnScope N ps scope)
    (len : ∀ vs H Q E, sp vs H Q E → vs.length = ps.length)
    (hbody : ∀ (cdv : Value) (s : Shared) (H : Hp) (vs : List V) (Q : VK) (E : XK), Room k (callerA.deeper (envOfC qual scope s.heap.objs.size f cdv)) → sp vs H Q E →
      ∃ t, PSs (cxOf CX P w K mg base N qual scope f cdv callerA [] s H E) body t ∧ t { nx := fun _ H' => Q .non H', rt := Q } (start N vs) H) : FnC P w K mg base CX f fd ps sp := by
  obtain ⟨oc, od, dV, kV, doc, pm, an, cdv, ct, osl, rfl, lk, hcd, _, _⟩ := F.ex
  refine ⟨fun s H args us vs Q E e0 hb rv hsp => ?_⟩
  have lenv : vs.length = ps.length := len _ _ _ _ hsp
  have inK : K.In s.heap := e0.mod.kin.keeps fun b o e => (e0.bs b o e).1
  have nolim : s.heap.NoLimit := e0.mod.nolimit.keeps fun b o e => (e0.bs b o e).1
  refine codeAny_call_function hr.depth (inK _ _ lk) rfl S.co S.gen rfl (codeRec_of inK hcd) (hb _ _ _ _ ?_)
  refine wpAny_newFunctionEnv_cells S.kind ?pk fun env he s1 x => ?_
  case pk =>
    rintro ⟨n, v⟩ hy
    have nin : n ∈ ps := (List.of_mem_zip hy).1
    rcases S.par n nin with hl | hc
    · exact .inl hl
    · refine .inr ⟨hc, ?_⟩
      exact cellsFrom_some scope.names _ _ (.inl hc)
  subst he
  refine ⟨nolim.keeps x.toInCall.keep, codeAny_func ?_⟩
  obtain ⟨t, ht, hq⟩ := hbody cdv s H vs Q E (hr.deeper _) hsp
  have I := inv_start (CX := CX) (E := E) S hr.hd e0 lenv rv x
  refine wpAny_mono (ht.run [] s1 (start N vs) H _ I hq) (fun fl s' hs => ?_) (fun e s' hs => hs)
  cases fl with
  | next => exact let ⟨σ', H', J, q⟩ := hs; ⟨V.non, H', J.os, J.bare, J.base, J.hok, rfl, q⟩
  | ret u => exact let ⟨v, σ', H', J, rv, q⟩ := hs; ⟨v, H', J.os, J.bare, J.base, J.hok, rv, q⟩
  | brk => exact let ⟨_, _, _, q⟩ := hs; q.elim
  | cont => exact let ⟨_, _, _, q⟩ := hs; q.elim
theorem law_callC {fa a : Addr} {x : Str} {s₁ : Shared} {vs : List Value} {ns : List Int}
    (KX : K.In s₁.heap) (gl : s₁.heap.Ns mainGlobals mg) (bl : s₁.heap.Ns builtinsNs mb) (bls : ∀ x : Str, x ≠ "__name__" → mb x = bootBuiltins x) (lim : s₁.heap.NoLimit) (gens : s₁.gens = #[])
    (scr : s₁.heap.get? a = some { cls := .type "list", data := .seq vs.toArray }) (areI : IntsAre vs ns) (small : ns.length ≤ sizeLine)
    (F : ∀ base : Heap, K.In base → base.Ns mainGlobals mg → FnC P w K mg base CX fa fd [x] sp) (bind : ∀ (s : Shared) (u : Value), BindsTo s fd ⟨[u], []⟩ [(x, u)])
    (prom : ∀ H : Hp, Only H → SqL K H a (ns.map V.int) → sp [.ref a] H (fun v _ => v = .bl true) fun _ _ _ => False)
    (noexc : ∀ H e s', CX [] H s₁ (fun _ _ _ => False) e s' → False) :
    codeAny (model P w) callerA (.call (.ref fa) ⟨[.ref a], []⟩) (fun r s' => r = .ok (.ret (.bool true)) ∧ OldK s₁.heap s'.heap ∧ s'.os = s₁.os ∧ AllBare s'.gens) s₁ := by
  have rels := vals_ints areI
  have lens := areI.length
  have main : ∀ H : Hp, Only H → SqL K H a (ns.map V.int) → HOk P w H s₁.heap → (∀ b, H b ≠ none → b = a) → (H a ≠ none → K.lookup a = none) →
      codeAny (model P w) callerA (.call (.ref fa) ⟨[.ref a], []⟩) (fun r s' => r = .ok (.ret (.bool true)) ∧ OldK s₁.heap s'.heap ∧ s'.os = s₁.os ∧ AllBare s'.gens) s₁ := by
    intro H only seq ok alone apart
    have notDict : ∀ {b : Addr} {o : Obj} {es : Array DictEntry} {ep : Nat}, s₁.heap.get? b = some o → o.data = .dict es ep → H b = none := by
      intro b o es ep e d
      cases q : H b with
      | none => rfl
      | some u =>
        obtain rfl : b = a := alone b (by rw [q]; intro z; cases z)
        rw [scr] at e
        cases e
        exact nomatch (show Data.seq vs.toArray _ = Data.dict es ep from d)
    have nss : ∀ {b : Addr} {m : Str → Option Value}, s₁.heap.Ns b m → (hidT s₁.heap H).Ns b m := by
      rintro b m ⟨o, es, ep, e, d, r⟩
      exact ⟨o, es, ep, hidT_get e (notDict e d), d, r⟩
    have inB : K.In (hidT s₁.heap H) := by
      intro b o e
      refine hidT_get (KX b o e) ?_
      cases q : H b with
      | none => rfl
      | some u =>
        obtain rfl : b = a := alone b (by rw [q]; intro z; cases z)
        rw [apart (by rw [q]; intro z; cases z)] at e
        cases e
    have md : Mod K mg (hidT s₁.heap H) := by
      obtain ⟨mc, h1, h2⟩ := lim
      exact ⟨inB, nss gl, ⟨mb, nss bl, bls⟩, mc, nss h1, h2⟩
    have env0 : Env0 P w K mg (hidT s₁.heap H) callerA [] s₁ H := by
      refine ⟨rfl, md, fun b o e => of_hidT e, Nat.le_of_eq (hidT_size _ _), trivial, ?_, ok, .of_eq gens⟩
      intro b hb
      exact absurd (show b ∈ ([] : List Addr) from hb) List.not_mem_nil
    refine codeAny_mono ((F _ inB (nss gl)).go s₁ H ⟨[.ref a], []⟩ [.ref a] [.ref a] _ _ env0 (bind s₁ (.ref a)) (.cons rfl .nil) (prom H only seq)) ?_
    intro r s' h
    match r, h with
    | .error e, h => exact (noexc H e s' h).elim
    | .ok .next, h => exact h.elim
    | .ok .brk, h => exact h.elim
    | .ok .cont, h => exact h.elim
    | .ok (.ret u), ⟨v, H', os, bare, un, ok', ru, q⟩ =>
      obtain rfl : v = .bl true := q
      obtain rfl : u = Value.bool true := ru
      refine ⟨rfl, OldK.of_keep ?_, os, bare⟩
      intro b o e
      cases q : H b with
      | none => exact un.keep b o e q (fun z => List.not_mem_nil (show b ∈ ([] : List Addr) from z)) List.not_mem_nil
      | some u =>
        rcases only b with z | ⟨ob, xs, z⟩
        · exact nomatch q.symm.trans z
        · have e1 := (ok b _ z).1
          have e2 := (ok' b _ (un.frzs b ob _ z)).1
          exact e2.trans (e1.symm.trans e)
  cases hk : K.lookup a with
  | some o =>
    have e := (KX a o hk).symm.trans scr
    cases e
    refine main (fun _ => none) (fun _ => .inl rfl) (.inr ⟨_, vs.toArray, _, hk, rfl, rfl, rfl, ?_, ?_⟩) (fun b u z => nomatch (show (none : Option HO) = some u from z)) (fun b z => absurd rfl z) (fun z => absurd rfl z)
    · rw [List.size_toArray, lens]
      exact small
    · simpa using rels
  | none =>
    let H : Hp := fun b => if b = a then some (.frz { cls := .type "list", data := .seq vs.toArray } (.lst (ns.map V.int))) else none
    have at_ : H a = some (.frz { cls := .type "list", data := .seq vs.toArray } (.lst (ns.map V.int))) := if_pos rfl
    have off : ∀ b, b ≠ a → H b = none := fun b hb => if_neg hb
    refine main H (fun b => ?_) (.inl (.inr ⟨_, at_⟩)) (fun b u z => ?_) (fun b z => ?_) (fun _ => hk)
    · by_cases hb : b = a
      · exact .inr ⟨_, _, by rw [hb]; exact at_⟩
      · exact .inl (off b hb)
    · by_cases hb : b = a
      · subst hb
        rw [at_] at z
        cases z
        exact ⟨scr, by rw [List.length_map]; exact small, vs, _, rels, scr⟩
      · rw [off b hb] at z
        cases z
    · by_cases hb : b = a
      · exact hb
      · exact absurd (off b hb) z
end
/-- the end of a law over a head by facts -/
theorem walk_C {l : OpenLaw} {n : Nat} {q : Program} {loose : List Str} {XP : (Str → Option Value) → Heap → Prop} {YP : World → Heap → Prop} {d : DefRec} {CX : CXT} {x : Str}
    (hn : l.most = some n) (hn2 : n ≤ sizeLine) (hdf : d.params.defaults = [])
    (F : ∀ (w : World) (mg : Str → Option Value) (fa : Addr) (h : Heap), YP w h → h.Ns mainGlobals mg → mg d.name = some (.ref fa) →
      ∃ (K : Frag) (fd : FuncData) (sp : Sp), K.In h ∧ (∀ (s : Shared) (u : Value), BindsTo s fd ⟨[u], []⟩ [(x, u)]) ∧
        (∀ (H : Hp) (a : Addr) (ns : List Int), ns.length ≤ n → Only H → SqL K H a (ns.map V.int) → sp [.ref a] H (fun v _ => v = .bl true) fun _ _ _ => False) ∧
        ∀ base : Heap, K.In base → base.Ns mainGlobals mg → FnC l.prog w K mg base CX fa fd [x] sp)
    (noexc : ∀ (H : Hp) (s : Shared) (e : Value) (s' : Shared), CX [] H s (fun _ _ _ => False) e s' → False) :
    WalkO q loose XP YP l.row.toRowW d [] (fun f vs => PySem.call f vs) := by
  refine Att.attach_call hn hdf ?_
  intro w s₀ s₁ mg mb fa o pm cd doc a vs ns G Y ho hd hcd hmg hobj hints hlen hg
  obtain ⟨K, fd, sp, KX, hb, hsp, hF⟩ := F w mg fa _ Y G.T.g hmg
  exact law_callC KX G.T.g G.T.b G.T.builtins G.T.nolimit hg hobj hints (Nat.le_trans hlen hn2) hF hb (fun H o s => hsp H a ns hlen o s) (fun H e s' => noexc H s₁ e s')
end Al
namespace Al
open PySem PySem.Spec PyProof.Rows L2 NdefX PySem.W
section
variable {X : Cx}
/-! ### repr of nested data -/
def rRepr (K : Frag) : List V → Hp → VK → Prop := fun xs H Q => ∃ a d, xs = [.ref a] ∧ Dp K H (.ref a) d ∧ d.showable = true ∧ d.hasDict = false ∧ d.depth ≤ 100 ∧ d.shown.length ≤ sizeLine ∧ Q (.str d.shown) H
theorem call_reprD (hg : X.A.guards = some []) (hu : X.A.units + 110 < cLine) : CallR X (.builtin "repr") (rRepr X.K) := by
  intro pins s σ H vs us Q I rv h
  obtain ⟨a, d, rfl, hd, hs, hn, hdp, hz, q⟩ := h
  cases rv with
  | cons r t =>
    cases t
    cases r
    obtain ⟨as, r⟩ := Dp.reads I d _ _ hd rfl
    exact repr_of_reads' r hs (PyData.noDict_hsm hn) hg (by omega) (fun _ _ e => e) (fun h' u tk k => ⟨.str _, H, I.kept k, ⟨_, rfl⟩, q⟩) hz
/-! ### text * number -/
def timesS (z : Str) (n : Nat) : Str := ⟨((List.replicate n z.cps.toList).flatten).toArray⟩
theorem fold_rep (n : Nat) (a : Array Nat) (b : Array Nat) : (List.replicate n a).foldl (· ++ ·) b = b ++ ((List.replicate n a.toList).flatten).toArray := by
  induction n generalizing b with
  | zero => simp
  | succ n ih =>
    rw [List.replicate_succ, List.foldl_cons, ih, List.replicate_succ, List.flatten_cons]
    apply Array.ext'
    simp
theorem timesS_eq (z : Str) (n : Nat) : (⟨(List.replicate n z.cps).foldl (· ++ ·) #[]⟩ : Str) = timesS z n := by
  unfold timesS
  rw [fold_rep]
  simp
theorem timesS_zero (z : Str) : timesS z 0 = Str.empty := rfl
theorem timesS_one (z : Str) : timesS z 1 = z := by
  unfold timesS
  simp
theorem timesS_nil (z : Str) (n : Nat) (h : z.length = 0) : timesS z n = z := by
  have h2 : z.cps = #[] := Array.size_eq_zero_iff.mp h
  obtain ⟨c⟩ := z
  have h3 : c = #[] := h2
  subst h3
  unfold timesS
  congr 1
  induction n with
  | zero => rfl
  | succ n ih => rw [List.replicate_succ, List.flatten_cons]; simpa using ih
theorem timesS_length (z : Str) (n : Nat) : (timesS z n).length = n * z.length := by
  show ((List.replicate n z.cps.toList).flatten).toArray.size = n * z.cps.size
  simp
def rMulS : R2 := fun x y H Q => ∃ (z : Str) (n : Nat), x = .str z ∧ y = .int (n : Int) ∧ n ≤ 1000000 ∧ z.length * n ≤ 1000000 ∧ Q (.str (timesS z n)) H
theorem op_mulS : OpR X (binaryOp .Mult) rMulS := by
  intro pins s σ H x y v u Q I rx ry h
  obtain ⟨z, n, rfl, rfl, hn, hz, q⟩ := h
  obtain ⟨t, rfl⟩ := rx
  obtain ⟨t', rfl⟩ := ry
  refine PySem.P.mul_str (by simp; omega) (fun h1 h2 => ?_) (fun h1 h2 => ?_) ?_
  · have h3 : (2 ^ 63 - 1) / (n : Int) ≥ 1000000 := by
      rw [ge_iff_le, Int.le_ediv_iff_mul_le (by omega)]
      have : (1000000 : Int) * (n : Int) ≤ 1000000 * 1000000 := Int.mul_le_mul_of_nonneg_left (by omega) (by decide)
      omega
    have h4 : z.length ≤ 1000000 := by
      have : z.length * 1 ≤ z.length * n := Nat.mul_le_mul_left _ (by omega)
      omega
    omega
  · have e : ((n : Int).toNat) = n := by omega
    rw [e]
    unfold Builtin.Str.tooLong
    rw [decide_eq_false_iff_not]
    have := sizeLine_eq
    omega
  · have e : ((n : Int).toNat) = n := by omega
    rw [e, timesS_eq]
    split
    · rename_i h1
      have : n = 0 := by omega
      subst this
      exact ⟨by decide, ⟨.str (timesS z 0), H, I.tok _, ⟨_, rfl⟩, q⟩⟩
    · split
      · rename_i h1 h2
        have e2 : timesS z n = z := by
          rw [Bool.or_eq_true] at h2
          rcases h2 with h2 | h2
          · have : n = 1 := by
              have := beq_iff_eq.mp h2
              omega
            rw [this, timesS_one]
          · exact timesS_nil _ _ (beq_iff_eq.mp h2)
        rw [e2] at q
        exact ⟨.str z, H, I, ⟨_, rfl⟩, q⟩
      · refine ⟨?_, ⟨.str (timesS z n), H, I.tok _, ⟨_, rfl⟩, q⟩⟩
        rw [timesS_length, Nat.mul_comm, sizeLine_eq]
        omega
end

/-! ### defs of the text by name -/
abbrev FnP (K : Frag) (x : Str) (st : Stmt) (f : Addr) (fd : FuncData) : Prop := FunD K x x (defArgs st) (defBody st) (defScope st) [] [] f fd
structure DefAt (K : Frag) (mg : Str → Option Value) (x : Str) (st : Stmt) : Prop where
  ex : ∃ f fd, mg x = some (.ref f) ∧ FnP K x st f fd
structure Cal (P : Program) (w : World) (K : Frag) (mg : Str → Option Value) (base : Heap) (k : Nat) (x : Str) (ps : List Str) (sp : Sp) : Prop where
  ex : ∃ f fd, mg x = some (.ref f) ∧ keepIn K (.ref f) = true ∧ Binds K fd ps [] ∧ FnOk P w K mg base (L2N.CX P w) k f fd ps sp
theorem Cal.mono {P : Program} {w : World} {K : Frag} {mg : Str → Option Value} {base : Heap} {j k : Nat} {x : Str} {ps : List Str} {sp : Sp} (c : Cal P w K mg base j x ps sp) (h : j ≤ k) : Cal P w K mg base k x ps sp := by
  obtain ⟨f, fd, h1, h2, h3, h4⟩ := c.ex
  exact ⟨f, fd, h1, h2, h3, h4.mono h⟩
theorem Cal.imp {P : Program} {w : World} {K : Frag} {mg : Str → Option Value} {base : Heap} {k : Nat} {x : Str} {ps : List Str} {sp sp' : Sp} (c : Cal P w K mg base k x ps sp) (h : ∀ vs H Q E, sp' vs H Q E → sp vs H Q E) : Cal P w K mg base k x ps sp' := by
  obtain ⟨f, fd, h1, h2, h3, h4⟩ := c.ex
  exact ⟨f, fd, h1, h2, h3, h4.imp h⟩
theorem cal_mk {P : Program} {w : World} {K : Frag} {mg : Str → Option Value} {base : Heap} {k : Nat} {x : Str} {st : Stmt} {N ps : List Str} {sp : Sp} (dx : DefAt K mg x st) (S : FnScope N ps (defScope st))
    (hb : ∀ (kV doc pm : Value) (an : Option Addr) (cdv ct : Value) (us : List Value), us.length = ps.length → bindArgs (fnOf x x (defArgs st) (defBody st) (defScope st) .none kV doc pm an cdv ct) ⟨us, []⟩ = pure (ps.zip us))
    (len : ∀ vs H Q E, sp vs H Q E → vs.length = ps.length)
    (hbody : ∀ (f : Addr) (cdv : Value) (A : Around) (outer : List Env) (s : Shared) (H : Hp) (vs : List V) (Q : VK) (E : XK), Room k (A.deeper (envOfC x (defScope st) s.heap.objs.size f cdv)) → sp vs H Q E →
      ∃ t, PSs (cxOf (L2N.CX P w) P w K mg base N x (defScope st) f cdv A outer s H E) (defBody st) t ∧ t { nx := fun _ H' => Q .non H', rt := Q } (start N vs) H) : Cal P w K mg base (k + 1) x ps sp := by
  obtain ⟨f, fd, hm, F⟩ := dx.ex
  exact ⟨f, fd, hm, F.kp, F.bindsN hb, F.ok S len (hbody f)⟩
section
variable {X : Cx}
theorem pe_cal {x : Str} {p pos : Pos} {k : Nat} {ps : List Str} {sp : Sp} {W : WX} {e : Expr} {es : List Expr} {ta : TA} (G : Cal X.prog X.w X.K X.mg X.base k x ps sp) (hr : Room k X.A) (tk : L2N.Takes X W) (ha : PA X (e :: es) ta) (hg : Gl X x := by rfl)
    (hdb : (x == ("__debug__" : Str)) = false := by decide) (he : starEach (e :: es) X.env = (false, eval e X.env) :: starEach es X.env := by rfl) (hpl : (backTo pos (starEach es X.env)).any (·.1) = false := by rfl) :
    PE X (.Call (.Name x p) (e :: es) [] pos) (tCallS sp (WE W) ta) := by
  obtain ⟨f, fd, hm, hk, hb, F⟩ := G.ex
  exact pe_callS F hr hg hm hk hb (fun σ => L2N.passAt tk σ) ha hdb he hpl
end
section
variable {X : Cx}
theorem pe_gint {x : Str} {i : Int} {pos : Pos} (hm : ∃ t, X.mg x = some (.int i t)) (hg : Gl X x := by rfl) (hd : (x == ("__debug__" : Str)) = false := by decide) : PE X (.Name x pos) (tC (.int i)) := by
  obtain ⟨t, h⟩ := hm
  exact pe_glob hg h ⟨t, rfl⟩ hd
theorem pe_gref {x : Str} {a : Addr} {pos : Pos} (hm : X.mg x = some (.ref a)) (hg : Gl X x := by rfl) (hd : (x == ("__debug__" : Str)) = false := by decide) : PE X (.Name x pos) (tC (.ref a)) := pe_glob hg hm rfl hd
end
theorem noexcX {P : Program} {w : World} (H : Hp) (s : Shared) (e : Value) (s' : Shared) (h : L2N.CX P w [] H s (fun _ _ _ => False) e s') : False := by
  obtain ⟨_, _, _, _, _, _, _, _, _, _, _, _, z⟩ := h
  exact z
/-! ### raising an exception that keeps one field -/
structure ExC1 (P : Program) (w : World) (K : Frag) (mg : Str → Option Value) (base : Heap) (x : Str) (D : Addr) (f : Str) (C : V → Prop) : Prop where
  gm : mg x = some (.ref D)
  ox : OexC K D
  fi : ∃ fI fd, findIn K (.ref D) "__init__" = some (some (.ref fI)) ∧ typeIn K (.ref fI) = some (.type "function") ∧ Binds K fd ["self", f] [] ∧ FnOk P w K mg base (L2N.CX P w) 1 fI fd ["self", f] (spX1 D f C)
  xf : XfC K D
  nf : findIn K (.ref D) f = some none
section
variable {X : Cx}
theorem passN : Passes (L2N.CX X.prog X.w) X E0 := by
  rintro _ _ _ _ _ _ _ ⟨_, _, _, _, _, _, _, _, _, _, _, _, z⟩
  exact z.elim
/-- an own exception is made where nothing is handled: its context is None -/
theorem pmk_oexN {x : Str} {e : Expr} {es : List Expr} {ta : TA} {p pos : Pos} {D fI : Addr} {k : Nat} {fd : FuncData} {ps : List Str} {sp : Sp} (T : OexC X.K D) (hi : findIn X.K (.ref D) "__init__" = some (some (.ref fI))) (ht : typeIn X.K (.ref fI) = some (.type "function"))
    (FI : FnOk X.prog X.w X.K X.mg X.base (L2N.CX X.prog X.w) k fI fd ps sp) (hr : Room (k + 1) X.A) (hb : Binds X.K fd ps []) (hg : Gl X x) (hm : X.mg x = some (.ref D)) (ha : PA X (e :: es) ta)
    (hdb : (x == ("__debug__" : Str)) = false) (he : starEach (e :: es) X.env = (false, eval e X.env) :: starEach es X.env) (hpl : (backTo pos (starEach es X.env)).any (·.1) = false) :
    L2N.PMk X (.Call (.Name x p) (e :: es) [] pos) (tMkO D sp [] ta) := by
  intro pins s σ H Q I h
  obtain ⟨nm, qn, ns, bs, bm, sn, sub, ab, col, dd, k0, k1, k2, k3, k5, hD, hbm⟩ := T.cls
  refine wpAny_Call_Name_kw (ld_glob I hg hm (callWith_K (h₀ := X.base) I.ok.mod.kin T.kC ?_ he hpl) hdb)
  refine thn (ha.run pos pins s σ H _ I h) ?_
  rintro us ⟨hp, g, dr, tk, os⟩ ⟨vs, H1, I1, r1, hz, q1⟩
  refine ⟨I1.kIn, ?_⟩
  let a : Addr := hp.objs.size + 1
  let hp' := (hp.push (kdv_tup us)).push (HandSPX.excO D hp.objs.size)
  have above : hp.objs.size ≤ a := Nat.le_succ _
  have promise := q1 a (I1.hok.fresh above)
  have old : ∀ b o, hp.get? b = some o → hp'.get? b = some o := by
    intro b o eb
    exact Heap.get?_push_of_some _ (Heap.get?_push_of_some _ eb)
  have new : hp'.get? a = some (HandSPX.excO D hp.objs.size) := by
    show ((hp.push (kdv_tup us)).push (HandSPX.excO D hp.objs.size)).get? (hp.objs.size + 1) = _
    heap_get
  have I2 : Inv X pins σ (upd H1 a (exo a D none)) ⟨hp', g, dr, tk, os⟩ := I1.laid (t' := tk) old above (exo_ok new)
  have rels : Vals (V.ref a :: (vs ++ [])) (Value.ref a :: us) := by
    rw [List.append_nil]
    exact .cons rfl r1
  have lenp : (Value.ref a :: us).length = ps.length := by
    rw [← rels.length]
    exact FI.len _ _ _ _ promise
  have few : us.length ≤ sizeLine := by
    have := Paired.length r1
    rw [sizeLine_eq]
    omega
  have bound := hb _ (Value.ref a :: us) I2.kIn (by rw [List.append_nil]; exact lenp)
  rw [List.append_nil] at bound
  refine wpAny_call (HandSPX.call_own F.excBase_ValueError (fun Y => HandSPX.refsVE_contains Y bm hbm) (I1.kIn _ _ hD) (looks_findIn I1.kIn hi) (fun self => bind_fn I1.kIn self ht) few ?_)
  refine codeAny_mono (FI.run _ X.stack _ _ ⟨Value.ref a :: us, []⟩ (Value.ref a :: us) _ _ (fun _ _ _ => False) (hr.make D us []) (I2.env0.make D us []) bound rels promise) ?_
  intro r s' hq
  match r, hq with
  | .error er, hq =>
    obtain ⟨_, _, _, _, _, _, _, _, _, _, _, _, z⟩ := hq
    exact z.elim
  | .ok .next, hq => exact hq.elim
  | .ok .brk, hq => exact hq.elim
  | .ok .cont, hq => exact hq.elim
  | .ok (.ret u), ⟨v, H2, os2, bare2, un2, hok2, rv, ev, d, fs, ea, ed, hd1, q2⟩ =>
    subst ev
    obtain ⟨h2, g2, d2, t2, os'⟩ := s'
    obtain ⟨t0, G, J, kG, ge, hoe, na⟩ := mk_end0 (d2 := d2) (t2 := t2) I1 above old un2 hok2 os2 bare2 ea ed hd1
    refine ⟨rv, a, _, _, ⟨G, g2, d2, t2, os'⟩, _, .ref D, some d, rfl, J, kG, ge, hoe, ⟨rfl, rfl, ?_⟩, rfl, rfl, na, rfl, bare2, raises_own T.exC T.tyC, q2⟩
    intro ws ew
    cases ew
    rfl
theorem pmk_x1 {x f : Str} {D : Addr} {C : V → Prop} {e : Expr} {ta : TA} {p pos : Pos} (T : ExC1 X.prog X.w X.K X.mg X.base x D f C) (hr : Room 2 X.A) (ha : PA X [e] ta) (hg : Gl X x := by rfl)
    (hdb : (x == ("__debug__" : Str)) = false := by decide) (he : starEach [e] X.env = (false, eval e X.env) :: starEach [] X.env := by rfl) (hpl : (backTo pos (starEach [] X.env)).any (·.1) = false := by rfl) :
    L2N.PMk X (.Call (.Name x p) [e] [] pos) (tMkO D (spX1 D f C) [] ta) := by
  obtain ⟨fI, fd, h1, h2, h3, h4⟩ := T.fi
  exact pmk_oexN T.ox h1 h2 h4 hr h3 hg T.gm ha hdb he hpl
end
def tRaiseX (W : WX) (t : L2.St → Hp → XK → Prop) : TS := fun _ σ H => t σ H fun cls d H' => W cls d σ H'
theorem ps_raiseX {X : Cx} {W : WX} {e : Expr} {t : L2.St → Hp → XK → Prop} {pos : Pos} (hc : X.calm = true) (tk : L2N.Takes X W) (he : L2N.PMk X e t) : PS X (.Raise (some e) none pos) (tRaiseX W t) := L2N.ps_raise hc tk he
section
variable {D : Addr} {f : Str} {C : V → Prop} {ta : TA} {σ : L2.St} {H H1 : Hp} {Q : XK} {v : V}
theorem r_raiseX {W : WX} {t : L2.St → Hp → XK → Prop} {E : Ends} (h : t σ H fun cls d H' => W cls d σ H') : tRaiseX W t E σ H := h
theorem r_mkO {sp : Sp} (h : ta σ H fun vs H1 => vs.length ≤ 1000 ∧ ∀ a, H1 a = none → sp (.ref a :: (vs ++ [])) (upd H1 a (exo a D none))
  (fun v H2 => v = .non ∧ ∃ (d : Addr) (fs : List (Str × V)), H2 a = some (exo a D (some d)) ∧ H2 d = some (exd d fs) ∧ H1 d = none ∧ Q (.ref D) (some d) (upd (del H2 a) d (.xd fs))) (fun _ _ _ => False)) : tMkO D sp [] ta σ H Q := h
theorem r_mkx (hv : C v) (h : ∀ d H', H1 d = none → Same H1 H' → H' d = some (.xd [(f, v)]) → Q (.ref D) (some d) H') : [v].length ≤ 1000 ∧ ∀ a, H1 a = none → spX1 D f C (.ref a :: ([v] ++ [])) (upd H1 a (exo a D none))
  (fun v H2 => v = .non ∧ ∃ (d : Addr) (fs : List (Str × V)), H2 a = some (exo a D (some d)) ∧ H2 d = some (exd d fs) ∧ H1 d = none ∧ Q (.ref D) (some d) (upd (del H2 a) d (.xd fs))) (fun _ _ _ => False) := by
  refine ⟨by show 1 ≤ 1000; decide, fun a ha => ⟨a, v, rfl, hv, upd_same, fun d hd hda => ⟨rfl, d, [(f, v)], upd_same, ?_, ?_, ?_⟩⟩⟩
  · rw [upd_ne hda, upd_same]
  · rw [upd_ne hda] at hd
    exact hd
  · rw [upd_ne hda] at hd
    refine h d _ hd (fun b o hb => ?_) upd_same
    rw [upd_ne (ne_of_none hb hd), del_ne (ne_of_none hb ha), upd_ne (ne_of_none hb ha), upd_ne (ne_of_none hb hd), upd_ne (ne_of_none hb ha)]
    exact hb
end
/-- the built-in names are still those -/
structure Bl (mg : Str → Option Value) : Prop where
  len : mg "len" = none
  str : mg "str" = none
  int : mg "int" = none
  abs : mg "abs" = none
  min : mg "min" = none
  max : mg "max" = none
  range : mg "range" = none
  repr : mg "repr" = none
  isinstance : mg "isinstance" = none
  dict : mg "dict" = none
  list : mg "list" = none
  tuple : mg "tuple" = none
  sorted : mg "sorted" = none
  any : mg "any" = none
  all : mg "all" = none
  sum : mg "sum" = none
  reversed : mg "reversed" = none
  super : mg "super" = none
  bool : mg "bool" = none
/-! ### readings, one lemma a combinator -/
section
variable {σ : L2.St} {H : Hp} {Q : VK} {v x y z : V} {ta tb te tc : TE} {K : Frag} {D : Ends} {t u : TS} {tt tu : TT} {i : Nat}
theorem r_var (h : σ[i]? = some (some v)) (q : Q v H) : tVar i σ H Q := ⟨v, h, q⟩
theorem r_c (q : Q v H) : tC v σ H Q := q
theorem r_op {r : R2} (h : ta σ H fun x H1 => tb σ H1 fun y H2 => r x y H2 Q) : tOp r ta tb σ H Q := h
theorem r_un {r : V → Hp → VK → Prop} (h : ta σ H fun x H1 => r x H1 Q) : tUn r ta σ H Q := h
theorem r_I0 {g : Int → Int → V} {a b : Int} (q : Q (g a b) H) : rI0 g (.int a) (.int b) H Q := ⟨a, b, rfl, rfl, q⟩
theorem r_I {C : Int → Int → Prop} {g : Int → Int → V} {a b : Int} (c : C a b) (q : Q (g a b) H) : rI C g (.int a) (.int b) H Q := ⟨a, b, rfl, rfl, c, q⟩
theorem r_U {g : Int → V} {a : Int} (q : Q (g a) H) : rU g (.int a) H Q := ⟨a, rfl, q⟩
theorem r_eqI {a b : Int} (q : Q (.bl (decide (a = b))) H) : rEq (.int a) (.int b) H Q := ⟨rfl, by
  have e : decide (V.int a = V.int b) = decide (a = b) := by simp
  rw [e]; exact q⟩
theorem r_neI {a b : Int} (q : Q (.bl (!decide (a = b))) H) : rNe (.int a) (.int b) H Q := ⟨rfl, by
  have e : decide (V.int a = V.int b) = decide (a = b) := by simp
  rw [e]; exact q⟩
theorem r_eqS {a b : Str} (q : Q (.bl (decide (a = b))) H) : rEq (.str a) (.str b) H Q := ⟨rfl, by
  have e : decide (V.str a = V.str b) = decide (a = b) := by simp
  rw [e]; exact q⟩
theorem r_neS {a b : Str} (q : Q (.bl (!decide (a = b))) H) : rNe (.str a) (.str b) H Q := ⟨rfl, by
  have e : decide (V.str a = V.str b) = decide (a = b) := by simp
  rw [e]; exact q⟩
theorem r_eqB {a b : Bool} (q : Q (.bl (decide (a = b))) H) : rEq (.bl a) (.bl b) H Q := ⟨rfl, by
  have e : decide (V.bl a = V.bl b) = decide (a = b) := by simp
  rw [e]; exact q⟩
theorem r_neB {a b : Bool} (q : Q (.bl (!decide (a = b))) H) : rNe (.bl a) (.bl b) H Q := ⟨rfl, by
  have e : decide (V.bl a = V.bl b) = decide (a = b) := by simp
  rw [e]; exact q⟩
theorem r_chain {r r' : R2} (h : ta σ H fun x H1 => tb σ H1 fun y H2 => r x y H2 fun z H3 => ∃ k, z = .bl k ∧ if k = true then tc σ H3 (fun w H4 => r' y w H4 Q) else Q (.bl false) H3) : tChain r r' ta tb tc σ H Q := h
theorem r_test {Q : Bool → Hp → Prop} (h : te σ H fun x H' => ∃ k, x = .bl k ∧ Q k H') : tTest te σ H Q := h
theorem r_B {Q : Bool → Hp → Prop} (h : te σ H fun x H1 => ∃ c, x = .bl c ∧ Q c H1) : tB te σ H Q := h
theorem r_bl {b : Bool} {P : Bool → Prop} (q : P b) : ∃ k, V.bl b = .bl k ∧ P k := ⟨b, rfl, q⟩
theorem r_and {Q : Bool → Hp → Prop} (h : tt σ H fun c H1 => if c = true then tu σ H1 Q else Q false H1) : tAnd tt tu σ H Q := h
theorem r_or {Q : Bool → Hp → Prop} (h : tt σ H fun c H1 => if c = true then Q true H1 else tu σ H1 Q) : tOr tt tu σ H Q := h
theorem r_not {Q : Bool → Hp → Prop} (h : tt σ H fun c H1 => Q (!c) H1) : tNot tt σ H Q := h
theorem r_andV (h : ta σ H fun x H1 => ∃ c, x = .bl c ∧ if c = true then tb σ H1 Q else Q (.bl false) H1) : tAndV ta tb σ H Q := h
theorem r_orV (h : ta σ H fun x H1 => ∃ c, x = .bl c ∧ if c = true then Q (.bl true) H1 else tb σ H1 Q) : tOrV ta tb σ H Q := h
theorem r_notV (h : ta σ H fun x H1 => ∃ c, x = .bl c ∧ Q (.bl (!c)) H1) : tNotV ta σ H Q := h
theorem r_if (h : tt σ H fun c H1 => if c = true then ta σ H1 Q else tb σ H1 Q) : tIf tt ta tb σ H Q := h
theorem r_nil {Q : List V → Hp → Prop} (q : Q [] H) : tNil σ H Q := q
theorem r_cons {tr : TA} {Q : List V → Hp → Prop} (h : ta σ H fun x H1 => tr σ H1 fun xs H2 => Q (x :: xs) H2) : tCons ta tr σ H Q := h
theorem r_cb {r : List V → Hp → VK → Prop} {tr : TA} (h : tr σ H fun vs H1 => r vs H1 Q) : tCB r tr σ H Q := h
theorem r_call {sp : Sp} {E : XK} {tr : TA} (h : tr σ H fun vs H1 => sp (vs ++ []) H1 Q E) : tCall sp [] E tr σ H Q := h
theorem r_callS {sp : Sp} {E : L2.St → XK} {tr : TA} (h : tr σ H fun vs H1 => sp vs H1 Q (E σ)) : tCallS sp E tr σ H Q := h
theorem r_tup {tr : TA} (h : tr σ H fun xs H1 => xs.length ≤ sizeLine ∧ ∀ p, H1 p = none → Q (.ref p) (upd H1 p (.tup xs))) : tTup tr σ H Q := h
theorem r_lst {tr : TA} (h : tr σ H fun xs H1 => xs.length ≤ sizeLine ∧ ∀ p, H1 p = none → Q (.ref p) (upd H1 p (.lst xs))) : tLst tr σ H Q := h
theorem r_seq (h : t { D with nx := u D } σ H) : tSeq t u D σ H := h
theorem r_next (h : D.nx σ H) : tNext D σ H := h
theorem r_asg {g : TG} (h : te σ H fun x H1 => g x σ H1 D.nx) : tAsg te g D σ H := h
theorem r_name {q : L2.St → Hp → Prop} (h : q (σ.set i (some v)) H) : gName i v σ H q := h
theorem r_ifS (h : tt σ H fun b H1 => if b = true then t D σ H1 else u D σ H1) : tIfS tt t u D σ H := h
theorem r_ret (h : te σ H D.rt) : tRet te D σ H := h
theorem r_retN (h : D.rt .non H) : tRetN D σ H := h
theorem r_drop (h : te σ H fun _ H1 => D.nx σ H1) : tDrop te D σ H := h
theorem r_brk (h : D.bk σ H) : tBreak D σ H := h
theorem r_ct (h : D.ct σ H) : tCont D σ H := h
theorem r_sl {r : V → Option Int → Option Int → Hp → VK → Prop} {tl th : TO} (h : te σ H fun x H1 => tl σ H1 fun l H2 => th σ H2 fun u H3 => r x l u H3 Q) : tSl r te tl th σ H Q := h
theorem r_part {Q : Option Int → Hp → Prop} (h : te σ H fun x H1 => ∃ i, x = .int i ∧ Q (some i) H1) : tPart te σ H Q := h
theorem r_nopart {Q : Option Int → Hp → Prop} (h : Q none H) : tNoPart σ H Q := h
theorem r_int {a : Int} {P : Int → Prop} (q : P a) : ∃ k, V.int a = .int k ∧ P k := ⟨a, rfl, q⟩
theorem r_slS {z : Str} {lo hi : Option Int} (hz : z.length ≤ sizeLine) (q : Q (.str (cutS z lo hi)) H) : rSlS (.str z) lo hi H Q := ⟨z, rfl, hz, q⟩
theorem r_bm {T : String} {r : V → List V → Hp → VK → Prop} {tr : TA} (h : te σ H fun x H1 => tyV K T x H1 ∧ tr σ H1 fun xs H2 => r x xs H2 Q) : tBM K T r te tr σ H Q := h
theorem r_bm0 {T : String} {r : V → List V → Hp → VK → Prop} (h : te σ H fun x H1 => tyV K T x H1 ∧ r x [] H1 Q) : tBM0 K T r te σ H Q := h
theorem r_ite {b : Bool} {A B : Prop} (h1 : b = true → A) (h2 : b = false → B) : if b = true then A else B := by
  cases b with
  | true => exact h1 rfl
  | false => exact h2 rfl
end
section
variable {H : Hp} {Q : VK}
theorem r_ch {z : Str} {n c : Nat} {R : Nat → Prop} (hc : z.cps.toList[n]? = some c) (hz : z.length ≤ 1000000) (q : R c) :
    ∃ z' i c, V.str z = .str z' ∧ V.int (n : Int) = .int i ∧ 0 ≤ i ∧ i < 2 ^ 63 ∧ i < z'.length ∧ z'.cps[i.toNat]? = some c ∧ R c := by
  have h1 : n < z.cps.toList.length := (List.getElem?_eq_some_iff.mp hc).1
  rw [Array.length_toList] at h1
  have h2 : z.cps.size ≤ 1000000 := hz
  refine ⟨z, n, c, rfl, rfl, by omega, by omega, ?_, ?_, q⟩
  · show (n : Int) < (z.cps.size : Int)
    omega
  · rw [Int.toNat_natCast, ← Array.getElem?_toList]
    exact hc
theorem r_si {P : Str → Int → Prop} {a : Str} {i : Int} (q : P a i) : ∃ x y, V.str a = .str x ∧ V.int i = .int y ∧ P x y := ⟨a, i, rfl, rfl, q⟩
end
theorem r_int1 {R : Int → Prop} {S : Bool → Prop} {a : Int} (q : R a) : (∃ i, [V.int a] = [.int i] ∧ R i) ∨ (∃ k, [V.int a] = [.bl k] ∧ S k) := .inl ⟨a, rfl, q⟩
theorem r_int1b {R : Int → Prop} {S : Bool → Prop} {b : Bool} (q : S b) : (∃ i, [V.bl b] = [.int i] ∧ R i) ∨ (∃ k, [V.bl b] = [.bl k] ∧ S k) := .inr ⟨b, rfl, q⟩
theorem r_mod {g : Int → Int → V} {C : Int → Int → Prop} {a b : Int} {H : Hp} {Q : VK} (c : C a b) (q : Q (g a b) H) : rI C g (.int a) (.int b) H Q := ⟨a, b, rfl, rfl, c, q⟩
theorem r_ixL {K : Frag} {H : Hp} {p : Addr} {xs : List V} {n : Nat} {v : V} {Q : VK} (h : SqL K H p xs) (hv : xs[n]? = some v) (q : Q v H) : rIxL K (.ref p) (.int (n : Int)) H Q := ⟨p, xs, n, v, rfl, rfl, h, atI_nat hv, q⟩
theorem r_ixT {K : Frag} {H : Hp} {p : Addr} {xs : List V} {n : Nat} {v : V} {Q : VK} (h : SqT K H p xs) (hv : xs[n]? = some v) (q : Q v H) : rIxT K (.ref p) (.int (n : Int)) H Q := ⟨p, xs, n, v, rfl, rfl, h, atI_nat hv, q⟩
theorem r_isT {K : Frag} {H : Hp} {p : Addr} {xs : List V} {x : V} {Q : VK} (h : SqT K H p xs) (hx : flatV x = true) (hf : xs.all flatV = true) (q : Q (.bl (inV x xs)) H) : rIn K false x (.ref p) H Q := ⟨p, xs, rfl, .inr h, hx, hf, q⟩
theorem r_mulS {z : Str} {n : Nat} {H : Hp} {Q : VK} (h1 : n ≤ 1000000) (h2 : z.length * n ≤ 1000000) (q : Q (.str (timesS z n)) H) : rMulS (.str z) (.int (n : Int)) H Q := ⟨z, n, rfl, rfl, h1, h2, q⟩
theorem hotC_of {X : Cx} {a : Addr} {oe : Obj} {cls : Value} {d : Option Addr} {pn : List (Addr × Obj)} (hz : L2N.Zn cls d oe) (hf : ∃ vs, oe.data = .fields vs) : L2H.HotC (X.suite a ((a, oe) :: pn)) := by
  obtain ⟨vs, e⟩ := hf
  exact ⟨(a, oe), ⟨rfl, vs, e, hz.2.2 vs e⟩, List.mem_cons_self⟩
/-- a def that is called while an exception is handled -/
structure CalH (P : Program) (w : World) (K : Frag) (mg : Str → Option Value) (base : Heap) (k : Nat) (x : Str) (ps : List Str) (sp : Sp) : Prop where
  ex : ∃ f fd, mg x = some (.ref f) ∧ keepIn K (.ref f) = true ∧ Binds K fd ps [] ∧ L2H.FnH P w K mg base (L2N.CX P w) k f fd ps sp
theorem calH_mk {P : Program} {w : World} {K : Frag} {mg : Str → Option Value} {base : Heap} {k : Nat} {x : Str} {st : Stmt} {N ps : List Str} {sp : Sp} (dx : DefAt K mg x st) (S : FnScope N ps (defScope st))
    (hb : ∀ (kV doc pm : Value) (an : Option Addr) (cdv ct : Value) (us : List Value), us.length = ps.length → bindArgs (fnOf x x (defArgs st) (defBody st) (defScope st) .none kV doc pm an cdv ct) ⟨us, []⟩ = pure (ps.zip us))
    (len : ∀ vs H Q E, sp vs H Q E → vs.length = ps.length)
    (hbody : ∀ (f : Addr) (cdv : Value) (A : Around) (outer : List Env) (s : Shared) (H : Hp) (vs : List V) (Q : VK) (E : XK) (p : Addr × Obj), L2H.Hot1 A p → L2H.RoomH k (A.deeper (envOfC x (defScope st) s.heap.objs.size f cdv)) → sp vs H Q E →
      ∃ t, PSs (L2H.cxH (L2N.CX P w) P w K mg base N x (defScope st) f cdv A outer s H E p) (defBody st) t ∧ t { nx := fun _ H' => Q .non H', rt := Q } (start N vs) H) : CalH P w K mg base (k + 1) x ps sp := by
  obtain ⟨f, fd, hm, FD⟩ := dx.ex
  have hbn := FD.bindsN hb
  have hkp := FD.kp
  obtain ⟨oc, od, dV, kV, doc, pm, an, cdv, ct, osl, rfl, lk, hcd, _, _⟩ := FD.ex
  exact ⟨f, _, hm, hkp, hbn, L2H.fn_ofH lk hcd S len fun A outer s H vs Q E p hot hr hsp => hbody f cdv A outer s H vs Q E p hot hr hsp⟩
section
variable {X : Cx}
theorem pe_calH {x : Str} {p pos : Pos} {k : Nat} {ps : List Str} {sp : Sp} {e : Expr} {es : List Expr} {ta : TA} (G : CalH X.prog X.w X.K X.mg X.base k x ps sp) (hr : L2H.RoomH k X.A) (hc : L2H.HotC X) (ha : PA X (e :: es) ta) (hg : Gl X x := by rfl)
    (hdb : (x == ("__debug__" : Str)) = false := by decide) (he : starEach (e :: es) X.env = (false, eval e X.env) :: starEach es X.env := by rfl) (hpl : (backTo pos (starEach es X.env)).any (·.1) = false := by rfl) :
    PE X (.Call (.Name x p) (e :: es) [] pos) (tCallS sp (fun _ => E0) ta) := by
  obtain ⟨f, fd, hm, hk, hb, FH⟩ := G.ex
  refine L2H.pe_callH FH hr hc hg hm hk hb (fun σ => ?_) ha hdb he hpl
  rintro _ _ _ _ _ _ ⟨_, _, _, _, _, _, _, _, _, _, _, _, z⟩
  exact z.elim
end
theorem r_sz {a : Nat} {B : Prop} (h : a ≤ 1000000) (q : B) : a ≤ sizeLine ∧ B := ⟨Nat.le_trans h (by decide), q⟩
/-! ### data of tuples, texts, numbers: never changed -/
mutual
inductive Tp (H : Hp) : V → PyData → Prop
  | non : Tp H .non .none
  | bl (b : Bool) : Tp H (.bl b) (.bool b)
  | int (i : Int) : Tp H (.int i) (.int i)
  | str (x : Str) : Tp H (.str x) (.str x)
  | tup {a : Addr} {xs : List V} {ds : List PyData} : H a = some (.tup xs) → TpAll H xs ds → Tp H (.ref a) (.tuple ds)
inductive TpAll (H : Hp) : List V → List PyData → Prop
  | nil : TpAll H [] []
  | cons {v : V} {vs : List V} {d : PyData} {ds : List PyData} : Tp H v d → TpAll H vs ds → TpAll H (v :: vs) (d :: ds)
end
def Keep (H H' : Hp) : Prop := ∀ a xs, H a = some (.tup xs) → H' a = some (.tup xs)
theorem Same.keep {H H' : Hp} (h : Same H H') : Keep H H' := fun a xs e => h a _ e
theorem Keep.trans {H H1 H2 : Hp} (a : Keep H H1) (b : Keep H1 H2) : Keep H H2 := fun x xs e => b x xs (a x xs e)
theorem Keep.refl (H : Hp) : Keep H H := fun _ _ e => e
theorem Keep.new {H : Hp} {p : Addr} {o : HO} (h : H p = none) : Keep H (upd H p o) := fun a xs e => by
  rw [upd_ne (ne_of_none e h)]; exact e
theorem Keep.mut {H : Hp} {p : Addr} {o u : HO} (h : H p = some u) (hu : ∀ xs, u ≠ .tup xs) : Keep H (upd H p o) := fun a xs e => by
  rw [upd_ne (ne_of e h (Ne.symm (hu xs)))]; exact e
theorem Same.new {H : Hp} {p : Addr} {o : HO} (h : H p = none) : Same H (upd H p o) := fun a u e => by
  rw [upd_ne (ne_of_none e h)]; exact e
theorem Same.mut {H H' : Hp} {p : Addr} {o : HO} (s : Same H H') (h : H p = none) : Same H (upd H' p o) := fun a u e => by
  rw [upd_ne (ne_of_none e h)]; exact s a u e
mutual
theorem Tp.keep {H H' : Hp} (k : Keep H H') : ∀ {v : V} {d : PyData}, Tp H v d → Tp H' v d
  | _, _, .non => .non
  | _, _, .bl b => .bl b
  | _, _, .int i => .int i
  | _, _, .str x => .str x
  | _, _, .tup h t => .tup (k _ _ h) (TpAll.keep k t)
theorem TpAll.keep {H H' : Hp} (k : Keep H H') : ∀ {vs : List V} {ds : List PyData}, TpAll H vs ds → TpAll H' vs ds
  | _, _, .nil => .nil
  | _, _, .cons h t => .cons (Tp.keep k h) (TpAll.keep k t)
end
mutual
theorem Tp.dp {K : Frag} {H : Hp} : ∀ {v : V} {d : PyData}, Tp H v d → Dp K H v d
  | _, _, .non => .non
  | _, _, .bl b => .bl b
  | _, _, .int i => .int i
  | _, _, .str x => .str x
  | _, _, .tup h t => .tup (SqT.of h) (TpAll.dp t)
theorem TpAll.dp {K : Frag} {H : Hp} : ∀ {vs : List V} {ds : List PyData}, TpAll H vs ds → DpAll K H vs ds
  | _, _, .nil => .nil
  | _, _, .cons h t => .cons (Tp.dp h) (TpAll.dp t)
end
theorem TpAll.app {H : Hp} : ∀ {vs us : List V} {ds es : List PyData}, TpAll H vs ds → TpAll H us es → TpAll H (vs ++ us) (ds ++ es)
  | _, _, _, _, .nil, h => h
  | _, _, _, _, .cons a b, h => .cons a (TpAll.app b h)
theorem TpAll.len {H : Hp} : ∀ {vs : List V} {ds : List PyData}, TpAll H vs ds → vs.length = ds.length
  | _, _, .nil => rfl
  | _, _, .cons _ b => congrArg (· + 1) (TpAll.len b)
theorem TpAll.get {H : Hp} : ∀ {vs : List V} {ds : List PyData} {i : Nat} {d : PyData}, TpAll H vs ds → ds[i]? = some d → ∃ v, vs[i]? = some v ∧ Tp H v d
  | _, _, _, _, .nil, h => by simp at h
  | _, _, 0, _, .cons a _, h => by
    simp at h; subst h; exact ⟨_, rfl, a⟩
  | _, _, i + 1, _, .cons _ b, h => by
    obtain ⟨v, h1, h2⟩ := TpAll.get (i := i) b (by simpa using h)
    exact ⟨v, by simpa using h1, h2⟩
end Al
namespace Al
open PySem PySem.Spec PyProof.Rows L2 NdefX PySem.W
/-! ### own exceptions whose __init__ says super().__init__: facts read off the head -/
def oexB (K : Frag) (C : Addr) : Bool := (match K.lookup C with
  | some ⟨.type t, _, .cls cd, sl⟩ => decide (t = "type") && (match cd.mro, sl.toList with
    | .ref C' :: bm, [_, _, _, _, some (.builtin n), _] => decide (C' = C) && (decide (n = "ValueError.__new__") && (!cd.hasDel && (cd.hasDict && HandSPX.refsVE bm)))
    | _, _ => false)
  | _ => false) && (decide (findIn K (.ref C) "__setattr__" = some (some (.builtin "object.__setattr__"))) && (decide (subIn K (.ref C) (.type "BaseException") = some true) &&
    (decide (typeIn K (.ref C) = some (.type "type")) && keepIn K (.ref C))))
theorem oexB_ok {K : Frag} {C : Addr} (h : oexB K C = true) : OexC K C := by
  obtain ⟨h0, h⟩ := He.ba h
  obtain ⟨h1, h⟩ := He.ba h
  obtain ⟨h2, h⟩ := He.ba h
  obtain ⟨h3, h4⟩ := He.ba h
  refine ⟨?_, of_decide_eq_true h1, of_decide_eq_true h2, of_decide_eq_true h3, h4⟩
  split at h0
  · rename_i t dd cd sl ho
    obtain ⟨ht, h0⟩ := He.ba h0
    split at h0
    · rename_i C' bm k0 k1 k2 k3 n k5 hm hs
      obtain ⟨e1, h0⟩ := He.ba h0
      obtain ⟨e2, h0⟩ := He.ba h0
      obtain ⟨e3, h0⟩ := He.ba h0
      obtain ⟨e4, e5⟩ := He.ba h0
      have e1 := of_decide_eq_true e1
      have e2 := of_decide_eq_true e2
      have ht := of_decide_eq_true ht
      obtain ⟨nm, bs, mro, ns, qn, hd, sn, sub, ab, col, del⟩ := cd
      have e3' : del = false := by
        cases del with
        | false => rfl
        | true => cases e3
      dsimp only at hm e4
      subst hm e1 e2 ht e4 e3'
      have hsl : sl = #[k0, k1, k2, k3, some (.builtin "ValueError.__new__"), k5] := by
        obtain ⟨l⟩ := sl
        simp only at hs
        rw [hs]
      subst hsl
      exact ⟨nm, qn, ns, bs, bm, sn, sub, ab, col, dd, k0, k1, k2, k3, k5, ho, e5⟩
    · cases h0
  · cases h0
/-- one such class: its name, its __init__'s qualified name, its def -/
structure ExD where
  x : Str
  qual : Str
  st : Stmt
  fs : List Str
abbrev ExO : Type := Option (Str × Str × Arguments × FuncBody × Scope × Addr × Addr)
def ExD.val (d : ExD) : ExO := some ("__init__", d.qual, defArgs d.st, .stmts (defBody d.st), defScope d.st, mainGlobals, builtinsNs)
def exI (K : Frag) (d : ExD) : Addr := He.ma K (He.ga K d.x) "__init__"
def exObs (K : Frag) (d : ExD) : ExO := match K.lookup (exI K d) with
  | some ⟨_, _, .func fd, _⟩ => some (fd.name, fd.qualname, fd.params, fd.body, fd.scope, fd.globals, fd.builtins)
  | _ => none
def cellB (K : Frag) (cc D : Addr) : Bool := match K.lookup cc with
  | some ⟨_, _, .cell (some (.ref c)), _⟩ => decide (c = D)
  | _ => false
def codeB (K : Frag) (file : Str) (cda : Addr) : Bool := match K.lookup cda with
  | some ⟨_, _, .fields vs, _⟩ => (match (vs[2]? : Option Value) with
    | some (.str z _) => file == z
    | _ => false)
  | _ => false
def exFnB (K : Frag) (file : Str) (d : ExD) : Bool := match K.lookup (exI K d) with
  | some ⟨_, _, .func fd, _⟩ => (match fd.closure, fd.code, fd.defaults with
    | [(n, cc)], .ref cda, .none => decide (n = "__class__") && (cellB K cc (He.ga K d.x) && (codeB K file cda && codeIn K (.ref cda) d.qual))
    | _, _, _ => false)
  | _ => false
def exB (file : Str) (K : Frag) (d : ExD) : Bool := exFnB K file d && (oexB K (He.ga K d.x) && (xfB K (He.ga K d.x) && (He.eqO (nsIn K mainGlobals d.x) (some (some (.ref (He.ga K d.x)))) &&
  (He.eqO (findIn K (.ref (He.ga K d.x)) "__init__") (some (some (.ref (exI K d)))) && (decide (typeIn K (.ref (exI K d)) = some (.type "function")) &&
  (d.fs.all (fun f => He.eqO (findIn K (.ref (He.ga K d.x)) f) (some none)) && ((clsIn K (He.ga K d.x)).isSome && (decide (mroIn K (He.ga K d.x) (.ref (He.ga K d.x)) = some true) &&
  (He.eqO (ks_superIn K (He.ga K d.x) (He.ga K d.x) "__init__") (some (some (.builtin "ValueError.__init__"))) && (decide (subIn K (.ref (He.ga K d.x)) (.type "ValueError") = some true) && He.eqO (nsIn K cStatics "thirdparty.any") (some none)))))))))))
structure ExF (P : Program) (K : Frag) (mg : Str → Option Value) (d : ExD) : Prop where
  fn : ∃ oc od osl kV doc pm an cda ct cc, K.lookup (exI K d) = some ⟨oc, od, .func (ksFn "__init__" d.qual (defArgs d.st) (defBody d.st) (defScope d.st) .none kV doc pm an (.ref cda) ct cc), osl⟩ ∧ codeIn K (.ref cda) d.qual = true ∧ SupC K mg (He.ga K d.x) cda cc P
  gm : mg d.x = some (.ref (He.ga K d.x))
  fi : findIn K (.ref (He.ga K d.x)) "__init__" = some (some (.ref (exI K d)))
  ty : typeIn K (.ref (exI K d)) = some (.type "function")
  xf : XfC K (He.ga K d.x)
  nf : ∀ f ∈ d.fs, findIn K (.ref (He.ga K d.x)) f = some none
theorem exF_of {P : Program} {K : Frag} {h : Heap} {mg : Str → Option Value} {d : ExD} (X : K.In h) (G : h.Ns mainGlobals mg) (hs : mg "super" = none) (ht : (P.main.scope.names.lookup ("super" : Str)).isSome = false)
    (e : exObs K d = d.val) (c : exB P.main.file K d = true) : ExF P K mg d := by
  obtain ⟨c1, c⟩ := He.ba c
  obtain ⟨c2, c⟩ := He.ba c
  obtain ⟨c3, c⟩ := He.ba c
  obtain ⟨c4, c⟩ := He.ba c
  obtain ⟨c5, c⟩ := He.ba c
  obtain ⟨c6, c⟩ := He.ba c
  obtain ⟨c7, c⟩ := He.ba c
  obtain ⟨c8, c⟩ := He.ba c
  obtain ⟨c9, c⟩ := He.ba c
  obtain ⟨c10, c⟩ := He.ba c
  obtain ⟨c11, c12⟩ := He.ba c
  refine ⟨?_, mg_of X G (He.eqO_ok c4), He.eqO_ok c5, of_decide_eq_true c6, xfB_ok c3, fun f hf => He.eqO_ok (List.all_eq_true.mp c7 f hf)⟩
  unfold exFnB at c1
  unfold exObs at e
  cases q : K.lookup (exI K d) with
  | none =>
    rw [q] at e
    cases e
  | some o =>
    obtain ⟨oc, od, dt, osl⟩ := o
    rw [q] at e c1
    cases dt with
    | func fd =>
      obtain ⟨n1, n2, n3, n4, n5, n6, n7, n8, n9, n10, n11, n12, n13, n14, n15⟩ := fd
      have e2 : (some (n1, n2, n3, n4, n5, n6, n15) : ExO) = some (("__init__" : Str), d.qual, defArgs d.st, .stmts (defBody d.st), defScope d.st, mainGlobals, builtinsNs) := e
      simp only [Option.some.injEq, Prod.mk.injEq] at e2
      obtain ⟨h1, h2, h3, h4, h5, h6, h7⟩ := e2
      subst h1 h2 h3 h4 h5 h6 h7
      have c1' : (match (generalizing := false) n7, n13, n8 with
        | [(n, cc)], .ref cda, .none => decide (n = "__class__") && (cellB K cc (He.ga K d.x) && (codeB K P.main.file cda && codeIn K (.ref cda) d.qual))
        | _, _, _ => false) = true := c1
      split at c1'
      · rename_i n cc cda
        obtain ⟨u1, c1'⟩ := He.ba c1'
        obtain ⟨u2, c1'⟩ := He.ba c1'
        obtain ⟨u3, u4⟩ := He.ba c1'
        have u1 := of_decide_eq_true u1
        subst u1
        refine ⟨oc, od, osl, n9, n10, n11, n12, cda, n14, cc, rfl, u4, oexB_ok c2, ?_, of_decide_eq_true c9, He.eqO_ok c10, of_decide_eq_true c11, hs, He.eqO_ok c12, ?_, ?_, ht⟩
        · exact Option.isSome_iff_exists.mp c8
        · unfold cellB at u2
          split at u2
          · rename_i cl cld D' csl hq
            rw [← of_decide_eq_true u2]
            exact ⟨_, _, _, hq⟩
          · cases u2
        · unfold codeB at u3
          split at u3
          · rename_i ccl cdd vs ccs hq
            split at u3
            · rename_i z tf hz
              exact ⟨_, _, _, _, _, _, hq, hz, u3⟩
            · cases u3
          · cases u3
      · cases c1'
    | _ => cases c1
/-! ### the Hook -/
abbrev AlE : Type := He.AlD × List ExO × Bool
def obsK (fa : List He.Fa) (fn : List He.DefD) (exs : List ExD) (ex : Frag → Bool) (K : Frag) : AlE := (He.obsD fa fn K, exs.map (exObs K), ex K)
def valK (fn : List He.DefD) (exs : List ExD) : AlE := (He.valD fn, exs.map ExD.val, true)
def frE (g : Addr → Option Obj) (n : Nat) : Frag := He.frG g (cStatics :: He.asD g n)
structure SaysE (fa : List He.Fa) (fn : List He.DefD) (exs : List ExD) (ex : Frag → Bool) (K : Frag) : Prop where
  d : He.SaysD fa fn K
  o : exs.map (exObs K) = exs.map ExD.val
  b : ex K = true
def hookE (n : Nat) (fa : List He.Fa) (fn : List He.DefD) (exs : List ExD) (ex : Frag → Bool) : Hook where
  α := AlE
  obs := fun s => obsK fa fn exs ex (frE s.heap.get? n)
  val := fun _ => valK fn exs
  says := fun _ h => ∃ K : Frag, K.In h ∧ SaysE fa fn exs ex K
  of := fun _ _ e => ⟨_, He.frG_in, congrArg (fun z : AlE => z.1) e, congrArg (fun z : AlE => z.2.1) e, congrArg (fun z : AlE => z.2.2) e⟩
  keeps := fun _ _ _ ⟨K, hK, c⟩ k => ⟨K, Frag.In.keeps hK k, c⟩
theorem obsK_eq {n : Nat} {fa : List He.Fa} {fn : List He.DefD} {exs : List ExD} {ex : Frag → Bool} {g : Addr → Option Obj} {s : Shared} (h : ∀ a, g a = s.heap.get? a) : obsK fa fn exs ex (frE g n) = (hookE n fa fn exs ex).obs s := by
  have e : g = s.heap.get? := funext h
  rw [e] <;> rfl
theorem SaysE.exo {fa : List He.Fa} {fn : List He.DefD} {exs : List ExD} {ex : Frag → Bool} {K : Frag} (c : SaysE fa fn exs ex K) (i : Nat) {d : ExD} (h : exs[i]? = some d := by rfl) : exObs K d = d.val := by
  have e2 : (exs.map (exObs K))[i]? = (exs.map ExD.val)[i]? := by rw [c.o]
  rw [List.getElem?_map, List.getElem?_map, h] at e2
  exact Option.some.inj e2
/-- a def as the head tells it -/
def dfn (x : Str) (st : Stmt) : He.DefD := ⟨(x, none), x, x, defArgs st, defBody st, defScope st, [], []⟩
theorem defAt_of {fa : List He.Fa} {fn : List He.DefD} {K : Frag} {h : Heap} {mg : Str → Option Value} (X : K.In h) (G : h.Ns mainGlobals mg) (c : He.SaysD fa fn K) (i j : Nat) {x : Str} {st : Stmt} (hd : fn[i]? = some (dfn x st) := by rfl) (hf : fa[j]? = some (.glo x) := by rfl) :
    DefAt K mg x st := by
  obtain ⟨fd, F⟩ := c.def_ i hd
  exact ⟨_, fd, He.glo_ok X G (c.fact j hf), F⟩
/-- the end of a law over a head by facts -/
theorem walk_W {l : OpenLaw} {n : Nat} {q : Program} {loose : List Str} {XP : (Str → Option Value) → Heap → Prop} {YP : World → Heap → Prop} {d : DefRec} {CX : World → CXT} {x : Str}
    (hn : l.most = some n) (hn2 : n ≤ sizeLine) (hdf : d.params.defaults = [])
    (F : ∀ (w : World) (mg : Str → Option Value) (fa : Addr) (h : Heap), YP w h → h.Ns mainGlobals mg → mg d.name = some (.ref fa) →
      ∃ (K : Frag) (fd : FuncData) (sp : Sp), K.In h ∧ (∀ (s : Shared) (u : Value), BindsTo s fd ⟨[u], []⟩ [(x, u)]) ∧
        (∀ (H : Hp) (a : Addr) (ns : List Int), ns.length ≤ n → Only H → SqL K H a (ns.map V.int) → sp [.ref a] H (fun v _ => v = .bl true) fun _ _ _ => False) ∧
        ∀ base : Heap, K.In base → base.Ns mainGlobals mg → FnC l.prog w K mg base (CX w) fa fd [x] sp)
    (noexc : ∀ (w : World) (H : Hp) (s : Shared) (e : Value) (s' : Shared), CX w [] H s (fun _ _ _ => False) e s' → False) :
    WalkO q loose XP YP l.row.toRowW d [] (fun f vs => PySem.call f vs) := by
  refine Att.attach_call hn hdf ?_
  intro w s₀ s₁ mg mb fa o pm cd doc a vs ns G Y ho hd hcd hmg hobj hints hlen hg
  obtain ⟨K, fd, sp, KX, hb, hsp, hF⟩ := F w mg fa _ Y G.T.g hmg
  exact law_callC KX G.T.g G.T.b G.T.builtins G.T.nolimit hg hobj hints (Nat.le_trans hlen hn2) hF hb (fun H o s => hsp H a ns hlen o s) (fun H e s' => noexc w H s₁ e s')
end Al
namespace Al
open PySem PySem.Spec PyProof.Rows L2 NdefX PySem.W
/-! ### methods and classes by name, over the layer with exceptions -/
structure MetX (P : Program) (w : World) (K : Frag) (mg : Str → Option Value) (base : Heap) (k : Nat) (C : Addr) (m : Str) (ps : List Str) (sp : Sp) : Prop where
  ex : ∃ (f : Addr) (fd : FuncData), Cls K C ∧ Meth K C m f ∧ Binds K fd ps [] ∧ FnOk P w K mg base (L2N.CX P w) k f fd ps sp
structure MakX (P : Program) (w : World) (K : Frag) (mg : Str → Option Value) (base : Heap) (k : Nat) (x : Str) (C : Addr) (ps : List Str) (sp : Sp) : Prop where
  ex : ∃ (f : Addr) (fd : FuncData), mg x = some (.ref C) ∧ Mk K C f ∧ Binds K fd ps [] ∧ FnOk P w K mg base (L2N.CX P w) k f fd ps sp
/-- where a method's def stands -/
structure MetAt (K : Frag) (C : Addr) (m q : Str) (st : Stmt) : Prop where
  ex : ∃ f fd, Cls K C ∧ Meth K C m f ∧ FunD K m q (defArgs st) (defBody st) (defScope st) [] [] f fd
structure MakAt (K : Frag) (mg : Str → Option Value) (x q : Str) (C : Addr) (st : Stmt) : Prop where
  ex : ∃ f fd, mg x = some (.ref C) ∧ Mk K C f ∧ FunD K "__init__" q (defArgs st) (defBody st) (defScope st) [] [] f fd
section
variable {P : Program} {w : World} {K : Frag} {mg : Str → Option Value} {base : Heap} {k : Nat} {x m q : Str} {C : Addr} {st : Stmt} {N ps : List Str} {sp : Sp}
theorem met_mk (dx : MetAt K C m q st) (S : FnScope N ps (defScope st))
    (hb : ∀ (kV doc pm : Value) (an : Option Addr) (cdv ct : Value) (us : List Value), us.length = ps.length → bindArgs (fnOf m q (defArgs st) (defBody st) (defScope st) .none kV doc pm an cdv ct) ⟨us, []⟩ = pure (ps.zip us))
    (len : ∀ vs H Q E, sp vs H Q E → vs.length = ps.length)
    (hbody : ∀ (f : Addr) (cdv : Value) (A : Around) (outer : List Env) (s : Shared) (H : Hp) (vs : List V) (Q : VK) (E : XK), Room k (A.deeper (envOfC q (defScope st) s.heap.objs.size f cdv)) → sp vs H Q E →
      ∃ t, PSs (cxOf (L2N.CX P w) P w K mg base N q (defScope st) f cdv A outer s H E) (defBody st) t ∧ t { nx := fun _ H' => Q .non H', rt := Q } (start N vs) H) : MetX P w K mg base (k + 1) C m ps sp := by
  obtain ⟨f, fd, hc, hm, F⟩ := dx.ex
  exact ⟨f, fd, hc, hm, F.bindsN hb, F.ok S len (hbody f)⟩
theorem mak_mk (dx : MakAt K mg x q C st) (S : FnScope N ps (defScope st))
    (hb : ∀ (kV doc pm : Value) (an : Option Addr) (cdv ct : Value) (us : List Value), us.length = ps.length → bindArgs (fnOf "__init__" q (defArgs st) (defBody st) (defScope st) .none kV doc pm an cdv ct) ⟨us, []⟩ = pure (ps.zip us))
    (len : ∀ vs H Q E, sp vs H Q E → vs.length = ps.length)
    (hbody : ∀ (f : Addr) (cdv : Value) (A : Around) (outer : List Env) (s : Shared) (H : Hp) (vs : List V) (Q : VK) (E : XK), Room k (A.deeper (envOfC q (defScope st) s.heap.objs.size f cdv)) → sp vs H Q E →
      ∃ t, PSs (cxOf (L2N.CX P w) P w K mg base N q (defScope st) f cdv A outer s H E) (defBody st) t ∧ t { nx := fun _ H' => Q .non H', rt := Q } (start N vs) H) : MakX P w K mg base (k + 1) x C ps sp := by
  obtain ⟨f, fd, hc, hm, F⟩ := dx.ex
  exact ⟨f, fd, hc, hm, F.bindsN hb, F.ok S len (hbody f)⟩
end
def tMetS (C : Addr) (m : Str) (sp : Sp) (E : L2.St → XK) (ta : TE) (t : TA) : TE := fun σ H Q => ta σ H fun x H1 => ∃ a dx fs, x = .ref a ∧ H1 a = some (.ins C dx fs) ∧ fs.lookup m = none ∧ t σ H1 fun vs H2 => sp (x :: vs) H2 Q (E σ)
def tMakS (C : Addr) (sp : Sp) (E : L2.St → XK) (t : TA) : TE := fun σ H Q => t σ H fun vs H1 => ∀ x dx, H1 x = none → H1 dx = none → dx ≠ x → sp (.ref x :: vs) (upd (upd H1 dx (.own x)) x (.ins C dx [])) (fun v H2 => v = .non ∧ Q (.ref x) H2) (E σ)
section
variable {X : Cx} {k : Nat} {C : Addr} {x m : Str} {ps : List Str} {sp : Sp} {W : WX} {p pos apos : Pos} {e o : Expr} {es : List Expr} {ta : TE} {t : TA}
theorem pe_metX {pl : Sem Bool} (G : MetX X.prog X.w X.K X.mg X.base k C m ps sp) (hr : Room k X.A) (tk : L2N.Takes X W) (he : PE X o ta) (ha : PA X (e :: es) t)
    (hst : starEach (e :: es) X.env = (false, eval e X.env) :: starEach es X.env := by rfl) (hpl : (backTo pos (starEach es X.env)).any (·.1) = false := by rfl)
    (ht : eval (.Call (.Attribute o m apos) (e :: es) [] pos) X.env = (do
      let ov ← eval o X.env
      standAt apos.atName
      let (f, first) ← holding [ov] (getMethod ov m pl)
      callWith pos f first (backTo pos (starEach (e :: es) X.env)) (backToKw pos (keywordEach [] X.env))) := by rfl) :
    PE X (.Call (.Attribute o m apos) (e :: es) [] pos) (tMetS C m sp (WE W) ta t) := by
  obtain ⟨f, fd, c, hm, hb, F⟩ := G.ex
  refine ⟨fun pins s σ H Q I h => ?_⟩
  refine PySem.W.methodCall_KW (pl := pl) (thn (he.run pins s σ H _ I h) fun u s1 ⟨x, H1, I1, rx, a, dx, fs, ex, ea, l, q⟩ => ?_) ht
  subst ex
  obtain rfl : u = Value.ref a := rx
  refine getmeth_ok I1 ea c hm l ?_
  refine PySem.W.callWith_K (first := [.ref a]) (h₀ := X.base) I.ok.mod.kin hm.kp (thn (ha.run pos pins s1 σ H1 _ I1 q) fun us s2 ⟨vs, H2, I2, r, q2⟩ => ⟨I2.kIn, ?_⟩) hst hpl
  exact run_fnS (us := .ref a :: us) (vs := .ref a :: vs) F hr hb (L2N.passAt tk σ) I2 (.cons rfl r) q2
theorem pe_metX0 {pl : Sem Bool} (G : MetX X.prog X.w X.K X.mg X.base k C m ps sp) (hr : Room k X.A) (tk : L2N.Takes X W) (he : PE X o ta)
    (ht : eval (.Call (.Attribute o m apos) [] [] pos) X.env = (do
      let ov ← eval o X.env
      standAt apos.atName
      let (f, first) ← holding [ov] (getMethod ov m pl)
      callWith pos f first (backTo pos (starEach [] X.env)) (backToKw pos (keywordEach [] X.env))) := by rfl) :
    PE X (.Call (.Attribute o m apos) [] [] pos) (tMetS C m sp (WE W) ta tNil) := by
  obtain ⟨f, fd, c, hm, hb, F⟩ := G.ex
  refine ⟨fun pins s σ H Q I h => ?_⟩
  refine PySem.W.methodCall_KW (pl := pl) (thn (he.run pins s σ H _ I h) fun u s1 ⟨x, H1, I1, rx, a, dx, fs, ex, ea, l, q⟩ => ?_) ht
  subst ex
  obtain rfl : u = Value.ref a := rx
  refine getmeth_ok I1 ea c hm l ?_
  exact PySem.W.callWith_K0 I1.kIn hm.kp (run_fnS (us := [.ref a]) (vs := [.ref a]) F hr hb (L2N.passAt tk σ) I1 (.cons rfl .nil) q)
theorem pe_makX (G : MakX X.prog X.w X.K X.mg X.base k x C ps sp) (hr : Room (k + 1) X.A) (tk : L2N.Takes X W) (ha : PA X (e :: es) t) (hg : Gl X x := by rfl)
    (hdb : (x == ("__debug__" : Str)) = false := by decide) (he : starEach (e :: es) X.env = (false, eval e X.env) :: starEach es X.env := by rfl) (hpl : (backTo pos (starEach es X.env)).any (·.1) = false := by rfl) :
    PE X (.Call (.Name x p) (e :: es) [] pos) (tMakS C sp (WE W) t) := by
  obtain ⟨f, fd, hm, M, hb, F⟩ := G.ex
  refine ⟨fun pins s σ H Q I h => ?_⟩
  refine wpAny_Call_Name_kw (ld_glob I hg hm ?_ hdb)
  refine PySem.W.callWith_K (h₀ := X.base) I.ok.mod.kin M.kp (thn (ha.run pos pins s σ H _ I h) fun us s1 ⟨vs, H1, I1, r, q⟩ => ⟨I1.kIn, ?_⟩) he hpl
  have hq := q (s1.heap.objs.size + 1) s1.heap.objs.size (I1.hok.fresh (Nat.le_succ _)) (I1.hok.fresh (Nat.le_refl _)) (Nat.ne_of_lt (Nat.lt_succ_self _))
  have I2 := Inv.made (C := C) I1
  have r2 : Vals (V.ref (s1.heap.objs.size + 1) :: vs) (Value.ref (s1.heap.objs.size + 1) :: us) := .cons rfl r
  have hl : (Value.ref (s1.heap.objs.size + 1) :: us).length = ps.length := by
    have e := r2.length
    rw [F.len _ _ _ _ hq] at e
    exact e.symm
  have b := hb _ (Value.ref (s1.heap.objs.size + 1) :: us) I2.kIn (by rw [List.append_nil]; exact hl)
  rw [List.append_nil] at b
  refine wpAny_call (make_map (f := f) I1.kIn M.makes M.init (beq_iff_eq.mp M.fn) (codeAny_mono (F.run _ X.stack _ _ ⟨Value.ref (s1.heap.objs.size + 1) :: us, []⟩ (Value.ref (s1.heap.objs.size + 1) :: us) _ _ (WE W σ) (hr.make C us [])
    (I2.env0.make C us []) b r2 hq) fun r s' hq' => ?_))
  cases r with
  | error e => exact L2N.passAt tk σ pins _ _ e s' I2 hq'
  | ok fl =>
    cases fl with
    | ret u =>
      obtain ⟨v, H', I3, rv, ev, q3⟩ := I2.after hq'
      subst ev
      exact ⟨rv, ⟨V.ref (s1.heap.objs.size + 1), H', I3, rfl, q3⟩⟩
    | next => exact False.elim hq'
    | brk => exact False.elim hq'
    | cont => exact False.elim hq'
end
/-! ### for over a dict of the module (texts as keys) -/
def KKeys (K : Frag) (d : Addr) (ks : List Str) : Prop := (d == sysModules) = false ∧ ∃ es n, K.lookup d = some ⟨.type "dict", none, .dict es n, #[]⟩ ∧ es.size = ks.length ∧ ∀ (i : Nat) (z : Str), ks[i]? = some z → ∃ (en : DictEntry) (t : Tok), es[i]? = some en ∧ en.key = Value.str z t
def Ikk (ks : List Str) : It := ⟨fun i _ => i < ks.length, fun i H x H' => H' = H ∧ ∃ z, ks[i]? = some z ∧ x = .str z, fun i _ => ks.length ≤ i⟩
theorem walk_kk {ks : List Str} : Walk (Ikk ks) ks.length (fun _ => True) (fun i H x H' => H' = H ∧ ∃ z, ks[i]? = some z ∧ x = .str z) :=
  ⟨fun _ _ hi _ => hi, fun _ _ => Nat.le_refl _, fun _ _ _ _ _ _ y => y⟩
section
variable {P : Program} {w : World} {K : Frag} {tg : Expr} {d : Addr} {ks : List Str}
theorem turn_kk (it : Addr) {es : Array DictEntry} {ep : Nat} (hk : K.lookup d = some ⟨.type "dict", none, .dict es ep, #[]⟩) (hsz : es.size = ks.length) (hen : ∀ (i : Nat) (z : Str), ks[i]? = some z → ∃ (en : DictEntry) (t : Tok), es[i]? = some en ∧ en.key = Value.str z t) :
    Turn P w K tg (Ikk ks) [it] it (fun i h => h.IsKeyIter it d i ks.length ep) where
  mem := by simp
  obj := fun i h st b hb => by
    have e : b = it := by simpa using hb
    subst e
    obtain ⟨oi, e, c, dd⟩ := st
    exact ⟨oi, e, fun v z => by rw [dd] at z; cases z⟩
  keep := fun i h h' st k => st.at fun oi e => k it (by simp) oi e
  item := by
    intro X hP hw hK hc i pins s σ H E I hf st hg
    subst hP hw hK
    have hi : i < ks.length := hg
    obtain ⟨f0, f1, f2, f3, f4, f5⟩ := hf it (by simp)
    have hgd := I.kIn _ _ hk
    obtain ⟨en, t, he, hkey⟩ := hen i ks[i] (List.getElem?_eq_getElem hi)
    refine next_key_item st hgd rfl hsz he fun h' st' sb => ?_
    have I1 : Inv X pins σ H { s with heap := h' } := I.turned (t' := s.toks) (fun b ob hb e => (sb.2 b hb).trans e) f0 f1 f3 f4 f5
    obtain ⟨oi, e, c, dd⟩ := id st'
    refine ⟨en.key, rfl, go_of (s := { s with heap := h' }) e c dd (by decide) ⟨.str ks[i], H, I1, by rw [hkey]; exact ⟨t, rfl⟩, ⟨rfl, ks[i], List.getElem?_eq_getElem hi, rfl⟩, st', fun b hb => (hf b hb).1⟩⟩
  done := by
    intro X hP hw hK hc i pins s σ H E I hf st hg
    subst hP hw hK
    obtain ⟨f0, f1, f2, f3, f4, f5⟩ := hf it (by simp)
    exact next_key_end (I.ok.hd hc) st (I.kIn _ _ hk) rfl hsz hg fun h' eb => ⟨rfl, I.turned (t' := s.toks) (fun b ob hb e => eb b ob hb e) f0 f1 f3 f4 f5⟩
  self := fun A i s Q E st h => wpAny_pyIter_keyiter st h
end
def iKK (K : Frag) (td : TE) : TI := fun σ H R => td σ H fun x H1 => ∃ d ks, x = .ref d ∧ KKeys K d ks ∧ R (Ikk ks) H1
theorem pi_kk {X : Cx} {tg e : Expr} {td : TE} (he : PE X e td) : PI X tg e (iKK X.K td) := by
  refine ⟨fun pins s σ H R I h => ?_⟩
  refine thn (he.run pins s σ H _ I h) fun u s1 ⟨x, H1, I1, rx, d, ks, ex, ⟨hs, es, n, hk, hsz, hen⟩, q⟩ => ?_
  subst ex
  obtain rfl : u = Value.ref d := rx
  refine iter_keys hs (I1.kIn _ _ hk) ⟨rfl, rfl, rfl⟩ rfl (pi_one (tk := s1.toks) I1 _ (turn_kk _ hk hsz hen) ⟨_, Heap.get?_push_size _ rfl, rfl, ?_⟩ q)
  rw [hsz]; rfl
end Al
namespace Al
open PySem PySem.Spec PyProof.Rows L2 NdefX PySem.W
/-! ### the Hook with tables of text keys; classes with methods -/
abbrev AlF : Type := AlE × List (Option (List (Option (Str × Int))))
def obsF (fa : List He.Fa) (fn : List He.DefD) (exs : List ExD) (ex : Frag → Bool) (ts : List He.Tab) (K : Frag) : AlF := (obsK fa fn exs ex K, ts.map fun t => He.dicW K (t.1 K))
def valF (fn : List He.DefD) (exs : List ExD) (ts : List He.Tab) (w : World) : AlF := (valK fn exs, ts.map fun t => some (He.keysIn w.params t.2))
structure SaysF (fa : List He.Fa) (fn : List He.DefD) (exs : List ExD) (ex : Frag → Bool) (ts : List He.Tab) (w : World) (K : Frag) : Prop where
  e : SaysE fa fn exs ex K
  t : ts.map (fun t => He.dicW K (t.1 K)) = ts.map fun t => some (He.keysIn w.params t.2)
def hookF (n : Nat) (fa : List He.Fa) (fn : List He.DefD) (exs : List ExD) (ex : Frag → Bool) (ts : List He.Tab) : Hook where
  α := AlF
  obs := fun s => obsF fa fn exs ex ts (frE s.heap.get? n)
  val := fun w => valF fn exs ts w
  says := fun w h => ∃ K : Frag, K.In h ∧ SaysF fa fn exs ex ts w K
  of := fun _ _ e => ⟨_, He.frG_in, ⟨congrArg (fun z : AlF => z.1.1) e, congrArg (fun z : AlF => z.1.2.1) e, congrArg (fun z : AlF => z.1.2.2) e⟩, congrArg (fun z : AlF => z.2) e⟩
  keeps := fun _ _ _ ⟨K, hK, c⟩ k => ⟨K, Frag.In.keeps hK k, c⟩
theorem obsF_eq {n : Nat} {fa : List He.Fa} {fn : List He.DefD} {exs : List ExD} {ex : Frag → Bool} {ts : List He.Tab} {g : Addr → Option Obj} {s : Shared} (h : ∀ a, g a = s.heap.get? a) : obsF fa fn exs ex ts (frE g n) = (hookF n fa fn exs ex ts).obs s := by
  have e : g = s.heap.get? := funext h
  rw [e] <;> rfl
section
variable {fa : List He.Fa} {fn : List He.DefD} {exs : List ExD} {ex : Frag → Bool} {ts : List He.Tab} {w : World} {K : Frag} {h : Heap} {mg : Str → Option Value}
theorem SaysF.tab (c : SaysF fa fn exs ex ts w K) (i : Nat) {t : He.Tab} (h : ts[i]? = some t := by rfl) : He.dicW K (t.1 K) = some (He.keysIn w.params t.2) := by
  have e2 : (ts.map fun t => He.dicW K (t.1 K))[i]? = (ts.map fun t => some (He.keysIn w.params t.2))[i]? := by rw [c.t]
  rw [List.getElem?_map, List.getElem?_map, h] at e2
  exact Option.some.inj e2
theorem kdct_of {a : Addr} {ks : List Str} {kvs : List (Str × He.Dv)} (h : He.dicW K a = some (He.keysIn w.params ks)) (hv : He.valsB K a kvs = true) {q : Str × He.Dv} (hq : q ∈ kvs) : KDct K w a q.1 (q.2.v K) := by
  obtain ⟨es, n, hk⟩ := He.dicW_ok h
  obtain ⟨u, h1, h2⟩ := He.valsB_ok hv hq
  exact ⟨es, n, u, hk.at_, hk.lit, h1, h2⟩
theorem kkeys_of {a : Addr} {P : Params} {ks : List Str} (h : He.dicW K a = some (He.keysIn P ks)) : KKeys K a ks := by
  unfold He.dicW at h
  split at h
  · rename_i c es n sl hl
    split at h
    · rename_i hb
      obtain ⟨b1, b2⟩ := He.ba hb
      obtain ⟨b3, b4⟩ := He.ba b2
      have b1 := of_decide_eq_true b1
      subst b1
      have b3 : sl = #[] := Array.isEmpty_iff.mp b3
      subst b3
      have h := Option.some.inj h
      have hlen : es.size = ks.length := by
        have := congrArg List.length h
        rw [List.length_map] at this
        unfold He.keysIn at this
        rw [List.length_map] at this
        exact this
      refine ⟨by simpa using b4, es, n, hl, hlen, fun i z hz => ?_⟩
      have hi : i < es.size := by rw [hlen]; exact (List.getElem?_eq_some_iff.mp hz).1
      have e1 : (es.toList.map He.keyOf)[i]? = (He.keysIn P ks)[i]? := by rw [h]
      unfold He.keysIn at e1
      rw [List.getElem?_map, List.getElem?_map, hz, Array.getElem?_toList, Array.getElem?_eq_getElem hi] at e1
      have e2 : He.keyOf es[i] = some (z, PyData.keyHash P z) := Option.some.inj e1
      unfold He.keyOf at e2
      split at e2
      · rename_i x t q
        have := Option.some.inj e2
        have e3 : x = z := congrArg Prod.fst this
        exact ⟨es[i], t, Array.getElem?_eq_getElem hi, by rw [q, e3]⟩
      · cases e2
    · cases h
  · cases h
/-- a method as the head tells it -/
def mfn (C m : Str) (st : Stmt) : He.DefD := ⟨(C, some m), m, C ++ ("." : Str) ++ m, defArgs st, defBody st, defScope st, [], []⟩
theorem metAt_of (c : He.SaysD fa fn K) (i j k : Nat) {x m q : Str} {st : Stmt} (hq : x ++ ("." : Str) ++ m = q) (hd : fn[i]? = some (mfn x m st) := by rfl) (hf : fa[j]? = some (.meth x m) := by rfl) (hc : fa[k]? = some (.cls x) := by rfl) : MetAt K (He.ga K x) m q st := by
  subst hq
  obtain ⟨fd, F⟩ := c.def_ i hd
  exact ⟨_, fd, He.cls_ok (c.fact k hc), He.meth_ok (c.fact j hf), F⟩
theorem makAt_of (X : K.In h) (G : h.Ns mainGlobals mg) (c : He.SaysD fa fn K) (i j k : Nat) {x q : Str} {st : Stmt} (hq : x ++ ("." : Str) ++ ("__init__" : Str) = q) (hd : fn[i]? = some (mfn x "__init__" st) := by rfl) (hf : fa[j]? = some (.mkr x) := by rfl) (hc : fa[k]? = some (.glo x) := by rfl) : MakAt K mg x q (He.ga K x) st := by
  subst hq
  obtain ⟨fd, F⟩ := c.def_ i hd
  exact ⟨_, fd, He.glo_ok X G (c.fact k hc), He.mkr_ok (c.fact j hf), F⟩
end
end Al
namespace Al
open Lean.Grind
/-! ### k03: sums -/
section
variable {α : Type} [CommRing α]
def sm (n : Nat) (f : Nat → α) : α := match n with
  | 0 => 0
  | n + 1 => sm n f + f n
theorem sm_succ (n : Nat) (f : Nat → α) : sm (n + 1) f = sm n f + f n := rfl
theorem sm_zero' (f : Nat → α) : sm 0 f = 0 := rfl
theorem sm_congr {n : Nat} {f g : Nat → α} (h : ∀ i, i < n → f i = g i) : sm n f = sm n g := by
  induction n with
  | zero => rfl
  | succ n ih => rw [sm_succ, sm_succ, ih fun i hi => h i (by omega), h n (by omega)]
theorem sm_add (n : Nat) (f g : Nat → α) : sm n (fun i => f i + g i) = sm n f + sm n g := by
  induction n with
  | zero => rw [sm_zero', sm_zero', sm_zero']; grind
  | succ n ih => rw [sm_succ, sm_succ, sm_succ, ih]; grind
theorem sm_mul (n : Nat) (c : α) (f : Nat → α) : sm n (fun i => c * f i) = c * sm n f := by
  induction n with
  | zero => rw [sm_zero', sm_zero']; grind
  | succ n ih => rw [sm_succ, sm_succ, ih]; grind
theorem sm_mulr (n : Nat) (c : α) (f : Nat → α) : sm n (fun i => f i * c) = sm n f * c := by
  induction n with
  | zero => rw [sm_zero', sm_zero']; grind
  | succ n ih => rw [sm_succ, sm_succ, ih]; grind
theorem sm_sub (n : Nat) (f g : Nat → α) : sm n (fun i => f i - g i) = sm n f - sm n g := by
  induction n with
  | zero => rw [sm_zero', sm_zero', sm_zero']; grind
  | succ n ih => rw [sm_succ, sm_succ, sm_succ, ih]; grind
theorem sm_zeros {n : Nat} {f : Nat → α} (h : ∀ i, i < n → f i = 0) : sm n f = 0 := by
  induction n with
  | zero => rfl
  | succ n ih => rw [sm_succ, ih fun i hi => h i (by omega), h n (by omega)]; grind
theorem sm_swap (n m : Nat) (f : Nat → Nat → α) : sm n (fun i => sm m fun j => f i j) = sm m (fun j => sm n fun i => f i j) := by
  induction n with
  | zero =>
    rw [sm_zero']
    exact (sm_zeros fun i _ => rfl).symm
  | succ n ih =>
    rw [sm_succ, ih, ← sm_add]
    rfl
/-- one term changed -/
theorem sm_upd {n s : Nat} (hs : s < n) (f g : Nat → α) (h : ∀ i, i < n → i ≠ s → g i = f i) : sm n g = sm n f - f s + g s := by
  induction n with
  | zero => omega
  | succ n ih =>
    rw [sm_succ, sm_succ]
    by_cases hn : s = n
    · subst hn
      rw [sm_congr (g := f) fun i hi => h i (by omega) (by omega)]
      grind
    · rw [ih (by omega) fun i hi => h i (by omega), h n (by omega) (by omega)]
      grind
theorem sm_one {n s : Nat} (hs : s < n) {f : Nat → α} (h : ∀ i, i < n → i ≠ s → f i = 0) : sm n f = f s := by
  have h0 : sm n (fun _ => (0 : α)) = 0 := sm_zeros fun _ _ => rfl
  have := sm_upd hs (fun _ => (0 : α)) f h
  rw [this, h0]
  grind
/-- only the first terms count -/
theorem sm_cut {n m : Nat} (h : m ≤ n) {f : Nat → α} (hz : ∀ i, m ≤ i → i < n → f i = 0) : sm n f = sm m f := by
  induction n with
  | zero => have : m = 0 := by omega
            subst this; rfl
  | succ n ih =>
    by_cases hm : m = n + 1
    · subst hm; rfl
    · rw [sm_succ, ih (by omega) (fun i h1 h2 => hz i h1 (by omega)), hz n (by omega) (by omega)]
      grind
end
theorem sm_cast (n : Nat) (f : Nat → Int) : ((sm n f : Int) : Rat) = sm n fun i => (f i : Rat) := by
  induction n with
  | zero => rfl
  | succ n ih => rw [sm_succ, sm_succ, Rat.intCast_add, ih]
/-! ### whole columns: C = A T, T invertible over the whole numbers -/
structure Tn (A : Nat → Nat → Int) (n m : Nat) (C T : Nat → Nat → Int) : Prop where
  prod : ∀ k, k < n → ∀ r, r < m → C k r = sm n fun j => A r j * T k j
  sur : ∀ x : Nat → Int, ∃ y : Nat → Int, ∀ j, j < n → x j = sm n fun k => y k * T k j
  inj : ∀ y : Nat → Int, (∀ j, j < n → sm n (fun k => y k * T k j) = 0) → ∀ k, k < n → y k = 0
/-- a multiple of column s taken from column t -/
def csub (M : Nat → Nat → Int) (t s : Nat) (f : Int) : Nat → Nat → Int := fun k r => if k = t then M t r - f * M s r else M k r
def cswap (M : Nat → Nat → Int) (t s : Nat) : Nat → Nat → Int := fun k r => if k = t then M s r else if k = s then M t r else M k r
section
variable {A C T : Nat → Nat → Int} {n m t s : Nat} {f : Int}
theorem Tn.sub (h : Tn A n m C T) (ht : t < n) (hs : s < n) (hne : t ≠ s) : Tn A n m (csub C t s f) (csub T t s f) := by
  refine ⟨fun k hk r hr => ?_, fun x => ?_, fun y hy => ?_⟩
  · unfold csub
    by_cases hkt : k = t
    · subst hkt
      rw [if_pos rfl, h.prod k ht r hr, h.prod s hs r hr, ← sm_mul, ← sm_sub]
      refine sm_congr fun j _ => ?_
      rw [if_pos rfl]
      grind
    · rw [if_neg hkt, h.prod k hk r hr]
      refine sm_congr fun j _ => ?_
      rw [if_neg hkt]
  · obtain ⟨y, hy⟩ := h.sur x
    refine ⟨fun k => if k = s then y s + f * y t else y k, fun j hj => ?_⟩
    rw [hy j hj]
    have e1 := sm_upd ht (fun k => y k * T k j) (fun k => (if k = s then y s else y k) * csub T t s f k j) (fun i hi hne => by
      show (if i = s then y s else y i) * (if i = t then _ else T i j) = _
      rw [if_neg hne]
      split
      · rename_i e; rw [e]
      · rfl)
    have e2 := sm_upd hs (fun k => (if k = s then y s else y k) * csub T t s f k j) (fun k => (if k = s then y s + f * y t else y k) * csub T t s f k j) (fun i hi hne => by
      show (if i = s then _ else y i) * _ = (if i = s then _ else y i) * _
      rw [if_neg hne, if_neg hne])
    rw [e2, e1]
    unfold csub
    rw [if_pos rfl, if_pos rfl, if_neg hne, if_neg (Ne.symm hne), if_pos rfl]
    grind
  · have key : ∀ k, k < n → (if k = s then y s - f * y t else y k) = 0 := by
      refine h.inj (fun k => if k = s then y s - f * y t else y k) fun j hj => ?_
      rw [← hy j hj]
      have e1 := sm_upd ht (fun k => y k * csub T t s f k j) (fun k => (if k = s then y s else y k) * T k j) (fun i hi hne => by
        show (if i = s then y s else y i) * T i j = y i * (if i = t then _ else T i j)
        rw [if_neg hne]
        split
        · rename_i e; rw [e]
        · rfl)
      have e2 := sm_upd hs (fun k => (if k = s then y s else y k) * T k j) (fun k => (if k = s then y s - f * y t else y k) * T k j) (fun i hi hne => by
        show (if i = s then _ else y i) * _ = (if i = s then _ else y i) * _
        rw [if_neg hne, if_neg hne])
      rw [e2, e1]
      unfold csub
      rw [if_pos rfl, if_pos rfl, if_neg hne, if_pos rfl]
      grind
    have hyt : y t = 0 := by
      have := key t ht
      rwa [if_neg hne] at this
    intro k hk
    have := key k hk
    by_cases hks : k = s
    · subst hks
      rw [if_pos rfl, hyt] at this
      grind
    · rwa [if_neg hks] at this
theorem cswap_self (M : Nat → Nat → Int) (t : Nat) : cswap M t t = M := by
  funext k r
  unfold cswap
  split
  · rename_i e; rw [e]
  · rfl
/-- sums over swapped places -/
theorem sm_swp (ht : t < n) (hs : s < n) (hne : t ≠ s) (g : Nat → Int) : sm n (fun k => if k = t then g s else if k = s then g t else g k) = sm n g := by
  have e1 := sm_upd ht g (fun k => if k = t then g s else g k) (fun i hi hne => by rw [if_neg hne])
  have e2 := sm_upd hs (fun k => if k = t then g s else g k) (fun k => if k = t then g s else if k = s then g t else g k) (fun i hi hne => by
    by_cases h : i = t
    · rw [if_pos h, if_pos h]
    · rw [if_neg h, if_neg h, if_neg hne])
  rw [e2, e1, if_pos rfl, if_neg (Ne.symm hne), if_neg (Ne.symm hne), if_pos rfl]
  grind
theorem Tn.swap (h : Tn A n m C T) (ht : t < n) (hs : s < n) : Tn A n m (cswap C t s) (cswap T t s) := by
  by_cases hne : t = s
  · subst hne
    rw [cswap_self, cswap_self]
    exact h
  refine ⟨fun k hk r hr => ?_, fun x => ?_, fun y hy => ?_⟩
  · unfold cswap
    split
    · exact h.prod s hs r hr
    · split
      · exact h.prod t ht r hr
      · exact h.prod k hk r hr
  · obtain ⟨y, hy⟩ := h.sur x
    refine ⟨fun k => if k = t then y s else if k = s then y t else y k, fun j hj => ?_⟩
    rw [hy j hj, ← sm_swp ht hs hne (fun k => y k * T k j)]
    refine sm_congr fun k _ => ?_
    unfold cswap
    by_cases h1 : k = t
    · subst h1
      simp only [if_true]
    · by_cases h2 : k = s
      · subst h2
        simp only [if_neg h1, if_true]
      · simp only [if_neg h1, if_neg h2]
  · have key := h.inj (fun k => if k = t then y s else if k = s then y t else y k) fun j hj => by
      rw [← hy j hj, ← sm_swp ht hs hne (fun k => y k * cswap T t s k j)]
      refine sm_congr fun k _ => ?_
      unfold cswap
      by_cases h1 : k = t
      · subst h1
        rw [if_pos rfl, if_pos rfl, if_neg (Ne.symm hne), if_pos rfl]
      · by_cases h2 : k = s
        · subst h2
          rw [if_neg h1, if_pos rfl, if_neg h1, if_pos rfl, if_pos rfl]
        · rw [if_neg h1, if_neg h2, if_neg h1, if_neg h2, if_neg h1, if_neg h2]
    intro k hk
    by_cases h1 : k = t
    · subst h1
      have := key s hs
      rwa [if_neg (Ne.symm hne), if_pos rfl] at this
    · by_cases h2 : k = s
      · subst h2
        have := key t ht
        rwa [if_pos rfl] at this
      · have := key k hk
        rwa [if_neg h1, if_neg h2] at this
/-- the start: C the columns of A, T the unit -/
theorem Tn.start (hC : ∀ k, k < n → ∀ r, r < m → C k r = A r k) (hT : ∀ k, k < n → ∀ j, j < n → T k j = if k = j then 1 else 0) : Tn A n m C T := by
  refine ⟨fun k hk r hr => ?_, fun x => ⟨x, fun j hj => ?_⟩, fun y hy k hk => ?_⟩
  · rw [hC k hk r hr, sm_one (s := k) hk fun j hj hne => by rw [hT k hk j hj, if_neg (Ne.symm hne)]; grind]
    rw [hT k hk k hk, if_pos rfl]
    grind
  · rw [sm_one (s := j) hj fun k hk hne => by rw [hT k hk j hj, if_neg hne]; grind]
    rw [hT j hj j hj, if_pos rfl]
    grind
  · have := hy k hk
    rw [sm_one (s := k) hk fun i hi hne => by rw [hT i hi k hk, if_neg hne]; grind] at this
    rw [hT k hk k hk, if_pos rfl] at this
    grind
end
end Al
namespace Al
open PySem PySem.Spec PyProof.Rows L2 NdefX PySem.W
/-! ### more tools: calls within a comprehension, paired lists, frames, loops' readings -/
theorem pe_calN {X : Cx} {x : Str} {p pos : Pos} {k : Nat} {ps : List Str} {sp : Sp} {e : Expr} {es : List Expr} {ta : TA} (G : Cal X.prog X.w X.K X.mg X.base k x ps sp) (hr : Room k X.A) (ha : PA X (e :: es) ta) (hg : Gl X x := by rfl)
    (hdb : (x == ("__debug__" : Str)) = false := by decide) (he : starEach (e :: es) X.env = (false, eval e X.env) :: starEach es X.env := by rfl) (hpl : (backTo pos (starEach es X.env)).any (·.1) = false := by rfl) :
    PE X (.Call (.Name x p) (e :: es) [] pos) (tCallS sp (fun _ => E0) ta) := by
  obtain ⟨f, fd, hm, hk, hb, F⟩ := G.ex
  refine pe_callS F hr hg hm hk hb (fun σ => ?_) ha hdb he hpl
  rintro _ _ _ _ _ _ ⟨_, _, _, _, _, _, _, _, _, _, _, _, z⟩
  exact z.elim
inductive All2 {α β : Type} (R : α → β → Prop) : List α → List β → Prop
  | nil : All2 R [] []
  | cons {a : α} {b : β} {as : List α} {bs : List β} : R a b → All2 R as bs → All2 R (a :: as) (b :: bs)
namespace All2
variable {α β : Type} {R S : α → β → Prop}
theorem len : ∀ {as : List α} {bs : List β}, All2 R as bs → as.length = bs.length
  | _, _, .nil => rfl
  | _, _, .cons _ t => congrArg (· + 1) t.len
theorem app : ∀ {as cs : List α} {bs ds : List β}, All2 R as bs → All2 R cs ds → All2 R (as ++ cs) (bs ++ ds)
  | _, _, _, _, .nil, h => h
  | _, _, _, _, .cons a b, h => .cons a (b.app h)
theorem mono (h : ∀ a b, R a b → S a b) : ∀ {as : List α} {bs : List β}, All2 R as bs → All2 S as bs
  | _, _, .nil => .nil
  | _, _, .cons a t => .cons (h _ _ a) (t.mono h)
theorem get : ∀ {as : List α} {bs : List β} {i : Nat} {b : β}, All2 R as bs → bs[i]? = some b → ∃ a, as[i]? = some a ∧ R a b
  | _, _, _, _, .nil, h => by simp at h
  | _, _, 0, _, .cons a _, h => by
    simp at h; subst h; exact ⟨_, rfl, a⟩
  | _, _, i + 1, _, .cons _ t, h => by
    obtain ⟨v, h1, h2⟩ := get (i := i) t (by simpa using h)
    exact ⟨v, by simpa using h1, h2⟩
theorem split {as : List α} {b : β} : ∀ {bs : List β}, All2 R as (bs ++ [b]) → ∃ cs a, as = cs ++ [a] ∧ All2 R cs bs ∧ R a b
  | [], h => by
    cases h with
    | cons a t => cases t; exact ⟨[], _, rfl, .nil, a⟩
  | c :: bs, h => by
    cases h with
    | cons a t =>
      obtain ⟨cs, a', rfl, h1, h2⟩ := split (bs := bs) t
      exact ⟨_ :: cs, a', rfl, .cons a h1, h2⟩
end All2
/-! rules with the written part named (within a comprehension) -/
section
variable {X : Cx} {K : Frag}
theorem ix_listK (h : X.K = K) : IxR X (rIxL K) := by subst h; exact ix_list
theorem ix_tupK (h : X.K = K) : IxR X (rIxT K) := by subst h; exact ix_tup
theorem op_in_seqK (h : X.K = K) : OpR X (compareOp .In) (rIn K false) := by subst h; exact op_in_seq
theorem op_notIn_seqK (h : X.K = K) : OpR X (compareOp .NotIn) (rIn K true) := by subst h; exact op_notIn_seq
theorem call_len_seqK (h : X.K = K) : CallR X (.builtin "len") (fun xs H Q => ∃ p ys, xs = [.ref p] ∧ (SqL K H p ys ∨ SqT K H p ys) ∧ Q (.int ys.length) H) := by subst h; exact call_len_seq
theorem pe_fldK {e : Expr} {ta : TE} {f : Str} {pos : Pos} (h : X.K = K) (he : PE X e ta) (hb : attributeBase e f X.env (eval e X.env) = eval e X.env) : PE X (.Attribute e f pos) (tFld K ta f) := by subst h; exact pe_fld he hb
end
/-! all but two lists stand -/
structure Fr (x y : Addr) (H H' : Hp) : Prop where
  fr : ∀ b u, b ≠ x → b ≠ y → H b = some u → H' b = some u
  kp : Keep H H'
theorem Fr.trans {x y : Addr} {H H1 H2 : Hp} (a : Fr x y H H1) (b : Fr x y H1 H2) : Fr x y H H2 := ⟨fun c u h1 h2 h => b.fr c u h1 h2 (a.fr c u h1 h2 h), a.kp.trans b.kp⟩
theorem Fr.same {x y : Addr} {H H' : Hp} (s : Same H H') : Fr x y H H' := ⟨fun b u _ _ h => s b u h, Same.keep s⟩
theorem Fr.new {x y p : Addr} {H : Hp} {o : HO} (h : H p = none) : Fr x y H (upd H p o) := .same (Same.new h)
theorem Fr.setx {x y : Addr} {H : Hp} {us : List V} {o : HO} (h : H x = some (.lst us)) : Fr x y H (upd H x o) := ⟨fun b u h1 _ hb => (upd_ne h1).trans hb, Keep.mut h fun xs z => nomatch z⟩
theorem Fr.sety {x y : Addr} {H : Hp} {us : List V} {o : HO} (h : H y = some (.lst us)) : Fr x y H (upd H y o) := ⟨fun b u _ h1 hb => (upd_ne h1).trans hb, Keep.mut h fun xs z => nomatch z⟩
section
variable {ta : TA} {tl : TE} {g : TG} {tb : TS} {D : Ends} {σ : L2.St} {H : Hp} {K : Frag}
def LoopW (J : It) (g : TG) (tb : TS) (D : Ends) (σ : L2.St) (H1 : Hp) : Prop := ∃ W : Nat → Nat → L2.St → Hp → Prop, (∃ m, W 0 m σ H1) ∧ ∀ i m σ H, W i m σ H →
  (J.stop i H ∧ D.nx σ H) ∨ (J.go i H ∧ ∃ N : L2.St → Hp → Prop, (∀ σ' H', N σ' H' → ∃ m', m' < m ∧ W (i + 1) m' σ' H') ∧ ∀ x H', J.yld i H x H' → g x σ H' fun σ2 H2 => tb { D with nx := N, ct := N, bk := D.nx } σ2 H2)
theorem r_rng1 (h : ta σ H fun vs H1 => ∃ j : Int, vs = [.int j] ∧ -(2 ^ 62) ≤ j ∧ j < 2 ^ 62 ∧ LoopW (Itr 0 j.toNat) g tb D σ H1) : tFor (iRng1 ta) g tb D σ H := h
theorem r_rng2 (h : ta σ H fun vs H1 => ∃ i j : Int, vs = [.int i, .int j] ∧ (-(2 ^ 62) ≤ i ∧ i < 2 ^ 62 ∧ -(2 ^ 62) ≤ j ∧ j < 2 ^ 62) ∧ LoopW (Itr i (j - i).toNat) g tb D σ H1) : tFor (iRng2 ta) g tb D σ H := h
theorem r_forL (h : tl σ H fun x H1 => ∃ a, x = .ref a ∧ (∃ xs, SqL K H1 a xs) ∧ LoopW (Itl K a) g tb D σ H1) : tFor (iList K tl) g tb D σ H := h
theorem r_forT (h : tl σ H fun x H1 => ∃ a, x = .ref a ∧ (∃ xs, SqT K H1 a xs) ∧ LoopW (Itt K a) g tb D σ H1) : tFor (iTup K tl) g tb D σ H := h
theorem r_gsub {to ti : TE} {t : TSet} {v : V} {Q : L2.St → Hp → Prop} (h : to σ H fun o H1 => ti σ H1 fun i H2 => t o i v H2 fun H3 => Q σ H3) : gSub to ti t v σ H Q := h
theorem r_cat {p q : Addr} {xs ys : List V} {Q : VK} (h1 : H p = some (.lst xs)) (h2 : H q = some (.lst ys)) (hl : xs.length + ys.length ≤ 1000000) (k : ∀ r, H r = none → Q (.ref r) (upd H r (.lst (xs ++ ys)))) : rCat (.ref p) (.ref q) H Q :=
  ⟨p, q, xs, ys, rfl, rfl, h1, h2, Nat.le_trans hl (by decide), k⟩
theorem r_setL {p : Addr} {xs : List V} {n : Nat} {v : V} {Q : Hp → Prop} (h : H p = some (.lst xs)) (hn : n < xs.length) (k : Q (upd H p (.lst (xs.set n v)))) : rSetL (.ref p) (.int (n : Int)) v H Q := by
  refine ⟨p, xs, _, n, rfl, rfl, h, ?_, k⟩
  unfold ixN
  rw [if_pos (by omega), if_pos (by omega)]
  simp
theorem r_dget {td ty : TE} {Q : VK} (h : td σ H fun x H1 => ty σ H1 fun y H2 => ∃ a v, x = .ref a ∧ DGet H2 a y (some v) ∧ Q v H2) : tDGet td ty σ H Q := h
theorem r_disp {trs : List (TE × TE)} {Q : VK} (h : ∀ p, H p = none → tPairs trs σ (upd H p (.dK [])) fun ps H2 => H2 p = some (.dK []) ∧ ∃ kvs : List (Key × V), ps = kvs.map (fun kv => (kV kv.1, kv.2)) ∧ kvs.length ≤ 15 ∧ Q (.ref p) (upd H2 p (.dK (mergeK [] kvs)))) : tDisp trs σ H Q := h
theorem r_pnil {Q : List (V × V) → Hp → Prop} (h : Q [] H) : tPairs [] σ H Q := h
theorem r_pcons {tk tv : TE} {r : List (TE × TE)} {Q : List (V × V) → Hp → Prop} (h : tk σ H fun x H1 => tv σ H1 fun y H2 => tPairs r σ H2 fun ps H3 => Q ((x, y) :: ps) H3) : tPairs ((tk, tv) :: r) σ H Q := h
/-- what a comprehension over J asks -/
def LcW (J : It) (g : TG) (tt : TT) (te : TE) (vs : List Nat) (σ : L2.St) (H1 : Hp) (D : Addr) (Qd : Hp → Prop) : Prop := ∃ W : Nat → Nat → Hp → Prop, (∃ m, W 0 m (upd H1 D (.lst []))) ∧ ∀ i m H, W i m H →
  (J.stop i H ∧ Qd H) ∨ (J.go i H ∧ ∃ Nx : Hp → Prop, (∀ H', Nx H' → ∃ m', m' < m ∧ W (i + 1) m' H') ∧ ∀ x H', J.yld i H x H' → g x (wipe σ vs) H' fun σ2 H2 => wipe σ2 vs = wipe σ vs ∧ tt σ2 H2 fun b H3 =>
    if b = true then te σ2 H3 fun y H4 => ∃ acc, H4 D = some (.lst acc) ∧ acc.length < sizeLine ∧ Nx (upd H4 D (.lst (acc ++ [y]))) else Nx H3)
theorem r_lcL {tt : TT} {te : TE} {vs : List Nat} {Q : VK} (h : tl σ H fun x H1 => ∃ a, x = .ref a ∧ (∃ xs, SqL K H1 a xs) ∧ ∀ D, H1 D = none → LcW (Itl K a) g tt te vs σ H1 D (fun H => Q (.ref D) H)) : tLc (iList K tl) g tt te vs σ H Q := h
theorem r_lcT {tt : TT} {te : TE} {vs : List Nat} {Q : VK} (h : tl σ H fun x H1 => ∃ a, x = .ref a ∧ (∃ xs, SqT K H1 a xs) ∧ ∀ D, H1 D = none → LcW (Itt K a) g tt te vs σ H1 D (fun H => Q (.ref D) H)) : tLc (iTup K tl) g tt te vs σ H Q := h
theorem r_lcR {tt : TT} {te : TE} {vs : List Nat} {Q : VK} (h : ta σ H fun vs' H1 => ∃ n : Int, vs' = [.int n] ∧ -(2 ^ 62) ≤ n ∧ n < 2 ^ 62 ∧ ∀ D, H1 D = none → LcW (Itr 0 n.toNat) g tt te vs σ H1 D (fun H => Q (.ref D) H)) : tLc (iRng1 ta) g tt te vs σ H Q := h
theorem r_yes {Q : Bool → Hp → Prop} (h : Q true H) : tYes σ H Q := h
theorem wipe1 (σ : L2.St) (j : Nat) (x : Option V) : wipe ((wipe σ [j]).set j x) [j] = wipe σ [j] := by
  show ((σ.set j none).set j x).set j none = σ.set j none
  rw [List.set_set, List.set_set]
/-- over a list, one name, no test -/
theorem lcw_list {a D : Addr} {xs : List V} {te : TE} {j : Nat} {H1 : Hp} {Qd : Hp → Prop} (Pv : Nat → Hp → Prop) (h0 : Pv 0 (upd H1 D (.lst []))) (hl : ∀ i H, i ≤ xs.length → Pv i H → SqL K H a xs)
    (hs : ∀ i x H, xs[i]? = some x → Pv i H → te ((wipe σ [j]).set j (some x)) H fun y H4 => ∃ acc, H4 D = some (.lst acc) ∧ acc.length < sizeLine ∧ Pv (i + 1) (upd H4 D (.lst (acc ++ [y]))))
    (hd : ∀ H, Pv xs.length H → Qd H) : LcW (Itl K a) (gName j) tYes te [j] σ H1 D Qd := by
  refine lc_list Pv h0 hl (fun i x H hx h => ?_) hd
  refine ⟨wipe1 σ j (some x), ?_⟩
  show tYes _ _ _
  refine r_yes ?_
  rw [if_pos rfl]
  exact hs i x H hx h
theorem lcw_range {D : Addr} {lo : Int} {n : Nat} {te : TE} {j : Nat} {H1 : Hp} {Qd : Hp → Prop} (Pv : Nat → Hp → Prop) (h0 : Pv 0 (upd H1 D (.lst [])))
    (hs : ∀ i H, i < n → Pv i H → te ((wipe σ [j]).set j (some (.int (lo + (i : Int))))) H fun y H4 => ∃ acc, H4 D = some (.lst acc) ∧ acc.length < sizeLine ∧ Pv (i + 1) (upd H4 D (.lst (acc ++ [y]))))
    (hd : ∀ H, Pv n H → Qd H) : LcW (Itr lo n) (gName j) tYes te [j] σ H1 D Qd := by
  refine lc_range Pv h0 (fun i H hx h => ?_) hd
  refine ⟨wipe1 σ j _, ?_⟩
  show tYes _ _ _
  refine r_yes ?_
  rw [if_pos rfl]
  exact hs i H hx h
theorem r_lenL {p : Addr} {xs : List V} {Q : VK} (h : SqL K H p xs) (k : Q (.int (xs.length : Int)) H) : ∃ (p' : Addr) (ys : List V), [V.ref p] = [.ref p'] ∧ (SqL K H p' ys ∨ SqT K H p' ys) ∧ Q (.int (ys.length : Int)) H := ⟨p, xs, rfl, .inl h, k⟩
end
end Al
namespace Al
open PySem PySem.Spec PyProof.Rows L2 NdefX PySem.W
/-! ### // of ints of any size: what the module's world must say -/
structure Seer (K : Frag) (P : Program) : Prop where
  s : nsOkIn K cStatics = true
  s1 : nsIn K cStatics Audit.hooksKey = some none
  s2 : nsIn K cStatics "sys.dict" = some none
  m : nsOkIn K sysModules = true
  m1 : nsIn K sysModules "_pylong" = some none
  b : ∃ bm ob, nsIn K mainGlobals "__builtins__" = some (some (.ref bm)) ∧ K.lookup bm = some ob ∧ ob.cls = .type "module" ∧ ob.dict = some builtinsNs
  g : P.given.tree = none
section
variable {X : Cx} {pins : List (Addr × Obj)} {σ : L2.St} {H : Hp} {s : Shared}
theorem Seer.no (Z : Seer X.K X.prog) (I : Inv X pins σ H s) : s.heap.NoSeer := by
  have hk := I.kIn
  have n1 := Heap.Ns.of_isNs (isNs_of_in hk Z.s)
  have n2 := Heap.Ns.of_isNs (isNs_of_in hk Z.m)
  obtain ⟨mb, nb, b0⟩ := I.ok.mod.blt
  obtain ⟨bm, ob, e1, e2, e3, e4⟩ := Z.b
  have gl : s.heap.Ns mainGlobals X.mg := I.ok.mod.glob.keepsP I.bk
  exact ⟨⟨_, n1, ns_none_of hk n1 Z.s1, ns_none_of hk n1 Z.s2⟩, ⟨_, n2, ns_none_of hk n2 Z.m1⟩, ⟨mb, nb.keepsP I.bk, b0⟩, ⟨_, bm, ob, gl, mg_of hk gl e1, hk _ _ e2, e3, e4⟩⟩
theorem Seer.room (Z : Seer X.K X.prog) (I : Inv X pins σ H s) (hst : X.stack = X.env :: X.outer) (hg : X.env.scope.isGenerator = false) (hc : X.env.scope.isCoroutine = false) (hd : X.A.depth + 105 < recursionLimit) :
    PylongRoom (model X.prog X.w) X.A s := by
  refine PylongRoom.of I.nolimit (Nat.lt_of_le_of_lt (Nat.add_le_add_left (by decide) _) hd) ?_
  exact SeerAt.of (Z.no I) Z.g (by rw [I.ok.frames, hst]) hg hc I.ok.blt I.ok.glob
theorem op_fdivA (Z : Seer X.K X.prog) (hst : X.stack = X.env :: X.outer) (hg : X.env.scope.isGenerator = false) (hc : X.env.scope.isCoroutine = false) (hd : X.A.depth + 105 < recursionLimit) :
    OpR X (binaryOp .FloorDiv) (rI (fun _ j => j ≠ 0) fun i j => .int (i.fdiv j)) := by
  intro pins s σ H x y v u Q I rx ry h
  obtain ⟨i, j, rfl, rfl, c, q⟩ := h
  obtain ⟨t, rfl⟩ := rx
  obtain ⟨t2, rfl⟩ := ry
  exact floordiv_int c ⟨.int (i.fdiv j), H, I.tok _, ⟨_, rfl⟩, q⟩ (.inr (Z.room I hst hg hc hd))
/-- * of factors of together less than 130 million bits -/
def CMulA (i j : Int) : Prop := i.natAbs.log2 + j.natAbs.log2 < 130000000
theorem CMulA.ok {i j : Int} (h : CMulA i j) : IntMulOk i j := by
  have b : ∀ x : Int, Builtin.Int.intBits x ≤ x.natAbs.log2 + 1 := fun x => by
    unfold Builtin.Int.intBits
    split <;> omega
  have h1 := b i
  have h2 := b j
  have h3 : i.natAbs.log2 + j.natAbs.log2 < 130000000 := h
  have e : bitsLine = 134217728 := by decide
  unfold IntMulOk
  intro z
  rw [Bool.and_eq_true] at z
  have z2 := z.2
  unfold Builtin.Int.intTooBig at z2
  have z3 := of_decide_eq_true z2
  rw [e] at z3
  omega
theorem op_mulA : OpR X (binaryOp .Mult) (rI CMulA fun i j => .int (i * j)) := opI fun _ _ _ _ _ _ _ hc q => mul_int q hc.ok
/-- what * asks, from bounds by powers of two -/
theorem mulA {i j : Int} {a b : Nat} (ha : i.natAbs < 2 ^ a) (hb : j.natAbs < 2 ^ b) (h : a + b ≤ 129999000) : CMulA i j := by
  have x : i.natAbs.log2 < a + 1 := PySem.Flt.log2_lt_of (Nat.succ_pos a) (Nat.lt_of_lt_of_le ha (Nat.pow_le_pow_right (by decide) (Nat.le_succ a)))
  have y : j.natAbs.log2 < b + 1 := PySem.Flt.log2_lt_of (Nat.succ_pos b) (Nat.lt_of_lt_of_le hb (Nat.pow_le_pow_right (by decide) (Nat.le_succ b)))
  unfold CMulA
  omega
end
end Al
namespace Al
open PySem PySem.Spec PyProof.Rows L2 NdefX PySem.W
/-! ### k03: lists of lists of whole numbers in the heap -/
def rowV (M : Nat → Nat → Int) (m k : Nat) : List V := (List.range m).map fun r => V.int (M k r)
theorem rowV_len (M : Nat → Nat → Int) (m k : Nat) : (rowV M m k).length = m := by unfold rowV; rw [List.length_map, List.length_range]
theorem rowV_get {M : Nat → Nat → Int} {m k r : Nat} (h : r < m) : (rowV M m k)[r]? = some (.int (M k r)) := by
  unfold rowV
  rw [List.getElem?_map, List.getElem?_range h]
  rfl
theorem rowV_congr {M N : Nat → Nat → Int} {m k l : Nat} (h : ∀ r, r < m → M k r = N l r) : rowV M m k = rowV N m l := by
  unfold rowV
  exact List.map_congr_left fun r hr => by rw [h r (List.mem_range.mp hr)]
theorem rowV_set {M N : Nat → Nat → Int} {m k r : Nat} {v : Int} (hr : r < m) (hN : ∀ q, q < m → N k q = if q = r then v else M k q) : (rowV M m k).set r (.int v) = rowV N m k := by
  refine List.ext_getElem? fun i => ?_
  rw [List.getElem?_set]
  by_cases hi : i < m
  · rw [rowV_get hi]
    split
    · rename_i e
      subst e
      rw [rowV_len, if_pos hr, rowV_get hr, hN r hr, if_pos rfl]
    · rename_i e
      rw [rowV_get hi, hN i hi, if_neg (Ne.symm e)]
  · have h1 : (rowV N m k)[i]? = none := List.getElem?_eq_none (by rw [rowV_len]; omega)
    rw [h1]
    split
    · rename_i e
      omega
    · exact List.getElem?_eq_none (by rw [rowV_len]; omega)
abbrev Ff (f : Addr) : Hp → Hp → Prop := Fr f f
theorem Ff.get {f : Addr} {H H' : Hp} (h : Ff f H H') {b : Addr} {u : HO} (hb : b ≠ f) (e : H b = some u) : H' b = some u := h.fr b u hb hb e
theorem Ff.refl {f : Addr} {H : Hp} : Ff f H H := ⟨fun _ _ _ _ h => h, Keep.refl _⟩
theorem upd_upd {H : Hp} {a : Addr} {x y : HO} : upd (upd H a x) a y = upd H a y := by
  funext b
  by_cases h : b = a
  · subst h; rw [upd_same, upd_same]
  · rw [upd_ne h, upd_ne h, upd_ne h]
structure Mat (H : Hp) (a : Addr) (as : List Addr) (M : Nat → Nat → Int) (n m : Nat) : Prop where
  l : H a = some (.lst (as.map V.ref))
  len : as.length = n
  nd : ∀ (i j : Nat) (x : Addr), as[i]? = some x → as[j]? = some x → i = j
  ne : a ∉ as
  col : ∀ (k : Nat) (b : Addr), as[k]? = some b → H b = some (.lst (rowV M m k))
namespace Mat
variable {H H' : Hp} {a : Addr} {as : List Addr} {M N : Nat → Nat → Int} {n m : Nat}
theorem keep (h : Mat H a as M n m) (s : Same H H') : Mat H' a as M n m := ⟨s _ _ h.l, h.len, h.nd, h.ne, fun k b e => s _ _ (h.col k b e)⟩
theorem congr (h : Mat H a as M n m) (e : ∀ k, k < n → ∀ r, r < m → M k r = N k r) : Mat H a as N n m := ⟨h.l, h.len, h.nd, h.ne, fun k b hb => by
  have hk : k < n := by rw [← h.len]; exact (List.getElem?_eq_some_iff.mp hb).1
  rw [h.col k b hb, rowV_congr (e k hk)]⟩
theorem at_ (h : Mat H a as M n m) {k : Nat} (hk : k < n) : ∃ b, as[k]? = some b ∧ H b = some (.lst (rowV M m k)) ∧ (as.map V.ref)[k]? = some (.ref b) ∧ b ≠ a := by
  have hk' : k < as.length := by rw [h.len]; exact hk
  refine ⟨as[k], List.getElem?_eq_getElem hk', h.col k _ (List.getElem?_eq_getElem hk'), by rw [List.getElem?_map, List.getElem?_eq_getElem hk']; rfl, fun e => h.ne (e ▸ List.getElem_mem hk')⟩
theorem empty (D : Addr) : Mat (upd H D (.lst [])) D [] M 0 m := ⟨upd_same, rfl, fun i j x e => by simp at e, by simp, fun k b e => by simp at e⟩
/-- one more column -/
theorem snoc {i : Nat} {D2 : Addr} (h : Mat H a as M i m) (h2 : H D2 = some (.lst (rowV M m i))) (h3 : D2 ∉ as) (h4 : D2 ≠ a) : Mat (upd H a (.lst (as.map V.ref ++ [.ref D2]))) a (as ++ [D2]) M (i + 1) m := by
  refine ⟨by rw [List.map_append]; exact upd_same, by rw [List.length_append, h.len]; rfl, ?_, ?_, ?_⟩
  · intro i1 j1 x e1 e2
    have hmem : ∀ k : Nat, (as ++ [D2])[k]? = some D2 → k = as.length := by
      intro k e
      rcases Nat.lt_or_ge k as.length with hk | hk
      · rw [List.getElem?_append_left hk] at e
        exact absurd (List.mem_of_getElem? e) h3
      · have := (List.getElem?_eq_some_iff.mp e).1
        rw [List.length_append] at this
        have e1 : ([D2] : List Addr).length = 1 := rfl
        omega
    by_cases q : x = D2
    · subst q
      rw [hmem _ e1, hmem _ e2]
    · have hlt : ∀ k : Nat, (as ++ [D2])[k]? = some x → as[k]? = some x := by
        intro k e
        rcases Nat.lt_or_ge k as.length with hk | hk
        · rwa [List.getElem?_append_left hk] at e
        · rw [List.getElem?_append_right hk] at e
          have hk0 := (List.getElem?_eq_some_iff.mp e).1
          have e3 : k - as.length = 0 := by
            have e1 : ([D2] : List Addr).length = 1 := rfl
            omega
          rw [e3] at e
          cases e
          exact absurd rfl q
      exact h.nd _ _ x (hlt _ e1) (hlt _ e2)
  · intro hm
    rcases List.mem_append.mp hm with hm | hm
    · exact h.ne hm
    · exact h4 (List.mem_singleton.mp hm).symm
  · intro k b e
    rcases Nat.lt_or_ge k as.length with hk | hk
    · rw [List.getElem?_append_left hk] at e
      have hb : b ≠ a := fun q => h.ne (q ▸ List.mem_of_getElem? e)
      rw [upd_ne hb]
      exact h.col k b e
    · rw [List.getElem?_append_right hk] at e
      have hk0 : k - as.length = 0 := by
        have := (List.getElem?_eq_some_iff.mp e).1
        simp at this
        omega
      rw [hk0] at e
      cases e
      rw [upd_ne h4, h2, show k = i by rw [← h.len]; omega]
theorem fresh (h : Mat H a as M n m) {p : Addr} (hp : H p = none) : p ∉ as ∧ p ≠ a := by
  refine ⟨fun hm => ?_, fun e => ?_⟩
  · obtain ⟨k, hk, e⟩ := List.mem_iff_getElem.mp hm
    have := h.col k p (by rw [List.getElem?_eq_getElem hk, e])
    rw [this] at hp
    cases hp
  · rw [e, h.l] at hp
    cases hp
/-- column t written anew -/
theorem set (h : Mat H a as M n m) {t : Nat} {b : Addr} (hb : as[t]? = some b) {xs : List V} (hx : xs = rowV N m t) (hN : ∀ k, k < n → k ≠ t → ∀ r, r < m → N k r = M k r) : Mat (upd H b (.lst xs)) a as N n m := by
  have hba : b ≠ a := fun q => h.ne (q ▸ List.mem_of_getElem? hb)
  refine ⟨(upd_ne (Ne.symm hba)).trans h.l, h.len, h.nd, h.ne, fun k c hc => ?_⟩
  have hk : k < as.length := (List.getElem?_eq_some_iff.mp hc).1
  by_cases e : c = b
  · subst e
    have hkt : k = t := h.nd _ _ c hc hb
    subst hkt
    rw [upd_same, hx]
  · have hkt : k ≠ t := fun q => by
      subst q
      rw [hc] at hb
      cases hb
      exact e rfl
    rw [upd_ne e, h.col k c hc, rowV_congr fun r hr => (hN k (by rw [← h.len]; exact hk) hkt r hr).symm]
/-- columns s and t changed over -/
theorem swap (h : Mat H a as M n m) {s t : Nat} {b c : Addr} (hb : as[t]? = some b) (hc : as[s]? = some c) : Mat (upd H a (.lst ((((as.map V.ref).set t (.ref c)).set s (.ref b))))) a ((as.set t c).set s b) (cswap M t s) n m := by
  have hla : ((as.set t c).set s b).length = n := by rw [List.length_set, List.length_set, h.len]
  have ht : t < as.length := (List.getElem?_eq_some_iff.mp hb).1
  have hs : s < as.length := (List.getElem?_eq_some_iff.mp hc).1
  have hget : ∀ k, ((as.set t c).set s b)[k]? = if k = s then some b else if k = t then some c else as[k]? := by
    intro k
    rw [List.getElem?_set, List.getElem?_set, List.length_set]
    by_cases h1 : s = k
    · subst h1
      rw [if_pos rfl, if_pos hs, if_pos rfl]
    · rw [if_neg h1, if_neg (Ne.symm h1)]
      by_cases h2 : t = k
      · subst h2
        rw [if_pos rfl, if_pos ht, if_pos rfl]
      · rw [if_neg h2, if_neg (Ne.symm h2)]
  have hbm := List.mem_of_getElem? hb
  have hcm := List.mem_of_getElem? hc
  refine ⟨?_, hla, ?_, ?_, ?_⟩
  · rw [upd_same, List.map_set, List.map_set]
  · intro i j x e1 e2
    rw [hget] at e1 e2
    have inj := h.nd
    grind
  · intro hm
    obtain ⟨k, hk, e⟩ := List.mem_iff_getElem.mp hm
    have e1 := hget k
    rw [List.getElem?_eq_getElem hk, e] at e1
    split at e1
    · cases e1; exact h.ne hbm
    · split at e1
      · cases e1; exact h.ne hcm
      · exact h.ne (List.mem_of_getElem? e1.symm)
  · intro k x hx
    rw [hget] at hx
    have hxa : x ≠ a := by
      rintro rfl
      split at hx
      · cases hx; exact h.ne hbm
      · split at hx
        · cases hx; exact h.ne hcm
        · exact h.ne (List.mem_of_getElem? hx)
    rw [upd_ne hxa]
    by_cases a1 : k = s
    · subst a1
      rw [if_pos rfl] at hx
      cases hx
      rw [h.col t _ hb]
      refine congrArg (fun l => some (HO.lst l)) (rowV_congr fun r hr => ?_)
      unfold cswap
      split
      · rename_i q; rw [q]
      · rw [if_pos rfl]
    · rw [if_neg a1] at hx
      by_cases a2 : k = t
      · subst a2
        rw [if_pos rfl] at hx
        cases hx
        rw [h.col s _ hc]
        refine congrArg (fun l => some (HO.lst l)) (rowV_congr fun r hr => ?_)
        unfold cswap
        rw [if_pos rfl]
      · rw [if_neg a2] at hx
        rw [h.col k _ hx]
        refine congrArg (fun l => some (HO.lst l)) (rowV_congr fun r hr => ?_)
        unfold cswap
        rw [if_neg a2, if_neg a1]
theorem ff (h : Mat H a as M n m) {x : Addr} (f : Ff x H H') (h1 : x ∉ as) (h2 : x ≠ a) : Mat H' a as M n m :=
  ⟨f.get (Ne.symm h2) h.l, h.len, h.nd, h.ne, fun k b e => f.get (fun q => h1 (q ▸ List.mem_of_getElem? e)) (h.col k b e)⟩
end Mat
theorem r_gtup {K : Frag} {n : Nat} {t : TGs} {a : Addr} {xs : List V} {σ : L2.St} {H : Hp} {Q : L2.St → Hp → Prop} (h : SqT K H a xs) (hn : xs.length = n) (q : t xs σ H Q) : gTup K n t (.ref a) σ H Q := ⟨a, xs, rfl, h, hn, q⟩
theorem r_gcons {t : TG} {u : TGs} {v : V} {r : List V} {σ : L2.St} {H : Hp} {Q : L2.St → Hp → Prop} (h : t v σ H fun σ' H' => u r σ' H' Q) : gCons t u (v :: r) σ H Q := ⟨v, r, rfl, h⟩
theorem r_gnil {σ : L2.St} {H : Hp} {Q : L2.St → Hp → Prop} (h : Q σ H) : gNil [] σ H Q := ⟨rfl, h⟩
theorem iteNF {p q : Prop} (h : p) : if (!false) = true then p else q := h
theorem iteNT {p q : Prop} (h : q) : if (!true) = true then p else q := h
theorem Tp.tupI {H : Hp} {v : V} {ds : List PyData} (h : Tp H v (.tuple ds)) : ∃ a xs, v = .ref a ∧ H a = some (.tup xs) ∧ TpAll H xs ds := by
  cases h with
  | tup a b => exact ⟨_, _, rfl, a, b⟩
theorem TpAll.consI {H : Hp} {xs : List V} {d : PyData} {ds : List PyData} (h : TpAll H xs (d :: ds)) : ∃ x r, xs = x :: r ∧ Tp H x d ∧ TpAll H r ds := by
  cases h with
  | cons a b => exact ⟨_, _, rfl, a, b⟩
theorem TpAll.nilI {H : Hp} {xs : List V} (h : TpAll H xs []) : xs = [] := by cases h; rfl
theorem TpAll.mem {H : Hp} : ∀ {vs : List V} {ds : List PyData} {i : Nat} {d : PyData}, TpAll H vs ds → ds[i]? = some d → ∃ v, vs[i]? = some v ∧ Tp H v d
  | _, _, i, d, .nil, h => by simp at h
  | _, _, 0, _, .cons a _, h => by
    simp at h; subst h; exact ⟨_, rfl, a⟩
  | _, _, i + 1, _, .cons _ t, h => by
    obtain ⟨d, h1, h2⟩ := TpAll.mem (i := i) t (by simpa using h)
    exact ⟨d, by simpa using h1, h2⟩
theorem TpAll.app1 {H : Hp} {xs : List V} {ds : List PyData} {v : V} {d : PyData} (h : TpAll H xs ds) (hv : Tp H v d) : TpAll H (xs ++ [v]) (ds ++ [d]) := h.app (.cons hv .nil)
/-! a comprehension over range(i, j) with a test -/
section
variable {ta : TA} {g : TG} {σ : L2.St} {H : Hp}
theorem r_lcR2 {tt : TT} {te : TE} {vs : List Nat} {Q : VK} (h : ta σ H fun vs' H1 => ∃ i j : Int, vs' = [.int i, .int j] ∧ (-(2 ^ 62) ≤ i ∧ i < 2 ^ 62 ∧ -(2 ^ 62) ≤ j ∧ j < 2 ^ 62) ∧ ∀ D, H1 D = none → LcW (Itr i (j - i).toNat) g tt te vs σ H1 D (fun H => Q (.ref D) H)) : tLc (iRng2 ta) g tt te vs σ H Q := h
theorem lcw_rangeT {D : Addr} {lo : Int} {n : Nat} {tt : TT} {te : TE} {j : Nat} {H1 : Hp} {Qd : Hp → Prop} (Pv : Nat → Hp → Prop) (h0 : Pv 0 (upd H1 D (.lst [])))
    (hs : ∀ i H, i < n → Pv i H → tt ((wipe σ [j]).set j (some (.int (lo + (i : Int))))) H fun b H3 => if b = true then te ((wipe σ [j]).set j (some (.int (lo + (i : Int))))) H3 fun y H4 => ∃ acc, H4 D = some (.lst acc) ∧ acc.length < sizeLine ∧ Pv (i + 1) (upd H4 D (.lst (acc ++ [y]))) else Pv (i + 1) H3)
    (hd : ∀ H, Pv n H → Qd H) : LcW (Itr lo n) (gName j) tt te [j] σ H1 D Qd := by
  refine lc_range Pv h0 (fun i H hx h => ?_) hd
  exact ⟨wipe1 σ j _, hs i H hx h⟩
end
end Al
namespace Al
open PySem PySem.Spec PyProof.Rows L2 NdefX PySem.W
def top (i : Nat) : Stmt := PySem.Challenge.pw_alnage_k03_whole_numbers_solve_rows.main.body.getD i (.Pass ⟨0, 0, 0, 0⟩)
local macro_rules | `(tactic| walk_at "rd1") => `(tactic| with_reducible first
  | (show tVar _ _ _ _; refine r_var (by with_unfolding_all rfl) ?_) | refine r_c ?_ | refine r_op ?_ | refine r_I0 ?_ | refine r_un ?_ | refine r_U ?_
  | (show rI _ _ _ _ _ _; refine r_I (by with_unfolding_all first | exact ⟨by decide, by decide⟩ | (show (0 : Int) < _; decide)) ?_)
  | refine r_eqI ?_ | refine r_neI ?_ | refine r_eqS ?_ | refine r_neS ?_ | refine r_eqB ?_ | refine r_neB ?_ | refine r_chain ?_
  | refine r_test ?_ | refine r_B ?_ | refine r_bl ?_ | refine r_int ?_ | refine r_and ?_ | refine r_or ?_ | refine r_not ?_ | refine r_andV ?_ | refine r_orV ?_ | refine r_notV ?_
  | refine r_if ?_ | refine r_nil ?_ | refine r_cons ?_ | refine r_cb ?_ | refine r_call ?_ | refine r_callS ?_ | refine r_tup ?_ | refine r_lst ?_ | refine r_seq ?_ | refine r_next ?_ | refine r_asg ?_
  | refine r_name ?_ | refine r_ifS ?_ | refine r_ret ?_ | refine r_retN ?_ | refine r_drop ?_ | refine r_brk ?_ | refine r_ct ?_ | refine r_sl ?_ | refine r_part ?_ | refine r_nopart ?_
  | refine r_bm ?_ | refine r_bm0 ?_ | refine r_raiseX ?_ | refine r_mkO ?_ | refine iteF ?_ | refine iteT ?_ | refine r_int1 ?_ | refine r_int1b ?_ | (show _ ≤ sizeLine ∧ _; refine r_sz (by with_unfolding_all first | omega | (simp only [List.length_cons, List.length_nil]; omega)) ?_)
  | (show ∃ _, _; refine ⟨_, rfl, ?_⟩) | (show ∃ _, _; refine ⟨_, _, rfl, rfl, ?_⟩) | (show ∃ _, _; refine ⟨_, _, rfl, ?_⟩))
local macro_rules | `(tactic| walk_at "rd") => `(tactic| repeat (walk_at "rd1"))
local macro_rules | `(tactic| walk_at "rd2") => `(tactic| with_reducible first
  | (show tFld _ _ _ _ _ _; refine r_fldI (by with_unfolding_all rfl) (by with_unfolding_all assumption) (by with_unfolding_all assumption) (by with_unfolding_all assumption) (by with_unfolding_all rfl) ?_)
  | (show tMetS _ _ _ _ _ _ _ _ _; refine r_rm (by with_unfolding_all assumption) (by with_unfolding_all rfl) (by decide) ?_)
  | refine r_sfl ?_ | refine iteNF ?_ | refine iteNT ?_ | refine r_makS ?_)
local macro_rules | `(tactic| walk_at "rp") => `(tactic| repeat first | walk_at "rd1" | walk_at "rd2")
local macro_rules | `(tactic| walk_at "rq1") => `(tactic| with_reducible first | refine r_rng1 ?_ | refine r_rng2 ?_ | refine r_forL ?_ | refine r_forT ?_ | refine r_dget ?_ | refine r_pnil ?_ | refine r_pcons ?_ | refine r_lcL ?_ | refine r_lcT ?_ | refine r_lcR ?_ | refine r_yes ?_ | refine r_disp ?_)
local macro_rules | `(tactic| walk_at "rq") => `(tactic| repeat first | walk_at "rd1" | walk_at "rd2" | walk_at "rq1")

def idM : Nat → Nat → Int := fun k j => if k = j then 1 else 0
def spUnit : Sp := fun vs H Q _ => ∃ n : Nat, vs = [.int (n : Int)] ∧ n ≤ 1000 ∧ ∀ (a : Addr) (as : List Addr) (H' : Hp), Same H H' → H a = none → (∀ b ∈ as, H b = none) → Mat H' a as idM n n → Q (.ref a) H'
def spSub : Sp := fun vs H Q _ => ∃ (a : Addr) (as : List Addr) (M : Nat → Nat → Int) (n m t s : Nat) (f : Int) (b : Addr), vs = [.ref a, .int (t : Int), .int (s : Int), .int f] ∧ Mat H a as M n m ∧ as[t]? = some b ∧ s < n ∧ t ≠ s ∧ m ≤ 1000 ∧ (∀ r, r < m → CMulA f (M s r)) ∧ ∀ H', Ff b H H' → Mat H' a as (csub M t s f) n m → Q .non H'
def partM (M N : Nat → Nat → Int) (i : Nat) : Nat → Nat → Int := fun k r => if r < i then N k r else M k r
section
variable {P : Program} {w : World} {K : Frag} {mg : Str → Option Value} {base : Heap}
abbrev s_unit_rows : Stmt := top 10
theorem sc_unit_rows : FnScope ["count", "k", "j"] ["count"] (defScope s_unit_rows) := ⟨rfl, rfl, rfl, by decide +kernel, rfl, by decide +kernel, by decide +kernel⟩
theorem cal_unit_rows (dx : DefAt K mg "unit_rows" s_unit_rows) (B : Bl mg) : Cal P w K mg base 1 "unit_rows" ["count"] spUnit := by
  refine cal_mk dx sc_unit_rows (fun _ _ _ _ _ _ us hl => match us, hl with | [_], _ => rfl) (fun vs H Q E h => ?_) (fun fn cdv A outer s H vs Q E hr h => ?_)
  · obtain ⟨n, rfl, _⟩ := h
    rfl
  · obtain ⟨n, rfl, hn, kq⟩ := h
    refine ⟨_, (pss_one (ps_ret (pe_lc (own := [("k", 1)]) rfl sc_unit_rows.nd (pi_range1 (by rfl) B.range (pa_cons (pv 0) pa_nil)) (blkOk_by (N := ["count", "k", "j"]) (sc := defScope s_unit_rows) (by decide +kernel)) (fun _ _ _ _ _ => (pg_name (i := 1) sc_unit_rows.nd rfl (by first | exact Or.inl rfl | exact Or.inr rfl))) (fun _ _ _ _ _ => pts_nil) (fun _ _ _ _ _ => (pe_lc (own := [("j", 2)]) rfl sc_unit_rows.nd (pi_range1 (by rfl) B.range (pa_cons (pv 0) pa_nil)) (blkOk_by (N := ["count", "k", "j"]) (by with_unfolding_all rfl)) (fun _ _ _ _ _ => (pg_name (i := 2) sc_unit_rows.nd rfl (by first | exact Or.inl rfl | exact Or.inr rfl))) (fun _ _ _ _ _ => pts_nil) (fun _ _ _ _ _ => (pe_callTy call_int1 (by rfl) B.int (by decide +kernel) (pa_cons (pe_cmpR op_eq (pv 1) (pv 2) (nomark _)) pa_nil)))))))), ?_⟩
    walk_at "rq"
    refine ⟨by omega, by omega, fun D hD => ?_⟩
    rw [show ((n : Int)).toNat = n by omega]
    refine lcw_range (lo := 0) (n := n) (fun i H' => Same H H' ∧ ∃ as, Mat H' D as idM i n ∧ ∀ b ∈ as, H b = none) ⟨Same.new hD, [], Mat.empty D, fun b h => by cases h⟩ ?_ ?_
    · rintro i H1 hi ⟨s1, as, hm, hf⟩
      walk_at "rq"
      refine ⟨by omega, by omega, fun D2 hD2 => ?_⟩
      rw [show ((n : Int)).toNat = n by omega]
      refine lcw_range (lo := 0) (n := n) (fun j H' => Same H1 H' ∧ H' D2 = some (.lst (rowV idM j i))) ⟨Same.new hD2, upd_same⟩ ?_ ?_
      · rintro j H2 hj ⟨s2, h2⟩
        walk_at "rq"
        refine ⟨_, h2, by rw [sizeLine_eq, rowV_len]; omega, Same.mut s2 hD2, ?_⟩
        rw [upd_same]
        unfold rowV
        rw [List.range_succ, List.map_append]
        have e : (if decide ((0 : Int) + (i : Int) = 0 + (j : Int)) = true then (1 : Int) else 0) = idM i j := by
          unfold idM
          by_cases h : i = j
          · rw [if_pos h, if_pos (decide_eq_true (by omega))]
          · rw [if_neg h, if_neg (by rw [decide_eq_false (by omega)]; decide)]
        rw [e]
        rfl
      · rintro H2 ⟨s2, h2⟩
        obtain ⟨f1, f2⟩ := hm.fresh hD2
        have hm2 := hm.keep s2
        walk_at "rq"
        refine ⟨_, hm2.l, by rw [sizeLine_eq, List.length_map, hm.len]; omega, Same.mut (fun b o h => s2 _ _ (s1 _ _ h)) hD, as ++ [D2], hm2.snoc h2 f1 f2, fun b hb => ?_⟩
        rcases List.mem_append.mp hb with hb | hb
        · exact hf b hb
        · rw [List.mem_singleton.mp hb]
          cases e : H D2 with
          | none => rfl
          | some u => rw [s1 _ _ e] at hD2; cases hD2
    · rintro H1 ⟨s1, as, hm, hf⟩
      walk_at "rq"
      exact kq D as H1 s1 hD hf hm
abbrev s_subtract : Stmt := top 11
theorem sc_subtract : FnScope ["columns", "target", "source", "times_by", "k"] ["columns", "target", "source", "times_by"] (defScope s_subtract) := ⟨rfl, rfl, rfl, by decide +kernel, rfl, by decide +kernel, by decide +kernel⟩
theorem cal_subtract (dx : DefAt K mg "subtract" s_subtract) (B : Bl mg) : Cal P w K mg base 1 "subtract" ["columns", "target", "source", "times_by"] spSub := by
  refine cal_mk dx sc_subtract (fun _ _ _ _ _ _ us hl => match us, hl with | [_, _, _, _], _ => rfl) (fun vs H Q E h => ?_) (fun fn cdv A outer s H vs Q E hr h => ?_)
  · obtain ⟨a, as, M, n, m, t, sx, f, b, rfl, _⟩ := h
    rfl
  · obtain ⟨a, as, M, n, m, t, sx, f, b, rfl, hm, hb, hs, hne, hm10, hmul, kq⟩ := h
    refine ⟨_, (pss_one (ps_for (passes_of rfl) rfl (pi_range1 (by rfl) B.range (pa_cons (pe_callB call_len_seq (by rfl) B.len PySem.boot_len (pa_cons (pe_ix ix_list (pv 0) (pv 1) (fun _ _ => rfl)) pa_nil)) pa_nil)) (pg_name (i := 4) sc_subtract.nd rfl (Or.inl rfl))
      (pss_one (ps_asg (pe_op op_sub (pe_ix ix_list (pe_ix ix_list (pv 0) (pv 1) (fun _ _ => rfl)) (pv 4) (fun _ _ => rfl)) (pe_op op_mulA (pv 3) (pe_ix ix_list (pe_ix ix_list (pv 0) (pv 2) (fun _ _ => rfl)) (pv 4) (fun _ _ => rfl)))) (pg_sub (pe_ix ix_list (pv 0) (pv 1) (fun _ _ => rfl)) (pv 4) set_list))))), ?_⟩
    have hbl := hm.col t b hb
    have ht : t < n := by rw [← hm.len]; exact (List.getElem?_eq_some_iff.mp hb).1
    have hba : a ≠ b := fun q => hm.ne (q ▸ List.mem_of_getElem? hb)
    have hbr : (as.map V.ref)[t]? = some (.ref b) := by rw [List.getElem?_map, hb]; rfl
    obtain ⟨c, hc, hcl, hcr, hca⟩ := hm.at_ hs
    have hcb : c ≠ b := fun q => hne (hm.nd t sx b hb (q ▸ hc))
    walk_at "rq"
    refine r_ixL (SqL.of hm.l) hbr ?_
    walk_at "rq"
    refine ⟨b, _, rfl, .inl (SqL.of hbl), ?_⟩
    walk_at "rq"
    rw [rowV_len]
    refine ⟨by omega, by omega, ?_⟩
    rw [show ((m : Int)).toNat = m by omega]
    refine for_range (lo := 0) (n := m) (fun i σ' H' => ∃ v4, σ' = [some (.ref a), some (.int (t : Int)), some (.int (sx : Int)), some (.int f), v4] ∧ Ff b H H' ∧ H' b = some (.lst (rowV (partM M (csub M t sx f) i) m t))) ⟨_, rfl, Ff.refl, by
      rw [hbl]
      exact congrArg (fun l => some (HO.lst l)) (rowV_congr fun r hr => by unfold partM; rw [if_neg (Nat.not_lt_zero _)])⟩ ?_ ?_
    · rintro i σ' H1 hi ⟨v4, rfl, f1, hb1⟩
      have ha1 := f1.get hba hm.l
      have hc1 := f1.get hcb hcl
      walk_at "rq"
      rw [show (0 : Int) + (i : Int) = ((i : Nat) : Int) by omega]
      refine r_ixL (SqL.of ha1) hbr ?_
      walk_at "rq"
      refine r_ixL (SqL.of hb1) (rowV_get hi) ?_
      walk_at "rq"
      refine r_ixL (SqL.of ha1) hcr ?_
      walk_at "rq"
      refine r_ixL (SqL.of hc1) (rowV_get hi) ?_
      refine r_I (hmul i hi) ?_
      walk_at "rq"
      refine r_gsub ?_
      walk_at "rq"
      refine r_ixL (SqL.of ha1) hbr ?_
      walk_at "rq"
      refine r_setL hb1 (by rw [rowV_len]; exact hi) ?_
      walk_at "rq"
      refine ⟨f1.trans ⟨fun x u hx _ h => (upd_ne hx).trans h, Keep.mut hb1 fun xs z => nomatch z⟩, ?_⟩
      rw [upd_same]
      refine congrArg (fun l => some (HO.lst l)) (rowV_set hi fun q hq => ?_)
      unfold partM csub
      by_cases h : q = i
      · subst h
        rw [if_pos rfl, if_pos (by omega), if_pos rfl, if_neg (by omega)]
      · rw [if_neg h]
        by_cases h2 : q < i
        · rw [if_pos (by omega), if_pos h2]
        · rw [if_neg (by omega), if_neg h2]
    · rintro σ' H1 ⟨v4, rfl, f1, hb1⟩
      walk_at "rq"
      refine kq H1 f1 ⟨f1.get hba hm.l, hm.len, hm.nd, hm.ne, fun k x hx => ?_⟩
      by_cases e : x = b
      · subst e
        rw [hm.nd k t x hx hb, hb1]
        exact congrArg (fun l => some (HO.lst l)) (rowV_congr fun r hr => by unfold partM; rw [if_pos hr])
      · rw [f1.get e (hm.col k x hx)]
        refine congrArg (fun l => some (HO.lst l)) (rowV_congr fun r hr => ?_)
        unfold csub
        rw [if_neg fun q => ?_]
        subst q
        rw [hx] at hb
        cases hb
        exact e rfl
end
end Al
namespace Al
/-! ### k03: how far entries grow while a row is reduced -/
theorem fd_facts {e l : Int} (hl : l ≠ 0) : (e - e.fdiv l * l).natAbs < l.natAbs ∧ 0 ≤ (e - e.fdiv l * l) * l ∧ (1 + (e.fdiv l).natAbs) * l.natAbs ≤ 2 * l.natAbs + e.natAbs ∧ (0 ≤ e * l → e.natAbs = (e.fdiv l).natAbs * l.natAbs + (e - e.fdiv l * l).natAbs) := by
  have key : ∀ (e l : Int), 0 < l → (e - e.fdiv l * l).natAbs < l.natAbs ∧ 0 ≤ (e - e.fdiv l * l) * l ∧ (1 + (e.fdiv l).natAbs) * l.natAbs ≤ 2 * l.natAbs + e.natAbs ∧ (0 ≤ e * l → e.natAbs = (e.fdiv l).natAbs * l.natAbs + (e - e.fdiv l * l).natAbs) := by
    intro e l h
    rw [Int.fdiv_eq_ediv_of_nonneg e (by omega)]
    have h1 : e - e / l * l = e % l := by
      have := Int.emod_add_mul_ediv e l
      have h2 : l * (e / l) = e / l * l := Int.mul_comm _ _
      omega
    rw [h1]
    have h2 := Int.emod_nonneg e (show l ≠ 0 by omega)
    have h3 := Int.emod_lt_of_pos e h
    have h4 := Int.emod_add_mul_ediv e l
    have h5 : (e / l).natAbs * l.natAbs = (e / l * l).natAbs := (Int.natAbs_mul _ _).symm
    have h6 : l * (e / l) = e / l * l := Int.mul_comm _ _
    refine ⟨by omega, Int.mul_nonneg h2 (by omega), ?_, fun h7 => ?_⟩
    · rw [Nat.add_mul, h5]
      omega
    · have h8 : 0 ≤ e := by
        rcases Int.lt_or_le e 0 with h9 | h9
        · have := Int.mul_neg_of_neg_of_pos h9 h
          omega
        · exact h9
      have h9 : 0 ≤ e / l := Int.ediv_nonneg h8 (by omega)
      have h10 : 0 ≤ e / l * l := Int.mul_nonneg h9 (by omega)
      rw [h5]
      omega
  rcases Int.lt_or_gt_of_ne hl with h | h
  · have k := key (-e) (-l) (by omega)
    rw [Int.neg_fdiv_neg] at k
    have h1 : (-e - e.fdiv l * -l) = -(e - e.fdiv l * l) := by rw [Int.mul_neg]; omega
    rw [h1, Int.natAbs_neg, Int.natAbs_neg, Int.natAbs_neg, Int.neg_mul_neg, Int.neg_mul_neg] at k
    exact k
  · exact key e l h
theorem pot1 {b r m : Nat} (h : b + r ≤ m) : 8 * (b ^ 5 * r) ≤ m ^ 5 * b := by
  have h1 : 3 * b * r ≤ b * b + 10 * r * r := by
    have h : (0 : Int) ≤ (2 * (b : Int) - 3 * r) * (2 * (b : Int) - 3 * r) := by
      rcases Int.le_total 0 (2 * (b : Int) - 3 * r) with h | h
      · exact Int.mul_nonneg h h
      · exact Int.mul_nonneg_of_nonpos_of_nonpos h h
    have h2 : (2 * (b : Int) - 3 * r) * (2 * (b : Int) - 3 * r) = 4 * ((b : Int) * b) - 12 * ((b : Int) * r) + 9 * ((r : Int) * r) := by grind
    rw [h2] at h
    have h3 : (0 : Int) ≤ (r : Int) * r := Int.mul_nonneg (by omega) (by omega)
    have h4 : ((3 * b * r : Nat) : Int) ≤ ((b * b + 10 * r * r : Nat) : Int) := by
      rw [Int.natCast_add, Int.natCast_mul, Int.natCast_mul, Int.natCast_mul, Int.natCast_mul, Int.natCast_mul]
      have e1 : ((3 : Nat) : Int) * b * r = 3 * ((b : Int) * r) := by grind
      have e2 : ((10 : Nat) : Int) * r * r = 10 * ((r : Int) * r) := by grind
      rw [e1, e2]
      omega
    exact Int.ofNat_le.mp h4
  have h2 : (b + r) ^ 5 = b ^ 3 * (b * b + 10 * r * r) + (5 * (b ^ 4 * r) + 10 * (b ^ 2 * r ^ 3) + 5 * (b * r ^ 4) + r ^ 5) := by grind
  have h3 : b ^ 3 * (3 * b * r) ≤ b ^ 3 * (b * b + 10 * r * r) := Nat.mul_le_mul_left _ h1
  have h4 : b ^ 3 * (3 * b * r) = 3 * (b ^ 4 * r) := by grind
  have h5 : (b + r) ^ 5 ≤ m ^ 5 := Nat.pow_le_pow_left h 5
  have h6 : 8 * (b ^ 4 * r) ≤ m ^ 5 := by omega
  have h7 : 8 * (b ^ 5 * r) = 8 * (b ^ 4 * r) * b := by grind
  rw [h7]
  exact Nat.mul_le_mul_right _ h6
theorem pot2 {F : Nat} (h : 2 ≤ F) : (1 + F) ^ 3 ≤ F ^ 5 := by
  have h1 : (2 * (1 + F)) ^ 3 ≤ (3 * F) ^ 3 := Nat.pow_le_pow_left (by omega) 3
  have e1 : (2 * (1 + F)) ^ 3 = 8 * (1 + F) ^ 3 := by grind
  have e2 : (3 * F) ^ 3 = 27 * F ^ 3 := by grind
  have h2 : 4 ≤ F ^ 2 := Nat.pow_le_pow_left h 2
  have h3 : 4 * F ^ 3 ≤ F ^ 2 * F ^ 3 := Nat.mul_le_mul_right _ h2
  have e3 : F ^ 2 * F ^ 3 = F ^ 5 := by grind
  omega
theorem pot {b r m F : Nat} (h1 : r < b) (h2 : b + r ≤ m) (hF : F = m / b) (hb : 0 < b) : (1 + F) ^ 3 * (b ^ 5 * r) ≤ m ^ 5 * b := by
  have hFb : F * b ≤ m := by rw [hF]; exact Nat.div_mul_le_self m b
  by_cases h : 2 ≤ F
  · have e1 := pot2 h
    have e2 : (F * b) ^ 5 ≤ m ^ 5 := Nat.pow_le_pow_left hFb 5
    have e3 : (1 + F) ^ 3 * (b ^ 5 * r) ≤ F ^ 5 * (b ^ 5 * b) := Nat.mul_le_mul e1 (Nat.mul_le_mul_left _ (by omega))
    have e4 : F ^ 5 * (b ^ 5 * b) = (F * b) ^ 5 * b := by grind
    rw [e4] at e3
    exact Nat.le_trans e3 (Nat.mul_le_mul_right _ e2)
  · have e1 : (1 + F) ^ 3 ≤ 8 := Nat.pow_le_pow_left (show 1 + F ≤ 2 by omega) 3
    exact Nat.le_trans (Nat.mul_le_mul_right _ e1) (pot1 h2)
/-- the entries of the row that is reduced, from lo on; G: the growth so far; M: bound at the start -/
inductive Stage (M lo n : Nat) (e : Nat → Int) (G : Nat) : Prop
  | start : G = 1 → (∀ k, lo ≤ k → k < n → (e k).natAbs ≤ M) → Stage M lo n e G
  | live (m b : Nat) : 0 < b → (∀ k, lo ≤ k → k < n → (e k).natAbs ≤ m) → (∀ k, lo ≤ k → k < n → e k ≠ 0 → b ≤ (e k).natAbs) → (∃ k, lo ≤ k ∧ k < n ∧ (e k).natAbs = b) → (∀ k j, lo ≤ k → k < n → lo ≤ j → j < n → 0 ≤ e k * e j) →
      G ^ 3 * (m ^ 5 * b) ≤ 27 * M ^ 6 → Stage M lo n e G
  | done : G ^ 3 ≤ 216 * M ^ 6 → (∀ k j, lo ≤ k → k < n → lo ≤ j → j < n → e k ≠ 0 → e j ≠ 0 → k = j) → (∃ k, lo ≤ k ∧ k < n ∧ e k ≠ 0) → Stage M lo n e G
theorem le_of_cube {a b : Nat} (h : a ^ 3 ≤ b ^ 3) : a ≤ b := by
  rcases Nat.lt_or_ge b a with h1 | h1
  · have := Nat.pow_lt_pow_left h1 (show 3 ≠ 0 by decide)
    omega
  · exact h1
theorem Stage.end_ {M lo n G : Nat} {e : Nat → Int} (h : Stage M lo n e G) (hM : 0 < M) : G ≤ 6 * M ^ 2 := by
  refine le_of_cube ?_
  have e1 : (6 * M ^ 2) ^ 3 = 216 * M ^ 6 := by grind
  rw [e1]
  have hM6 : 1 ≤ M ^ 6 := Nat.pow_pos hM
  cases h with
  | start h1 h2 =>
    subst h1
    show 1 ≤ _
    omega
  | live m b h1 h2 h3 h4 h5 h6 =>
    obtain ⟨k, k1, k2, k3⟩ := h4
    have hm : 0 < m := by have := h2 k k1 k2; omega
    have : 1 ≤ m ^ 5 * b := Nat.mul_pos (Nat.pow_pos hm) h1
    have h7 : G ^ 3 * 1 ≤ G ^ 3 * (m ^ 5 * b) := Nat.mul_le_mul_left _ this
    omega
  | done h1 h2 _ => exact h1
theorem Stage.zero {M lo n G : Nat} {e : Nat → Int} (h : Stage M lo n e G) (hz : ∀ k, lo ≤ k → k < n → e k = 0) : G = 1 := by
  cases h with
  | start h1 _ => exact h1
  | live m b h1 h2 h3 h4 h5 h6 =>
    obtain ⟨k, k1, k2, k3⟩ := h4
    rw [hz k k1 k2] at k3
    have : (0 : Int).natAbs = 0 := rfl
    omega
  | done h1 h2 h3 =>
    obtain ⟨k, k1, k2, k3⟩ := h3
    exact absurd (hz k k1 k2) k3
/-- the least of finitely many -/
theorem least_of {p : Nat → Prop} {f : Nat → Nat} : ∀ (N : Nat), (∃ k, p k ∧ f k ≤ N) → ∃ k, p k ∧ ∀ j, p j → f k ≤ f j
  | 0, ⟨k, h1, h2⟩ => ⟨k, h1, fun j _ => by omega⟩
  | N + 1, ⟨k, h1, h2⟩ => by
    by_cases h : ∃ j, p j ∧ f j ≤ N
    · exact least_of N h
    · refine ⟨k, h1, fun j hj => ?_⟩
      rcases Nat.lt_or_ge (f j) (f k) with q | q
      · exact absurd ⟨j, hj, by omega⟩ h
      · exact q
theorem Stage.round {M lo n l G : Nat} {e e' : Nat → Int} (hs : Stage M lo n e G) (hM : 0 < M) (h1 : lo ≤ l) (h2 : l < n) (hel : e l ≠ 0) (hmin : ∀ k, lo ≤ k → k < n → e k ≠ 0 → (e l).natAbs ≤ (e k).natAbs)
    (hex : ∃ k, lo ≤ k ∧ k < n ∧ k ≠ l ∧ e k ≠ 0) (he : ∀ k, lo ≤ k → k < n → e' k = if k = l then e l else e k - (e k).fdiv (e l) * e l) :
    ∃ F, (∀ k, lo ≤ k → k < n → k ≠ l → ((e k).fdiv (e l)).natAbs ≤ F) ∧ Stage M lo n e' (G * (1 + F)) := by
  have hb0 : 0 < (e l).natAbs := by omega
  have hlt : ∀ k, lo ≤ k → k < n → k ≠ l → (e' k).natAbs < (e l).natAbs := fun k k1 k2 k3 => by
    rw [he k k1 k2, if_neg k3]
    exact (fd_facts hel).1
  have hle : ∀ k, lo ≤ k → k < n → (e' k).natAbs ≤ (e l).natAbs := fun k k1 k2 => by
    by_cases q : k = l
    · rw [he k k1 k2, if_pos q]; exact Nat.le_refl _
    · exact Nat.le_of_lt (hlt k k1 k2 q)
  have hsl : ∀ k, lo ≤ k → k < n → 0 ≤ e' k * e l := fun k k1 k2 => by
    rw [he k k1 k2]
    split
    · rcases Int.le_total 0 (e l) with h | h
      · exact Int.mul_nonneg h h
      · exact Int.mul_nonneg_of_nonpos_of_nonpos h h
    · exact (fd_facts hel).2.1
  have hsg : ∀ k j, lo ≤ k → k < n → lo ≤ j → j < n → 0 ≤ e' k * e' j := fun k j k1 k2 j1 j2 => by
    have q1 := hsl k k1 k2
    have q2 := hsl j j1 j2
    rcases Int.lt_or_gt_of_ne hel with h | h
    · have a1 : e' k ≤ 0 := by
        rcases Int.lt_or_le 0 (e' k) with q | q
        · have := Int.mul_neg_of_pos_of_neg q h
          omega
        · exact q
      have a2 : e' j ≤ 0 := by
        rcases Int.lt_or_le 0 (e' j) with q | q
        · have := Int.mul_neg_of_pos_of_neg q h
          omega
        · exact q
      exact Int.mul_nonneg_of_nonpos_of_nonpos a1 a2
    · have a1 : 0 ≤ e' k := by
        rcases Int.lt_or_le (e' k) 0 with q | q
        · have := Int.mul_neg_of_neg_of_pos q h
          omega
        · exact q
      have a2 : 0 ≤ e' j := by
        rcases Int.lt_or_le (e' j) 0 with q | q
        · have := Int.mul_neg_of_neg_of_pos q h
          omega
        · exact q
      exact Int.mul_nonneg a1 a2
  have hell : e' l = e l := by rw [he l h1 h2, if_pos rfl]
  -- is there another entry behind the round
  have fin : ∀ (G' : Nat), (∀ r k, lo ≤ k → k < n → k ≠ l → (e' k).natAbs = r → 0 < r → G' ^ 3 * ((e l).natAbs ^ 5 * r) ≤ 27 * M ^ 6) → G' ^ 3 ≤ 216 * M ^ 6 → Stage M lo n e' G' := by
    intro G' hp hd
    by_cases ho : ∃ k, lo ≤ k ∧ k < n ∧ k ≠ l ∧ e' k ≠ 0
    · obtain ⟨k, ⟨k1, k2, k3⟩, hk⟩ := least_of (p := fun k => lo ≤ k ∧ k < n ∧ e' k ≠ 0) (f := fun k => (e' k).natAbs) (e l).natAbs ⟨l, ⟨h1, h2, by rw [hell]; exact hel⟩, by rw [hell]; exact Nat.le_refl _⟩
      obtain ⟨j, j1, j2, j3, j4⟩ := ho
      have hkj := hk j ⟨j1, j2, j4⟩
      have hjl := hlt j j1 j2 j3
      have hkl : k ≠ l := fun q => by
        subst q
        rw [hell] at hkj
        omega
      refine .live (e l).natAbs (e' k).natAbs (by omega) hle (fun i i1 i2 i3 => hk i ⟨i1, i2, i3⟩) ⟨k, k1, k2, rfl⟩ hsg ?_
      exact hp _ k k1 k2 hkl rfl (by omega)
    · refine .done hd (fun k j k1 k2 j1 j2 k3 j3 => ?_) ⟨l, h1, h2, by rw [hell]; exact hel⟩
      by_cases a1 : k = l
      · by_cases a2 : j = l
        · rw [a1, a2]
        · exact absurd ⟨j, j1, j2, a2, j3⟩ ho
      · exact absurd ⟨k, k1, k2, a1, k3⟩ ho
  obtain ⟨j, j1, j2, j3, j4⟩ := hex
  have hM6 : 1 ≤ M ^ 6 := Nat.pow_pos hM
  cases hs with
  | done d1 d2 _ => exact absurd (d2 j l j1 j2 h1 h2 j4 hel) j3
  | start s1 s2 =>
    subst s1
    have hbM : (e l).natAbs ≤ M := s2 l h1 h2
    have hF : ∀ k, lo ≤ k → k < n → k ≠ l → ((e k).fdiv (e l)).natAbs ≤ M / (e l).natAbs + 1 := fun k k1 k2 _ => by
      have q := (fd_facts (e := e k) hel).2.2.1
      have q2 := s2 k k1 k2
      rw [Nat.add_mul] at q
      have q3 : (((e k).fdiv (e l)).natAbs - 1) * (e l).natAbs ≤ M := by rw [Nat.sub_mul]; omega
      have := (Nat.le_div_iff_mul_le hb0).mpr q3
      omega
    refine ⟨M / (e l).natAbs + 1, hF, ?_⟩
    have hG : (1 * (1 + (M / (e l).natAbs + 1))) * (e l).natAbs ≤ 3 * M := by
      have := Nat.div_mul_le_self M (e l).natAbs
      rw [Nat.one_mul, Nat.add_mul, Nat.add_mul]
      omega
    generalize 1 * (1 + (M / (e l).natAbs + 1)) = G' at *
    have c1 : (G' * (e l).natAbs) ^ 3 ≤ (3 * M) ^ 3 := Nat.pow_le_pow_left hG 3
    have c2 : (G' * (e l).natAbs) ^ 3 = G' ^ 3 * (e l).natAbs ^ 3 := by grind
    have c3 : (3 * M) ^ 3 = 27 * M ^ 3 := by grind
    rw [c2, c3] at c1
    have c4 : (e l).natAbs ^ 3 ≤ M ^ 3 := Nat.pow_le_pow_left hbM 3
    refine fin G' (fun r k k1 k2 k3 kr hr => ?_) ?_
    · have hrb : r ≤ (e l).natAbs := by rw [← kr]; exact Nat.le_of_lt (hlt k k1 k2 k3)
      have d1 : (e l).natAbs ^ 2 * r ≤ M ^ 3 := by
        have : (e l).natAbs ^ 2 * r ≤ (e l).natAbs ^ 2 * (e l).natAbs := Nat.mul_le_mul_left _ hrb
        have e3 : (e l).natAbs ^ 2 * (e l).natAbs = (e l).natAbs ^ 3 := by grind
        omega
      have d2 : G' ^ 3 * ((e l).natAbs ^ 5 * r) = (G' ^ 3 * (e l).natAbs ^ 3) * ((e l).natAbs ^ 2 * r) := by grind
      rw [d2]
      have d3 := Nat.mul_le_mul c1 d1
      have d4 : 27 * M ^ 3 * M ^ 3 = 27 * M ^ 6 := by grind
      omega
    · have d1 : 1 ≤ (e l).natAbs ^ 3 := Nat.pow_pos hb0
      have d2 : G' ^ 3 * 1 ≤ G' ^ 3 * (e l).natAbs ^ 3 := Nat.mul_le_mul_left _ d1
      have d3 : M ^ 3 ≤ M ^ 6 := Nat.pow_le_pow_right hM (by decide)
      omega
  | live m b v1 v2 v3 v4 v5 v6 =>
    obtain ⟨i, i1, i2, i3⟩ := v4
    have hb : (e l).natAbs = b := by
      have q1 := v3 l h1 h2 hel
      have q2 := hmin i i1 i2 (by omega)
      omega
    have hbm : b ≤ m := by have := v2 l h1 h2; omega
    have hF : ∀ k, lo ≤ k → k < n → k ≠ l → ((e k).fdiv (e l)).natAbs ≤ m / b := fun k k1 k2 _ => by
      have q := (fd_facts (e := e k) hel).2.2.2 (v5 k l k1 k2 h1 h2)
      have q2 := v2 k k1 k2
      rw [hb] at q
      exact (Nat.le_div_iff_mul_le v1).mpr (by omega)
    refine ⟨m / b, hF, ?_⟩
    refine fin _ (fun r k k1 k2 k3 kr hr => ?_) ?_
    · have hrb : r < b := by rw [← kr, ← hb]; exact hlt k k1 k2 k3
      have hek : e k ≠ 0 := by
        intro q
        have h0 := hlt k k1 k2 k3
        have := he k k1 k2
        rw [if_neg k3, q, Int.zero_fdiv, Int.zero_mul] at this
        rw [this] at kr
        have e0 : (0 - 0 : Int).natAbs = 0 := rfl
        omega
      have q := (fd_facts (e := e k) hel).2.2.2 (v5 k l k1 k2 h1 h2)
      have er : (e k - (e k).fdiv (e l) * e l).natAbs = r := by rw [← kr, he k k1 k2, if_neg k3]
      rw [er, hb] at q
      have hq1 : 1 ≤ ((e k).fdiv (e l)).natAbs := by
        rcases Nat.eq_zero_or_pos ((e k).fdiv (e l)).natAbs with z | z
        · rw [z, Nat.zero_mul, Nat.zero_add] at q
          have := v3 k k1 k2 hek
          omega
        · exact z
      have hbr : b + r ≤ m := by
        have a1 := v2 k k1 k2
        have a2 : 1 * b ≤ ((e k).fdiv (e l)).natAbs * b := Nat.mul_le_mul_right _ hq1
        omega
      have hp := pot hrb hbr rfl v1
      rw [hb]
      have d1 : (G * (1 + m / b)) ^ 3 * (b ^ 5 * r) = G ^ 3 * ((1 + m / b) ^ 3 * (b ^ 5 * r)) := by grind
      rw [d1]
      exact Nat.le_trans (Nat.mul_le_mul_left _ hp) v6
    · have hm : 0 < m := by omega
      have a1 : 1 + m / b ≤ 2 * m := by
        have := Nat.div_le_self m b
        omega
      have a2 : (1 + m / b) ^ 3 ≤ 8 * m ^ 3 := by
        have := Nat.pow_le_pow_left a1 3
        have e3 : (2 * m) ^ 3 = 8 * m ^ 3 := by grind
        omega
      have a3 : m ^ 3 ≤ m ^ 5 * b := by
        have q1 : m ^ 3 ≤ m ^ 5 := Nat.pow_le_pow_right hm (by decide)
        have q2 : m ^ 5 * 1 ≤ m ^ 5 * b := Nat.mul_le_mul_left _ v1
        omega
      have d1 : (G * (1 + m / b)) ^ 3 = G ^ 3 * (1 + m / b) ^ 3 := by grind
      rw [d1]
      have d2 : G ^ 3 * (1 + m / b) ^ 3 ≤ G ^ 3 * (8 * (m ^ 5 * b)) := Nat.mul_le_mul_left _ (by omega)
      have d3 : G ^ 3 * (8 * (m ^ 5 * b)) = 8 * (G ^ 3 * (m ^ 5 * b)) := by grind
      omega
/-- the sum of the entries' sizes: it falls -/
def mu (e : Nat → Int) : Nat → Nat
  | 0 => 0
  | n + 1 => mu e n + (e n).natAbs
theorem mu_le {e e' : Nat → Int} : ∀ n, (∀ k, k < n → (e' k).natAbs ≤ (e k).natAbs) → mu e' n ≤ mu e n
  | 0, _ => Nat.le_refl _
  | n + 1, h => Nat.add_le_add (mu_le n fun k hk => h k (by omega)) (h n (by omega))
theorem mu_lt {e e' : Nat → Int} : ∀ n, (∀ k, k < n → (e' k).natAbs ≤ (e k).natAbs) → (∃ k, k < n ∧ (e' k).natAbs < (e k).natAbs) → mu e' n < mu e n
  | 0, _, ⟨k, hk, _⟩ => by omega
  | n + 1, h, ⟨k, hk, hl⟩ => by
    by_cases q : k = n
    · subst q
      exact Nat.add_lt_add_of_le_of_lt (mu_le k fun i hi => h i (by omega)) hl
    · exact Nat.add_lt_add_of_lt_of_le (mu_lt n (fun i hi => h i (by omega)) ⟨k, by omega, hl⟩) (h n (by omega))
/-! the columns that are found -/
def fnd (e : Nat → Int) (first n : Nat) : List Nat := ((List.range (n - first)).map (first + ·)).filter fun k => decide (e k ≠ 0)
theorem mem_fnd {e : Nat → Int} {first n k : Nat} : k ∈ fnd e first n ↔ first ≤ k ∧ k < n ∧ e k ≠ 0 := by
  unfold fnd
  rw [List.mem_filter, List.mem_map]
  constructor
  · rintro ⟨⟨i, hi, rfl⟩, h⟩
    have := List.mem_range.mp hi
    exact ⟨by omega, by omega, of_decide_eq_true h⟩
  · rintro ⟨h1, h2, h3⟩
    exact ⟨⟨k - first, List.mem_range.mpr (by omega), by omega⟩, decide_eq_true h3⟩
theorem fnd_inj (e : Nat → Int) (first n : Nat) : ∀ (i j x : Nat), (fnd e first n)[i]? = some x → (fnd e first n)[j]? = some x → i = j := by
  have hs : (fnd e first n).Pairwise (· < ·) := by
    unfold fnd
    refine List.Pairwise.filter _ ?_
    rw [List.pairwise_map]
    exact List.Pairwise.imp (fun h => by omega) List.pairwise_lt_range
  intro i j x h1 h2
  obtain ⟨l1, v1⟩ := List.getElem?_eq_some_iff.mp h1
  obtain ⟨l2, v2⟩ := List.getElem?_eq_some_iff.mp h2
  rcases Nat.lt_trichotomy i j with h | h | h
  · have := (List.pairwise_iff_getElem.mp hs) i j l1 l2 h
    omega
  · exact h
  · have := (List.pairwise_iff_getElem.mp hs) j i l2 l1 h
    omega
theorem fnd_len (e : Nat → Int) (first n : Nat) : (fnd e first n).length ≤ n := by
  unfold fnd
  have h1 := List.length_filter_le (fun k => decide (e k ≠ 0)) ((List.range (n - first)).map (first + ·))
  rw [List.length_map, List.length_range] at h1
  omega
theorem fnd_one {e : Nat → Int} {first n : Nat} (h : (fnd e first n).length ≤ 1) : ∀ k j, first ≤ k → k < n → first ≤ j → j < n → e k ≠ 0 → e j ≠ 0 → k = j := by
  intro k j k1 k2 j1 j2 k3 j3
  have hk := mem_fnd.mpr ⟨k1, k2, k3⟩
  have hj := mem_fnd.mpr ⟨j1, j2, j3⟩
  match hq : fnd e first n, h with
  | [], _ => rw [hq] at hk; cases hk
  | [x], _ =>
    rw [hq] at hk hj
    rw [List.mem_singleton.mp hk, List.mem_singleton.mp hj]
/-- a round's columns, some of them done -/
def elim (M : Nat → Nat → Int) (q : Nat → Int) (l : Nat) (S : List Nat) : Nat → Nat → Int := fun k r => if k ∈ S ∧ k ≠ l then M k r - q k * M l r else M k r
theorem elim_nil (M : Nat → Nat → Int) (q : Nat → Int) (l : Nat) : elim M q l [] = M := by
  funext k r
  unfold elim
  rw [if_neg (fun h => by cases h.1)]
theorem elim_l (M : Nat → Nat → Int) (q : Nat → Int) (l : Nat) (S : List Nat) (r : Nat) : elim M q l S l r = M l r := by
  unfold elim
  rw [if_neg (fun h => h.2 rfl)]
theorem elim_snoc {M : Nat → Nat → Int} {q : Nat → Int} {l x : Nat} {S : List Nat} (hx : x ∉ S) (hl : x ≠ l) : csub (elim M q l S) x l (q x) = elim M q l (S ++ [x]) := by
  funext k r
  unfold csub
  rw [elim_l]
  by_cases hk : k = x
  · subst hk
    rw [if_pos rfl]
    unfold elim
    rw [if_neg (fun h => hx h.1), if_pos ⟨List.mem_append_right _ (List.mem_singleton.mpr rfl), hl⟩]
  · rw [if_neg hk]
    unfold elim
    have : (k ∈ S ++ [x]) ↔ k ∈ S := by
      rw [List.mem_append, List.mem_singleton]
      exact ⟨fun h => h.resolve_right hk, .inl⟩
    by_cases h : k ∈ S ∧ k ≠ l
    · rw [if_pos h, if_pos ⟨this.mpr h.1, h.2⟩]
    · rw [if_neg h, if_neg fun h2 => h ⟨this.mp h2.1, h2.2⟩]
theorem elim_skip {M : Nat → Nat → Int} {q : Nat → Int} {l : Nat} {S : List Nat} : elim M q l (S ++ [l]) = elim M q l S := by
  funext k r
  unfold elim
  by_cases h : k ∈ S ∧ k ≠ l
  · rw [if_pos h, if_pos ⟨List.mem_append_left _ h.1, h.2⟩]
  · rw [if_neg h, if_neg fun h2 => h ⟨(List.mem_append.mp h2.1).resolve_right fun h3 => h2.2 (List.mem_singleton.mp h3), h2.2⟩]
theorem elim_bd {M : Nat → Nat → Int} {q : Nat → Int} {l k r F X : Nat} {S : List Nat} (hk : (M k r).natAbs ≤ X) (hl : (M l r).natAbs ≤ X) (hq : k ∈ S → k ≠ l → (q k).natAbs ≤ F) : (elim M q l S k r).natAbs ≤ (1 + F) * X := by
  unfold elim
  have e1 : (1 + F) * X = X + F * X := by grind
  split
  · rename_i h
    have h1 := hq h.1 h.2
    have h2 : (q k * M l r).natAbs ≤ F * X := by
      rw [Int.natAbs_mul]
      exact Nat.mul_le_mul h1 hl
    omega
  · omega
end Al
namespace Al
open PySem PySem.Spec PyProof.Rows L2 NdefX PySem.W
local macro_rules | `(tactic| walk_at "rd1") => `(tactic| with_reducible first
  | (show tVar _ _ _ _; refine r_var (by with_unfolding_all rfl) ?_) | refine r_c ?_ | refine r_op ?_ | refine r_I0 ?_ | refine r_un ?_ | refine r_U ?_
  | (show rI _ _ _ _ _ _; refine r_I (by with_unfolding_all first | exact ⟨by decide, by decide⟩ | (show (0 : Int) < _; decide)) ?_)
  | refine r_eqI ?_ | refine r_neI ?_ | refine r_eqS ?_ | refine r_neS ?_ | refine r_eqB ?_ | refine r_neB ?_ | refine r_chain ?_
  | refine r_test ?_ | refine r_B ?_ | refine r_bl ?_ | refine r_int ?_ | refine r_and ?_ | refine r_or ?_ | refine r_not ?_ | refine r_andV ?_ | refine r_orV ?_ | refine r_notV ?_
  | refine r_if ?_ | refine r_nil ?_ | refine r_cons ?_ | refine r_cb ?_ | refine r_call ?_ | refine r_callS ?_ | refine r_tup ?_ | refine r_lst ?_ | refine r_seq ?_ | refine r_next ?_ | refine r_asg ?_
  | refine r_name ?_ | refine r_ifS ?_ | refine r_ret ?_ | refine r_retN ?_ | refine r_drop ?_ | refine r_brk ?_ | refine r_ct ?_ | refine r_sl ?_ | refine r_part ?_ | refine r_nopart ?_
  | refine r_bm ?_ | refine r_bm0 ?_ | refine r_raiseX ?_ | refine r_mkO ?_ | refine iteF ?_ | refine iteT ?_ | refine r_int1 ?_ | refine r_int1b ?_ | (show _ ≤ sizeLine ∧ _; refine r_sz (by with_unfolding_all first | omega | (simp only [List.length_cons, List.length_nil]; omega)) ?_)
  | (show ∃ _, _; refine ⟨_, rfl, ?_⟩) | (show ∃ _, _; refine ⟨_, _, rfl, rfl, ?_⟩) | (show ∃ _, _; refine ⟨_, _, rfl, ?_⟩))
local macro_rules | `(tactic| walk_at "rd") => `(tactic| repeat (walk_at "rd1"))
local macro_rules | `(tactic| walk_at "rd2") => `(tactic| with_reducible first
  | (show tFld _ _ _ _ _ _; refine r_fldI (by with_unfolding_all rfl) (by with_unfolding_all assumption) (by with_unfolding_all assumption) (by with_unfolding_all assumption) (by with_unfolding_all rfl) ?_)
  | (show tMetS _ _ _ _ _ _ _ _ _; refine r_rm (by with_unfolding_all assumption) (by with_unfolding_all rfl) (by decide) ?_)
  | refine r_sfl ?_ | refine iteNF ?_ | refine iteNT ?_ | refine r_makS ?_)
local macro_rules | `(tactic| walk_at "rp") => `(tactic| repeat first | walk_at "rd1" | walk_at "rd2")
local macro_rules | `(tactic| walk_at "rq1") => `(tactic| with_reducible first | refine r_rng1 ?_ | refine r_rng2 ?_ | refine r_forL ?_ | refine r_forT ?_ | refine r_dget ?_ | refine r_pnil ?_ | refine r_pcons ?_ | refine r_lcL ?_ | refine r_lcT ?_ | refine r_lcR ?_ | refine r_yes ?_ | refine r_disp ?_)
local macro_rules | `(tactic| walk_at "rq") => `(tactic| repeat first | walk_at "rd1" | walk_at "rd2" | walk_at "rq1")

def FrM (a b : Addr) (as bs : List Addr) (H H' : Hp) : Prop := ∀ x u, x ∉ a :: as → x ∉ b :: bs → H x = some u → H' x = some u
theorem FrM.trans {a b : Addr} {as bs : List Addr} {H H1 H2 : Hp} (h : FrM a b as bs H H1) (g : FrM a b as bs H1 H2) : FrM a b as bs H H2 := fun x u h1 h2 e => g x u h1 h2 (h x u h1 h2 e)
theorem FrM.same {a b : Addr} {as bs : List Addr} {H H1 : Hp} (s : Same H H1) : FrM a b as bs H H1 := fun x u _ _ e => s x u e
structure RI (a b : Addr) (as bs : List Addr) (A C : Nat → Nat → Int) (H : Hp) (n m row first B G : Nat) (C1 T1 : Nat → Nat → Int) (H1 : Hp) : Prop where
  fr : FrM a b as bs H H1
  c : Mat H1 a as C1 n m
  t : Mat H1 b bs T1 n n
  tn : Tn A n m C1 T1
  low : ∀ k, k < first → ∀ r, r < m → C1 k r = C k r
  zp : ∀ r, r < m → (∀ k, first ≤ k → k < n → C k r = 0) → ∀ k, first ≤ k → k < n → C1 k r = 0
  bc : ∀ k, k < n → ∀ r, r < m → (C1 k r).natAbs ≤ G * B
  bt : ∀ k, k < n → ∀ j, j < n → (T1 k j).natAbs ≤ G * B
  st : Stage B first n (fun k => C1 k row) G
def muR (C1 : Nat → Nat → Int) (row first n : Nat) : Nat := mu (fun k => if first ≤ k then C1 k row else 0) n
def redW (a b : Addr) (as bs : List Addr) (A C : Nat → Nat → Int) (H : Hp) (n m row first B : Nat) : Nat → L2.St → Hp → Prop := fun μ σ' H1 => ∃ (v5 v6 v7 v8 : Option V) (G : Nat) (C1 T1 : Nat → Nat → Int),
  σ' = [some (.ref a), some (.ref b), some (.int (row : Int)), some (.int (first : Int)), some (.int (n : Int)), v5, v6, v7, v8] ∧ RI a b as bs A C H n m row first B G C1 T1 H1 ∧ μ = muR C1 row first n
/-- a round's columns are what the loop goes on with -/
theorem RI.round {a b : Addr} {as bs : List Addr} {A C C1 T1 : Nat → Nat → Int} {H H1 H2 : Hp} {n m row first B G l : Nat} (R : RI a b as bs A C H n m row first B G C1 T1 H1) (hB : 0 < B) (hrow : row < m)
    (h2 : 2 ≤ (fnd (fun k => C1 k row) first n).length) (hl : l ∈ fnd (fun k => C1 k row) first n) (hmin : ∀ k ∈ fnd (fun k => C1 k row) first n, (C1 l row).natAbs ≤ (C1 k row).natAbs) (q : Nat → Int) (hq : ∀ k, q k = (C1 k row).fdiv (C1 l row))
    (fr : FrM a b as bs H1 H2) (hc : Mat H2 a as (elim C1 q l (fnd (fun k => C1 k row) first n)) n m) (ht : Mat H2 b bs (elim T1 q l (fnd (fun k => C1 k row) first n)) n n) (tn : Tn A n m (elim C1 q l (fnd (fun k => C1 k row) first n)) (elim T1 q l (fnd (fun k => C1 k row) first n))) :
    ∃ G', RI a b as bs A C H n m row first B G' (elim C1 q l (fnd (fun k => C1 k row) first n)) (elim T1 q l (fnd (fun k => C1 k row) first n)) H2 ∧ muR (elim C1 q l (fnd (fun k => C1 k row) first n)) row first n < muR C1 row first n := by
  obtain ⟨l1, l2, l3⟩ := mem_fnd.mp hl
  have l3 : C1 l row ≠ 0 := l3
  have hex : ∃ k, first ≤ k ∧ k < n ∧ k ≠ l ∧ C1 k row ≠ 0 := by
    match hf : fnd (fun k => C1 k row) first n, h2 with
    | x :: y :: r, _ =>
      have hx : x ∈ fnd (fun k => C1 k row) first n := by rw [hf]; simp
      have hy : y ∈ fnd (fun k => C1 k row) first n := by rw [hf]; simp
      have hxy : x ≠ y := fun e => by
        have := fnd_inj (fun k => C1 k row) first n 0 1 x (by rw [hf]; rfl) (by rw [hf, e]; rfl)
        omega
      by_cases e : x = l
      · obtain ⟨y1, y2, y3⟩ := mem_fnd.mp hy
        exact ⟨y, y1, y2, fun e2 => hxy (by rw [e, e2]), y3⟩
      · obtain ⟨y1, y2, y3⟩ := mem_fnd.mp hx
        exact ⟨x, y1, y2, e, y3⟩
  have he : ∀ k, first ≤ k → k < n → elim C1 q l (fnd (fun k => C1 k row) first n) k row = if k = l then C1 l row else C1 k row - (C1 k row).fdiv (C1 l row) * C1 l row := by
    intro k k1 k2
    unfold elim
    by_cases e : k = l
    · rw [if_pos e, if_neg (fun h => h.2 e), e]
    · rw [if_neg e]
      by_cases h : k ∈ fnd (fun k => C1 k row) first n
      · rw [if_pos ⟨h, e⟩, hq]
      · have h0 : C1 k row = 0 := by
          rcases Decidable.em (C1 k row = 0) with h0 | h0
          · exact h0
          · exact absurd (mem_fnd.mpr ⟨k1, k2, h0⟩) h
        rw [if_neg (fun h2 => h h2.1), h0, Int.zero_fdiv, Int.zero_mul]
        rfl
  obtain ⟨F, hF, hst⟩ := R.st.round (e' := fun k => elim C1 q l (fnd (fun k => C1 k row) first n) k row) hB l1 l2 l3 (fun k k1 k2 k3 => hmin k (mem_fnd.mpr ⟨k1, k2, k3⟩)) hex he
  have hqF : ∀ k, k ∈ fnd (fun k => C1 k row) first n → k ≠ l → (q k).natAbs ≤ F := fun k hk hkl => by
    obtain ⟨k1, k2, k3⟩ := mem_fnd.mp hk
    rw [hq]
    exact hF k k1 k2 hkl
  have eG : (1 + F) * (G * B) = G * (1 + F) * B := by grind
  refine ⟨G * (1 + F), ⟨R.fr.trans fr, hc, ht, tn, fun k hk r hr => ?_, fun r hr hz k k1 k2 => ?_, fun k hk r hr => ?_, fun k hk r hr => ?_, hst⟩, ?_⟩
  · rw [← R.low k hk r hr]
    unfold elim
    rw [if_neg fun h => by have := (mem_fnd.mp h.1).1; omega]
  · have h1 := R.zp r hr hz
    unfold elim
    split
    · rw [h1 k k1 k2, h1 l l1 l2]
      grind
    · exact h1 k k1 k2
  · rw [← eG]
    exact elim_bd (R.bc k hk r hr) (R.bc l l2 r hr) (hqF k)
  · rw [← eG]
    exact elim_bd (R.bt k hk r hr) (R.bt l l2 r hr) (hqF k)
  · obtain ⟨j, j1, j2, j3, j4⟩ := hex
    have hlt : ∀ k, first ≤ k → k < n → k ≠ l → C1 k row ≠ 0 → (elim C1 q l (fnd (fun k => C1 k row) first n) k row).natAbs < (C1 k row).natAbs := fun k k1 k2 k3 k4 => by
      rw [he k k1 k2, if_neg k3]
      exact Nat.lt_of_lt_of_le (fd_facts l3).1 (hmin k (mem_fnd.mpr ⟨k1, k2, k4⟩))
    refine mu_lt n (fun k hk => ?_) ⟨j, j2, ?_⟩
    · split
      · rename_i k1
        by_cases e : k = l
        · rw [he k k1 hk, if_pos e, e]
          exact Nat.le_refl _
        · by_cases e0 : C1 k row = 0
          · rw [he k k1 hk, if_neg e, e0, Int.zero_fdiv, Int.zero_mul]
            exact Nat.le_refl _
          · exact Nat.le_of_lt (hlt k k1 hk e e0)
      · exact Nat.le_refl _
    · rw [if_pos j1, if_pos j1]
      exact hlt j j1 j2 j3 j4
def spReduce : Sp := fun vs H Q _ => ∃ (a b : Addr) (as bs : List Addr) (A C T : Nat → Nat → Int) (n m row first B z : Nat), vs = [.ref a, .ref b, .int (row : Int), .int (first : Int)] ∧ Mat H a as C n m ∧ Mat H b bs T n n ∧ (∀ x, x ∈ a :: as → x ∈ b :: bs → False) ∧
  (row < m ∧ first < n ∧ n ≤ 1000 ∧ m ≤ 1000) ∧ Tn A n m C T ∧ ((∀ k, k < n → ∀ r, r < m → (C k r).natAbs ≤ B) ∧ (∀ k, k < n → ∀ j, j < n → (T k j).natAbs ≤ B)) ∧ (0 < B ∧ 6 * B ^ 3 < 2 ^ z ∧ z ≤ 60000000) ∧
  ∀ (C' T' : Nat → Nat → Int) (as' bs' : List Addr) (res : Bool) (H' : Hp), FrM a b as bs H H' → Mat H' a as' C' n m → Mat H' b bs' T' n n → ((∀ x, x ∈ as' → x ∈ as) ∧ ∀ x, x ∈ bs' → x ∈ bs) → Tn A n m C' T' → (∀ k, k < first → ∀ r, r < m → C' k r = C k r) →
    (∀ r, r < m → (∀ k, first ≤ k → k < n → C k r = 0) → ∀ k, first ≤ k → k < n → C' k r = 0) → (∀ k, first < k → k < n → C' k row = 0) → (if res = true then C' first row ≠ 0 else C' first row = 0) →
    (∀ k, k < n → ∀ r, r < m → (C' k r).natAbs ≤ if res = true then 6 * B ^ 3 else B) → (∀ k, k < n → ∀ j, j < n → (T' k j).natAbs ≤ if res = true then 6 * B ^ 3 else B) → Q (.bl res) H'
section
variable {P : Program} {w : World} {K : Frag} {mg : Str → Option Value} {base : Heap}
abbrev s_reduce_row : Stmt := top 12
theorem sc_reduce_row : FnScope ["columns", "turns", "row", "first", "count", "found", "k", "least", "factor"] ["columns", "turns", "row", "first"] (defScope s_reduce_row) := ⟨rfl, rfl, rfl, by decide +kernel, rfl, by decide +kernel, by decide +kernel⟩
theorem cal_reduce_row (Z : Seer K P) (dx : DefAt K mg "reduce_row" s_reduce_row) (B : Bl mg) (G_subtract : Cal P w K mg base 1 "subtract" ["columns", "target", "source", "times_by"] spSub) : Cal P w K mg base 40 "reduce_row" ["columns", "turns", "row", "first"] spReduce := by
  refine cal_mk dx sc_reduce_row (fun _ _ _ _ _ _ us hl => match us, hl with | [_, _, _, _], _ => rfl) (fun vs H Q E h => ?_) (fun fn cdv AA outer s H vs Q E hr h => ?_)
  · obtain ⟨a, b, as, bs, A, C, T, n, m, row, first, B, z, rfl, _⟩ := h
    rfl
  · obtain ⟨a, b, as, bs, A, C, T, n, m, row, first, Bd, z, rfl, hC, hT, hdj, ⟨hrow, hfirst, hn, hm⟩, htn, ⟨hbc, hbt⟩, ⟨hB0, hBz, hz⟩, kq⟩ := h
    have tk : L2N.Takes (cxOf (L2N.CX P w) P w K mg base ["columns", "turns", "row", "first", "count", "found", "k", "least", "factor"] "reduce_row" (defScope s_reduce_row) fn cdv AA outer s H E) (fun cls d _ H => E cls d H) := L2N.takes_of rfl rfl rfl rfl
    have hdp : (cxOf (L2N.CX P w) P w K mg base ["columns", "turns", "row", "first", "count", "found", "k", "least", "factor"] "reduce_row" (defScope s_reduce_row) fn cdv AA outer s H E).A.depth + 105 < recursionLimit := by
      have := hr.dp
      show (AA.deeper _).depth + 105 < _
      omega
    refine ⟨_, (pss_cons (ps_set (i := 4) sc_reduce_row.nd rfl (Or.inl rfl) (pe_callB call_len_seq (by rfl) B.len PySem.boot_len (pa_cons (pv 0) pa_nil)))
      (pss_cons (ps_while (passes_of rfl) (pt_val pe_bl)
      (pss_cons (ps_setLc (i := 5) (own := [("k", 6)]) rfl sc_reduce_row.nd rfl rfl (sw_true rfl rfl rfl (by decide +kernel)) (pi_range2 (by rfl) B.range (pa_cons (pv 3) (pa_cons (pv 4) pa_nil))) (blkOk_by (N := ["columns", "turns", "row", "first", "count", "found", "k", "least", "factor"]) (sc := defScope s_reduce_row) (by decide +kernel)) (fun _ _ _ _ _ => (pg_name (i := 6) sc_reduce_row.nd rfl (Or.inl rfl))) (fun _ _ _ _ _ => (pts_one (pt_cmpR op_ne (pe_ix (ix_listK (K := K) rfl) (pe_ix (ix_listK (K := K) rfl) (pv 0) (pv 6) (fun _ _ => rfl)) (pv 2) (fun _ _ => rfl)) pe_int (nomark _)))) (fun _ _ _ _ _ => (pv 6)))
      (pss_cons (ps_if (pt_cmpR op_le (pe_callB call_len_seq (by rfl) B.len PySem.boot_len (pa_cons (pv 5) pa_nil)) pe_int (nomark _))
      (pss_one ps_break)
      pss_nil)
      (pss_cons (ps_set (i := 7) sc_reduce_row.nd rfl (Or.inl rfl) (pe_ix ix_list (pv 5) pe_int (fun _ _ => rfl)))
      (pss_cons (ps_for (passes_of rfl) rfl (pi_list (pv 5)) (pg_name (i := 6) sc_reduce_row.nd rfl (Or.inl rfl))
      (pss_one (ps_if (pt_cmpR op_lt (pe_callB call_abs (by rfl) B.abs (by decide +kernel) (pa_cons (pe_ix ix_list (pe_ix ix_list (pv 0) (pv 6) (fun _ _ => rfl)) (pv 2) (fun _ _ => rfl)) pa_nil)) (pe_callB call_abs (by rfl) B.abs (by decide +kernel) (pa_cons (pe_ix ix_list (pe_ix ix_list (pv 0) (pv 7) (fun _ _ => rfl)) (pv 2) (fun _ _ => rfl)) pa_nil)) (nomark _))
      (pss_one (ps_set (i := 7) sc_reduce_row.nd rfl (Or.inl rfl) (pv 6)))
      pss_nil)))
      (pss_one (ps_for (passes_of rfl) rfl (pi_list (pv 5)) (pg_name (i := 6) sc_reduce_row.nd rfl (Or.inl rfl))
      (pss_one (ps_if (pt_cmpR op_ne (pv 6) (pv 7) (nomark _))
      (pss_cons (ps_set (i := 8) sc_reduce_row.nd rfl (Or.inl rfl) (pe_op (op_fdivA Z rfl rfl rfl hdp) (pe_ix ix_list (pe_ix ix_list (pv 0) (pv 6) (fun _ _ => rfl)) (pv 2) (fun _ _ => rfl)) (pe_ix ix_list (pe_ix ix_list (pv 0) (pv 7) (fun _ _ => rfl)) (pv 2) (fun _ _ => rfl))))
      (pss_cons (ps_expr (pe_cal G_subtract (hr.mono (by first | decide | omega)) tk (pa_cons (pv 0) (pa_cons (pv 6) (pa_cons (pv 7) (pa_cons (pv 8) pa_nil))))))
      (pss_one (ps_expr (pe_cal G_subtract (hr.mono (by first | decide | omega)) tk (pa_cons (pv 1) (pa_cons (pv 6) (pa_cons (pv 7) (pa_cons (pv 8) pa_nil)))))))))
      pss_nil)))))))))
      (pss_cons (ps_if (pt_truth (pv 5) (by intro _; rfl))
      (pss_cons (ps_asg (pe_tup (pa_cons (pe_ix ix_list (pv 0) (pe_ix ix_list (pv 5) pe_int (fun _ _ => rfl)) (fun _ _ => rfl)) (pa_cons (pe_ix ix_list (pv 0) (pv 3) (fun _ _ => rfl)) pa_nil))) (pg_tup rfl (pgs_cons (pg_sub (pv 0) (pv 3) set_list) (pgs_cons (pg_sub (pv 0) (pe_ix ix_list (pv 5) pe_int (fun _ _ => rfl)) set_list) pgs_nil))))
      (pss_cons (ps_asg (pe_tup (pa_cons (pe_ix ix_list (pv 1) (pe_ix ix_list (pv 5) pe_int (fun _ _ => rfl)) (fun _ _ => rfl)) (pa_cons (pe_ix ix_list (pv 1) (pv 3) (fun _ _ => rfl)) pa_nil))) (pg_tup rfl (pgs_cons (pg_sub (pv 1) (pv 3) set_list) (pgs_cons (pg_sub (pv 1) (pe_ix ix_list (pv 5) pe_int (fun _ _ => rfl)) set_list) pgs_nil))))
      (pss_one (ps_ret pe_bl))))
      pss_nil)
      (pss_one (ps_ret pe_bl))))), ?_⟩
    walk_at "rq"
    refine ⟨a, _, rfl, .inl (SqL.of hC.l), ?_⟩
    walk_at "rq"
    rw [List.length_map, hC.len]
    have R0 : RI a b as bs A C H n m row first Bd 1 C T H := ⟨fun x u _ _ e => e, hC, hT, htn, fun k _ r _ => rfl, fun r _ hz => hz, fun k hk r hr => by rw [Nat.one_mul]; exact hbc k hk r hr, fun k hk r hr => by rw [Nat.one_mul]; exact hbt k hk r hr, .start rfl fun k _ k2 => hbc k k2 row hrow⟩
    refine ⟨redW a b as bs A C H n m row first Bd, ⟨_, _, _, _, _, 1, C, T, rfl, R0, rfl⟩, ?_⟩
    rintro μ σ' H1 ⟨v5, v6, v7, v8, G, C1, T1, rfl, R, rfl⟩
    walk_at "rq"
    refine ⟨fun σ'' H'' => ∃ m', m' < muR C1 row first n ∧ redW a b as bs A C H n m row first Bd m' σ'' H'', fun _ _ h => h, ?_⟩
    walk_at "rq"
    refine r_lcR2 ?_
    walk_at "rq"
    refine ⟨⟨by omega, by omega, by omega, by omega⟩, fun D hD => ?_⟩
    rw [show ((n : Int) - (first : Int)).toNat = n - first by omega]
    have hGB : G * Bd < 2 ^ z := by
      have h1 := R.st.end_ hB0
      have h2 : G * Bd ≤ 6 * Bd ^ 2 * Bd := Nat.mul_le_mul_right _ h1
      have h3 : 6 * Bd ^ 2 * Bd = 6 * Bd ^ 3 := by grind
      omega
    refine lcw_rangeT (lo := (first : Int)) (n := n - first) (fun i H' => Same H1 H' ∧ H' D = some (.lst ((((List.range i).map (first + ·)).filter fun k => decide (C1 k row ≠ 0)).map fun k => V.int ((k : Nat) : Int)))) ⟨Same.new hD, upd_same⟩ ?_ ?_
    · rintro i H2 hi ⟨s2, h2⟩
      obtain ⟨bk, hbk, hbl, hbr, hba⟩ := (R.c.keep s2).at_ (k := first + i) (by omega)
      walk_at "rq"
      rw [show (first : Int) + (i : Int) = ((first + i : Nat) : Int) by omega]
      refine r_ixL (SqL.of (R.c.keep s2).l) hbr ?_
      walk_at "rq"
      refine r_ixL (SqL.of hbl) (rowV_get hrow) ?_
      walk_at "rq"
      have hle : ((((List.range i).map (first + ·)).filter fun k => decide (C1 k row ≠ 0)).map fun k => V.int ((k : Nat) : Int)).length ≤ 1000 := by
        rw [List.length_map]
        have h1 := List.length_filter_le (fun k => decide (C1 k row ≠ 0)) ((List.range i).map (first + ·))
        rw [List.length_map, List.length_range] at h1
        omega
      have he : ((List.range (i + 1)).map (first + ·)).filter (fun k => decide (C1 k row ≠ 0)) = ((List.range i).map (first + ·)).filter (fun k => decide (C1 k row ≠ 0)) ++ (if C1 (first + i) row ≠ 0 then [first + i] else []) := by
        rw [List.range_succ, List.map_append, List.filter_append]
        by_cases h : C1 (first + i) row = 0 <;> simp [h]
      by_cases h0 : C1 (first + i) row = 0
      · rw [decide_eq_true h0]
        walk_at "rq"
        refine ⟨s2, ?_⟩
        rw [he, if_neg (fun h => h h0), List.append_nil]
        exact h2
      · rw [decide_eq_false h0]
        walk_at "rq"
        refine ⟨_, h2, by rw [sizeLine_eq]; omega, Same.mut s2 hD, ?_⟩
        rw [upd_same, he, if_pos h0, List.map_append]
        rfl
    · rintro H2 ⟨s2, h2⟩
      have hfl : ((List.range (n - first)).map (first + ·)).filter (fun k => decide (C1 k row ≠ 0)) = fnd (fun k => C1 k row) first n := rfl
      rw [hfl] at h2
      have hc2 := R.c.keep s2
      have ht2 := R.t.keep s2
      have hDa := R.c.fresh hD
      have hDb := R.t.fresh hD
      walk_at "rq"
      refine ⟨D, _, rfl, .inl (SqL.of h2), ?_⟩
      walk_at "rq"
      rw [List.length_map]
      refine r_ite (fun h1 => ?_) (fun h1 => ?_)
      · have h1 := of_decide_eq_true h1
        have hone := fnd_one (e := fun k => C1 k row) (first := first) (n := n) (by omega)
        walk_at "rq"
        refine ⟨_, .inl ⟨_, SqL.of h2, rfl⟩, ?_⟩
        have fr2 : FrM a b as bs H H2 := R.fr.trans (.same s2)
        cases hfe : fnd (fun k => C1 k row) first n with
        | nil =>
          have hz0 : ∀ k, first ≤ k → k < n → C1 k row = 0 := fun k k1 k2 => by
            rcases Decidable.em (C1 k row = 0) with h0 | h0
            · exact h0
            · have := mem_fnd (e := fun k => C1 k row) |>.mpr ⟨k1, k2, h0⟩
              rw [hfe] at this
              cases this
          have hG := R.st.zero hz0
          subst hG
          have hbc1 := R.bc
          have hbt1 := R.bt
          rw [Nat.one_mul] at hbc1 hbt1
          show if false = true then _ else _
          walk_at "rq"
          exact kq C1 T1 as bs false H2 fr2 hc2 ht2 ⟨fun x h => h, fun x h => h⟩ R.tn R.low R.zp (fun k k1 k2 => hz0 k (by omega) k2) (hz0 first (Nat.le_refl _) hfirst) hbc1 hbt1
        | cons l r =>
          have hl : l ∈ fnd (fun k => C1 k row) first n := by rw [hfe]; exact List.mem_cons_self
          obtain ⟨l1, l2, l3⟩ := mem_fnd.mp hl
          have l3 : C1 l row ≠ 0 := l3
          obtain ⟨bl, hbl, _, hblr, hbla⟩ := hc2.at_ l2
          obtain ⟨bf, hbf, _, hbfr, hbfa⟩ := hc2.at_ hfirst
          obtain ⟨tl, htl, _, htlr, htla⟩ := ht2.at_ l2
          obtain ⟨tf, htf, _, htfr, htfa⟩ := ht2.at_ hfirst
          have h20 : ((fnd (fun k => C1 k row) first n).map fun k => V.int ((k : Nat) : Int))[0]? = some (.int (l : Int)) := by rw [hfe]; rfl
          have hDa' : a ≠ D := Ne.symm hDa.2
          have hDb' : b ≠ D := Ne.symm hDb.2
          have hab : a ≠ b := fun e => hdj a List.mem_cons_self (by rw [e]; exact List.mem_cons_self)
          show if true = true then _ else _
          walk_at "rq"
          refine r_ixL (n := 0) (SqL.of h2) h20 ?_
          refine r_ixL (SqL.of hc2.l) hblr ?_
          walk_at "rq"
          refine r_ixL (SqL.of hc2.l) hbfr ?_
          walk_at "rq"
          intro p hp
          have hpt : upd H2 p (.tup [.ref bl, .ref bf]) p = some (.tup [.ref bl, .ref bf]) := upd_same
          have s3 : Same H2 (upd H2 p (.tup [.ref bl, .ref bf])) := Same.new hp
          generalize upd H2 p (.tup [.ref bl, .ref bf]) = H3 at *
          have hc3 := hc2.keep s3
          refine r_gtup (SqT.of hpt) rfl ?_
          refine r_gcons ?_
          refine r_gsub ?_
          walk_at "rq"
          refine r_setL hc3.l (by rw [List.length_map, hc3.len]; exact hfirst) ?_
          refine r_gcons ?_
          refine r_gsub ?_
          walk_at "rq"
          refine r_ixL (n := 0) (SqL.of ((upd_ne (Ne.symm hDa')).trans (s3 _ _ h2))) h20 ?_
          refine r_setL upd_same (by rw [List.length_set, List.length_map, hc3.len]; exact l2) ?_
          refine r_gnil ?_
          rw [upd_upd]
          have hcs := hc3.swap hbf hbl
          have ht3 : Mat (upd H3 a (.lst ((((as.map V.ref).set first (.ref bl)).set l (.ref bf))))) b bs T1 n n := (ht2.keep s3).ff (x := a) ⟨fun x u hx _ e => (upd_ne hx).trans e, Keep.mut hc3.l fun xs z => nomatch z⟩ (fun h => hdj a List.mem_cons_self (List.mem_cons_of_mem _ h)) hab
          have h24 : upd H3 a (.lst ((((as.map V.ref).set first (.ref bl)).set l (.ref bf)))) D = some (.lst ((fnd (fun k => C1 k row) first n).map fun k => V.int ((k : Nat) : Int))) := (upd_ne (Ne.symm hDa')).trans (s3 _ _ h2)
          have fr4 : FrM a b as bs H (upd H3 a (.lst ((((as.map V.ref).set first (.ref bl)).set l (.ref bf))))) := fun x u h1 h2 e => (upd_ne (fun q => h1 (by rw [q]; exact List.mem_cons_self))).trans (s3 _ _ (fr2 x u h1 h2 e))
          have hasm : ∀ x, x ∈ (as.set first bl).set l bf → x ∈ as := fun x hx => by
            rcases List.mem_or_eq_of_mem_set hx with h | h
            · rcases List.mem_or_eq_of_mem_set h with h | h
              · exact h
              · rw [h]; exact List.mem_of_getElem? hbl
            · rw [h]; exact List.mem_of_getElem? hbf
          generalize upd H3 a (.lst ((((as.map V.ref).set first (.ref bl)).set l (.ref bf)))) = H4 at *
          walk_at "rq"
          refine r_ixL (n := 0) (SqL.of h24) h20 ?_
          refine r_ixL (SqL.of ht3.l) htlr ?_
          walk_at "rq"
          refine r_ixL (SqL.of ht3.l) htfr ?_
          walk_at "rq"
          intro p2 hp2
          have hpt2 : upd H4 p2 (.tup [.ref tl, .ref tf]) p2 = some (.tup [.ref tl, .ref tf]) := upd_same
          have s5 : Same H4 (upd H4 p2 (.tup [.ref tl, .ref tf])) := Same.new hp2
          generalize upd H4 p2 (.tup [.ref tl, .ref tf]) = H5 at *
          have ht5 := ht3.keep s5
          refine r_gtup (SqT.of hpt2) rfl ?_
          refine r_gcons ?_
          refine r_gsub ?_
          walk_at "rq"
          refine r_setL ht5.l (by rw [List.length_map, ht5.len]; exact hfirst) ?_
          refine r_gcons ?_
          refine r_gsub ?_
          walk_at "rq"
          refine r_ixL (n := 0) (SqL.of ((upd_ne (Ne.symm hDb')).trans (s5 _ _ h24))) h20 ?_
          refine r_setL upd_same (by rw [List.length_set, List.length_map, ht5.len]; exact l2) ?_
          refine r_gnil ?_
          rw [upd_upd]
          have hts := ht5.swap htf htl
          have hcs6 : Mat (upd H5 b (.lst ((((bs.map V.ref).set first (.ref tl)).set l (.ref tf))))) a ((as.set first bl).set l bf) (cswap C1 first l) n m := (hcs.keep s5).ff (x := b) ⟨fun x u hx _ e => (upd_ne hx).trans e, Keep.mut ht5.l fun xs z => nomatch z⟩ (fun h => hdj b (List.mem_cons_of_mem _ (hasm b h)) List.mem_cons_self) (Ne.symm hab)
          have hbsm : ∀ x, x ∈ (bs.set first tl).set l tf → x ∈ bs := fun x hx => by
            rcases List.mem_or_eq_of_mem_set hx with h | h
            · rcases List.mem_or_eq_of_mem_set h with h | h
              · exact h
              · rw [h]; exact List.mem_of_getElem? htl
            · rw [h]; exact List.mem_of_getElem? htf
          have hG6 : G * Bd ≤ 6 * Bd ^ 3 := by
            have h1 := R.st.end_ hB0
            have h2 : G * Bd ≤ 6 * Bd ^ 2 * Bd := Nat.mul_le_mul_right _ h1
            have h3 : 6 * Bd ^ 2 * Bd = 6 * Bd ^ 3 := by grind
            omega
          have hsw : ∀ (M : Nat → Nat → Int) (N k r : Nat), (∀ k, k < n → (M k r).natAbs ≤ N) → k < n → (cswap M first l k r).natAbs ≤ N := fun M N k r h hk => by
            unfold cswap
            split
            · exact h l l2
            · split
              · exact h first hfirst
              · exact h k hk
          walk_at "rq"
          refine kq (cswap C1 first l) (cswap T1 first l) _ _ true _ (fun x u h1 h2 e => (upd_ne (fun q => h2 (by rw [q]; exact List.mem_cons_self))).trans (s5 _ _ (fr4 x u h1 h2 e))) hcs6 hts ⟨hasm, hbsm⟩ (R.tn.swap hfirst l2) (fun k hk r hr => ?_) (fun r hr hz0 k k1 k2 => ?_) (fun k k1 k2 => ?_) ?_ (fun k hk r hr => ?_) (fun k hk r hr => ?_)
          · unfold cswap
            rw [if_neg (by omega), if_neg (by omega)]
            exact R.low k hk r hr
          · have h0 := R.zp r hr hz0
            unfold cswap
            split
            · exact h0 l l1 l2
            · split
              · exact h0 first (Nat.le_refl _) hfirst
              · exact h0 k k1 k2
          · have hz1 : ∀ j, first ≤ j → j < n → j ≠ l → C1 j row = 0 := fun j j1 j2 j3 => by
              rcases Decidable.em (C1 j row = 0) with h0 | h0
              · exact h0
              · exact absurd (hone j l j1 j2 l1 l2 h0 l3) j3
            unfold cswap
            rw [if_neg (by omega)]
            split
            · rename_i e
              exact hz1 first (Nat.le_refl _) hfirst (by omega)
            · rename_i e
              exact hz1 k (by omega) k2 e
          · show cswap C1 first l first row ≠ 0
            unfold cswap
            rw [if_pos rfl]
            exact l3
          · exact hsw C1 _ k r (fun k hk => Nat.le_trans (R.bc k hk r hr) hG6) hk
          · exact hsw T1 _ k r (fun k hk => Nat.le_trans (R.bt k hk r hr) hG6) hk
      · have h1 := of_decide_eq_false h1
        have h22 : 2 ≤ (fnd (fun k => C1 k row) first n).length := by omega
        obtain ⟨l0, hl0⟩ : ∃ l0, (fnd (fun k => C1 k row) first n)[0]? = some l0 := ⟨_, List.getElem?_eq_getElem (by omega)⟩
        have hget : ∀ (i x : Nat), (fnd (fun k => C1 k row) first n)[i]? = some x → ((fnd (fun k => C1 k row) first n).map fun k => V.int ((k : Nat) : Int))[i]? = some (.int (x : Int)) := fun i x h => by rw [List.getElem?_map, h]; rfl
        walk_at "rq"
        refine r_ixL (n := 0) (SqL.of h2) (hget 0 l0 hl0) ?_
        walk_at "rq"
        refine ⟨⟨_, SqL.of h2⟩, ?_⟩
        refine for_list (fun i σ' H' => H' = H2 ∧ ∃ (v6 : Option V) (l : Nat) (v8 : Option V), σ' = [some (.ref a), some (.ref b), some (.int (row : Int)), some (.int (first : Int)), some (.int (n : Int)), some (.ref D), v6, some (.int (l : Int)), v8] ∧ l ∈ fnd (fun k => C1 k row) first n ∧ ∀ k ∈ (fnd (fun k => C1 k row) first n).take i, (C1 l row).natAbs ≤ (C1 k row).natAbs)
          ⟨rfl, _, l0, _, rfl, List.mem_of_getElem? hl0, fun k h => by cases h⟩ (fun i σ' H' _ h => by rw [h.1]; exact SqL.of h2) ?_ ?_
        · rintro i x σ' H' hx ⟨rfl, v6, l, v8, rfl, hl, hmin⟩
          rw [List.getElem?_map] at hx
          obtain ⟨k, hk, rfl⟩ := Option.map_eq_some_iff.mp hx
          obtain ⟨k1, k2, k3⟩ := mem_fnd.mp (List.mem_of_getElem? hk)
          obtain ⟨l1, l2, l3⟩ := mem_fnd.mp hl
          obtain ⟨bk, hbk, hbkl, hbkr, _⟩ := hc2.at_ k2
          obtain ⟨bl, hbl, hbll, hblr, _⟩ := hc2.at_ l2
          have htk : (fnd (fun k => C1 k row) first n).take (i + 1) = (fnd (fun k => C1 k row) first n).take i ++ [k] := by rw [List.take_succ, hk]; rfl
          walk_at "rq"
          refine r_ixL (SqL.of hc2.l) hbkr ?_
          walk_at "rq"
          refine r_ixL (SqL.of hbkl) (rowV_get hrow) ?_
          walk_at "rq"
          refine r_ixL (SqL.of hc2.l) hblr ?_
          walk_at "rq"
          refine r_ixL (SqL.of hbll) (rowV_get hrow) ?_
          walk_at "rq"
          refine r_ite (fun h5 => ?_) (fun h5 => ?_)
          · have h5 := of_decide_eq_true h5
            walk_at "rq"
            refine ⟨rfl, _, k, _, rfl, List.mem_of_getElem? hk, fun j hj => ?_⟩
            rw [htk] at hj
            rcases List.mem_append.mp hj with hj | hj
            · have := hmin j hj
              split at h5 <;> split at h5 <;> omega
            · rw [List.mem_singleton.mp hj]
              exact Nat.le_refl _
          · have h5 := of_decide_eq_false h5
            walk_at "rq"
            refine ⟨rfl, _, l, _, rfl, hl, fun j hj => ?_⟩
            rw [htk] at hj
            rcases List.mem_append.mp hj with hj | hj
            · exact hmin j hj
            · rw [List.mem_singleton.mp hj]
              split at h5 <;> split at h5 <;> omega
        · rintro σ' H' ⟨eH, v6, l, v8, rfl, hl, hmin⟩
          rw [eH]
          rw [List.length_map, List.take_length] at hmin
          obtain ⟨l1, l2, l3⟩ := mem_fnd.mp hl
          have l3 : C1 l row ≠ 0 := l3
          generalize hq : (fun k => (C1 k row).fdiv (C1 l row)) = q
          have hqk : ∀ k, q k = (C1 k row).fdiv (C1 l row) := fun k => by rw [← hq]
          walk_at "rq"
          refine ⟨⟨_, SqL.of h2⟩, ?_⟩
          refine for_list (fun i σ' H' => ∃ (v6 v8 : Option V), σ' = [some (.ref a), some (.ref b), some (.int (row : Int)), some (.int (first : Int)), some (.int (n : Int)), some (.ref D), v6, some (.int (l : Int)), v8] ∧ FrM a b as bs H2 H' ∧
              Mat H' a as (elim C1 q l ((fnd (fun k => C1 k row) first n).take i)) n m ∧ Mat H' b bs (elim T1 q l ((fnd (fun k => C1 k row) first n).take i)) n n ∧ Tn A n m (elim C1 q l ((fnd (fun k => C1 k row) first n).take i)) (elim T1 q l ((fnd (fun k => C1 k row) first n).take i)))
            ⟨_, _, rfl, fun x u _ _ e => e, by rw [List.take_zero, elim_nil]; exact hc2, by rw [List.take_zero, elim_nil]; exact ht2, by rw [List.take_zero, elim_nil, elim_nil]; exact R.tn⟩
            (fun i σ' H' _ h => by
              obtain ⟨_, _, _, f, _⟩ := h
              refine SqL.of (f D _ ?_ ?_ h2)
              · intro h; rcases List.mem_cons.mp h with h | h
                · exact hDa.2 h
                · exact hDa.1 h
              · intro h; rcases List.mem_cons.mp h with h | h
                · exact hDb.2 h
                · exact hDb.1 h) ?_ ?_
          · rintro i x σ' H3 hx ⟨v6, v8, rfl, f3, hc3, ht3, tn3⟩
            rw [List.getElem?_map] at hx
            obtain ⟨k, hk, rfl⟩ := Option.map_eq_some_iff.mp hx
            obtain ⟨k1, k2, k3⟩ := mem_fnd.mp (List.mem_of_getElem? hk)
            have htk : (fnd (fun k => C1 k row) first n).take (i + 1) = (fnd (fun k => C1 k row) first n).take i ++ [k] := by rw [List.take_succ, hk]; rfl
            have hnk : k ∉ (fnd (fun k => C1 k row) first n).take i := by
              intro h
              obtain ⟨j, hj, e⟩ := List.mem_iff_getElem.mp h
              rw [List.length_take] at hj
              have h6 : (fnd (fun k => C1 k row) first n)[j]? = some k := by
                rw [List.getElem_take] at e
                rw [← e, List.getElem?_eq_getElem]
              have := fnd_inj _ _ _ i j k hk h6
              omega
            rw [htk]
            generalize (fnd (fun k => C1 k row) first n).take i = S at *
            walk_at "rq"
            by_cases hkl : k = l
            · subst hkl
              rw [elim_skip, elim_skip]
              rw [decide_eq_true rfl]
              walk_at "rq"
              exact ⟨f3, hc3, ht3, tn3⟩
            · have hki : ¬ ((k : Int) = (l : Int)) := by omega
              rw [decide_eq_false hki]
              obtain ⟨bk, hbk, hbkl, hbkr, _⟩ := hc3.at_ k2
              obtain ⟨bl, hbl, hbll, hblr, _⟩ := hc3.at_ l2
              obtain ⟨tk2, htk2, htkl, _, htka⟩ := ht3.at_ k2
              have ek : elim C1 q l S k row = C1 k row := by unfold elim; rw [if_neg fun h => hnk h.1]
              have el : elim C1 q l S l row = C1 l row := elim_l ..
              walk_at "rq"
              refine r_ixL (SqL.of hc3.l) hbkr ?_
              walk_at "rq"
              refine r_ixL (SqL.of hbkl) (rowV_get hrow) ?_
              walk_at "rq"
              refine r_ixL (SqL.of hc3.l) hblr ?_
              walk_at "rq"
              refine r_ixL (SqL.of hbll) (rowV_get hrow) ?_
              rw [ek, el]
              refine r_I (show C1 l row ≠ 0 from l3) ?_
              rw [← hqk k]
              have hqb : (q k).natAbs < 2 ^ (z + 1) := by
                have h6 := (fd_facts (e := C1 k row) l3).2.2.1
                rw [← hqk k] at h6
                have h7 := R.bc k k2 row hrow
                have h8 : 1 ≤ (C1 l row).natAbs := by omega
                have h9 : (q k).natAbs * 1 ≤ (q k).natAbs * (C1 l row).natAbs := Nat.mul_le_mul_left _ h8
                have h10 : (1 + (q k).natAbs) * (C1 l row).natAbs = (C1 l row).natAbs + (q k).natAbs * (C1 l row).natAbs := by grind
                have h11 := R.bc l l2 row hrow
                rw [Nat.pow_succ]
                omega
              have hbk' : bk ∈ as := List.mem_of_getElem? hbk
              have htk' : tk2 ∈ bs := List.mem_of_getElem? htk2
              walk_at "rq"
              refine ⟨a, as, elim C1 q l S, n, m, k, l, q k, bk, rfl, hc3, hbk, l2, hkl, hm, fun r hr => ?_, fun H4 f4 hc4 => ?_⟩
              · rw [elim_l]
                exact mulA hqb (Nat.lt_of_le_of_lt (R.bc l l2 r hr) hGB) (by omega)
              rw [elim_snoc hnk hkl] at hc4
              have ht4 := ht3.ff f4 (fun h => hdj bk (List.mem_cons_of_mem _ hbk') (List.mem_cons_of_mem _ h)) (fun h => hdj bk (List.mem_cons_of_mem _ hbk') (by rw [h]; exact List.mem_cons_self))
              walk_at "rq"
              refine ⟨b, bs, elim T1 q l S, n, n, k, l, q k, tk2, rfl, ht4, htk2, l2, hkl, hn, fun r hr => ?_, fun H5 f5 ht5 => ?_⟩
              · rw [elim_l]
                exact mulA hqb (Nat.lt_of_le_of_lt (R.bt l l2 r hr) hGB) (by omega)
              rw [elim_snoc hnk hkl] at ht5
              have hc5 := hc4.ff f5 (fun h => hdj tk2 (List.mem_cons_of_mem _ h) (List.mem_cons_of_mem _ htk')) (fun h => hdj tk2 (by rw [h]; exact List.mem_cons_self) (List.mem_cons_of_mem _ htk'))
              walk_at "rq"
              refine ⟨fun x u h1 h2 e => ?_, hc5, ht5, ?_⟩
              · refine f5.get (fun h => h2 (by rw [h]; exact List.mem_cons_of_mem _ htk')) (f4.get (fun h => h1 (by rw [h]; exact List.mem_cons_of_mem _ hbk')) (f3 x u h1 h2 e))
              · have := tn3.sub (f := q k) k2 l2 hkl
                rw [elim_snoc hnk hkl, elim_snoc hnk hkl] at this
                exact this
          · rintro σ' H3 ⟨v6, v8, rfl, f3, hc3, ht3, tn3⟩
            rw [List.length_map, List.take_length] at hc3 ht3 tn3
            obtain ⟨G', R', hmu⟩ := R.round hB0 hrow h22 hl hmin q hqk ((FrM.same s2).trans f3) hc3 ht3 tn3
            walk_at "rq"
            exact ⟨_, hmu, _, _, _, _, G', _, _, rfl, R', rfl⟩
end
end Al
namespace Al
open PySem PySem.Spec PyProof.Rows L2 NdefX PySem.W
/-! ### k03: the class System in the heap -/
section
variable {C : Addr} {σ : L2.St} {H : Hp} {Q : VK} {i : Nat} {m : Str} {sp : Sp} {E : L2.St → XK} {t : TA} {K : Frag} {v : V} {f : Str}
theorem r_fldI {a D dx : Addr} {fs : List (Str × V)} (h : σ[i]? = some (some (.ref a))) (hi : H a = some (.ins D dx fs)) (c : Cls K D) (na : NoAttr K D f) (l : fs.lookup f = some v) (q : Q v H) : tFld K (tVar i) f σ H Q := ⟨_, h, a, D, dx, fs, v, rfl, hi, c, na, l, q⟩
theorem r_sfl {ta tv : TE} {D : Ends} (h : tv σ H fun y H1 => ta σ H1 fun x H2 => ∃ a C dx fs, x = .ref a ∧ H2 a = some (.ins C dx fs) ∧ Cls K C ∧ NoAttr K C f ∧ fs.length < 1000 ∧ D.nx σ (L2.upd H2 a (.ins C dx (putF f y fs)))) : sFld K ta tv f D σ H := h
theorem r_makS (h : t σ H fun vs H1 => ∀ x dx, H1 x = none → H1 dx = none → dx ≠ x → sp (.ref x :: vs) (L2.upd (L2.upd H1 dx (.own x)) x (.ins C dx [])) (fun v H2 => v = .non ∧ Q (.ref x) H2) (E σ)) : tMakS C sp E t σ H Q := h
end
section
variable {X : Cx} {K : Frag}
theorem pi_listK {tg e : Expr} {te : TE} (h : X.K = K) (he : PE X e te) : PI X tg e (iList K te) := by subst h; exact pi_list he
theorem call_list_ofK (h : X.K = K) : CallR X (.type "list") (fun xs H Q => ∃ p ys, xs = [.ref p] ∧ (SqL K H p ys ∨ SqT K H p ys) ∧ ∀ l, H l = none → Q (.ref l) (upd H l (.lst ys))) := by subst h; exact call_list_of
end
structure SC (K : Frag) (C : Addr) : Prop where
  cls : Cls K C
  r : NoAttr K C "rows"
  n : NoAttr K C "count"
  c : NoAttr K C "columns"
  t : NoAttr K C "turns"
  p : NoAttr K C "pivots"
abbrev sfs (r : Addr) (n : Nat) (a b p : Addr) : List (Str × V) := [("rows", .ref r), ("count", .int (n : Int)), ("columns", .ref a), ("turns", .ref b), ("pivots", .ref p)]
/-- a System in the heap -/
structure Sy (C : Addr) (H : Hp) (x : Addr) (A : Nat → Nat → Int) (n m : Nat) (M T : Nat → Nat → Int) (pv : List Nat) : Prop where
  ex : ∃ (dx r : Addr) (rs : List Addr) (a : Addr) (as : List Addr) (b : Addr) (bs : List Addr) (p : Addr), H x = some (.ins C dx (sfs r n a b p)) ∧ Mat H r rs A m n ∧ Mat H a as M n m ∧ Mat H b bs T n n ∧ H p = some (.lst (pv.map fun r => V.int ((r : Nat) : Int)))
theorem Sy.keep {C : Addr} {H H' : Hp} {x : Addr} {A : Nat → Nat → Int} {n m : Nat} {M T : Nat → Nat → Int} {pv : List Nat} (h : Sy C H x A n m M T pv) (s : Same H H') : Sy C H' x A n m M T pv := by
  obtain ⟨dx, r, rs, a, as, b, bs, p, h1, h2, h3, h4, h5⟩ := h.ex
  exact ⟨dx, r, rs, a, as, b, bs, p, s _ _ h1, h2.keep s, h3.keep s, h4.keep s, s _ _ h5⟩
/-- exponents of bounds, pivot by pivot -/
def eB (b : Nat) : Nat → Nat
  | 0 => b
  | k + 1 => 3 * eB b k + 3
theorem eB_mono {b : Nat} : ∀ {j k : Nat}, j ≤ k → eB b j ≤ eB b k
  | 0, 0, _ => Nat.le_refl _
  | 0, k + 1, _ => by have := eB_mono (b := b) (Nat.zero_le k); show _ ≤ 3 * eB b k + 3; omega
  | j + 1, 0, h => by omega
  | j + 1, k + 1, h => by
    have := eB_mono (b := b) (show j ≤ k by omega)
    show 3 * eB b j + 3 ≤ 3 * eB b k + 3
    omega
theorem eB_step (e : Nat) : 6 * (2 ^ e) ^ 3 < 2 ^ (3 * e + 3) ∧ 6 * (2 ^ e) ^ 3 ≤ 2 ^ (3 * e + 3) := by
  have e1 : 2 ^ (3 * e + 3) = 8 * (2 ^ e) ^ 3 := by
    rw [Nat.pow_add, Nat.mul_comm 3 e, Nat.pow_mul]
    omega
  have : 0 < (2 ^ e) ^ 3 := Nat.pow_pos (Nat.pow_pos (by decide))
  omega
/-- what the steps are; the first i rows are done -/
structure Stp (A : Nat → Nat → Int) (n m b i : Nat) (M T : Nat → Nat → Int) (pv : List Nat) : Prop where
  tn : Tn A n m M T
  len : pv.length ≤ n
  piv : ∀ (j r : Nat), pv[j]? = some r → r < i ∧ M j r ≠ 0 ∧ ∀ k, j < k → k < n → M k r = 0
  zero : ∀ r, r < i → ∀ k, pv.length ≤ k → k < n → M k r = 0
  bm : ∀ k, k < n → ∀ r, r < m → (M k r).natAbs ≤ 2 ^ eB b pv.length
  bt : ∀ k, k < n → ∀ r, r < n → (T k r).natAbs ≤ 2 ^ eB b pv.length
section
variable {A M T M' T' : Nat → Nat → Int} {n m b i : Nat} {pv : List Nat}
theorem Stp.yes (h : Stp A n m b i M T pv) (hi : i < m) (hlt : pv.length < n) (tn : Tn A n m M' T') (low : ∀ k, k < pv.length → ∀ r, r < m → M' k r = M k r)
    (zp : ∀ r, r < m → (∀ k, pv.length ≤ k → k < n → M k r = 0) → ∀ k, pv.length ≤ k → k < n → M' k r = 0) (z0 : ∀ k, pv.length < k → k < n → M' k i = 0) (ne : M' pv.length i ≠ 0)
    (b1 : ∀ k, k < n → ∀ r, r < m → (M' k r).natAbs ≤ 6 * (2 ^ eB b pv.length) ^ 3) (b2 : ∀ k, k < n → ∀ j, j < n → (T' k j).natAbs ≤ 6 * (2 ^ eB b pv.length) ^ 3) : Stp A n m b (i + 1) M' T' (pv ++ [i]) := by
  have hl : (pv ++ [i]).length = pv.length + 1 := List.length_append
  have he := (eB_step (eB b pv.length)).2
  refine ⟨tn, by rw [hl]; omega, fun j r hj => ?_, fun r hr k k1 k2 => ?_, fun k hk r hr => ?_, fun k hk r hr => ?_⟩
  · rcases Nat.lt_or_ge j pv.length with q | q
    · rw [List.getElem?_append_left q] at hj
      obtain ⟨h1, h2, h3⟩ := h.piv j r hj
      refine ⟨by omega, by rw [low j q r (by omega)]; exact h2, fun k k1 k2 => ?_⟩
      rcases Nat.lt_or_ge k pv.length with q2 | q2
      · rw [low k q2 r (by omega)]
        exact h3 k k1 k2
      · exact zp r (by omega) (fun k' k3 k4 => h3 k' (by omega) k4) k q2 k2
    · rw [List.getElem?_append_right q] at hj
      have hj0 : j = pv.length := by
        have := (List.getElem?_eq_some_iff.mp hj).1
        have e1 : ([i] : List Nat).length = 1 := rfl
        omega
      subst hj0
      rw [Nat.sub_self] at hj
      cases hj
      exact ⟨by omega, ne, fun k k1 k2 => z0 k k1 k2⟩
  · rw [hl] at k1
    rcases Nat.lt_or_ge r i with q | q
    · exact zp r (by omega) (fun k' k3 k4 => h.zero r q k' k3 k4) k (by omega) k2
    · have : r = i := by omega
      subst this
      exact z0 k (by omega) k2
  · rw [hl]
    exact Nat.le_trans (b1 k hk r hr) he
  · rw [hl]
    exact Nat.le_trans (b2 k hk r hr) he
theorem Stp.no (h : Stp A n m b i M T pv) (hi : i < m) (tn : Tn A n m M' T') (low : ∀ k, k < pv.length → ∀ r, r < m → M' k r = M k r)
    (zp : ∀ r, r < m → (∀ k, pv.length ≤ k → k < n → M k r = 0) → ∀ k, pv.length ≤ k → k < n → M' k r = 0) (z0 : ∀ k, pv.length ≤ k → k < n → M' k i = 0)
    (b1 : ∀ k, k < n → ∀ r, r < m → (M' k r).natAbs ≤ 2 ^ eB b pv.length) (b2 : ∀ k, k < n → ∀ j, j < n → (T' k j).natAbs ≤ 2 ^ eB b pv.length) : Stp A n m b (i + 1) M' T' pv := by
  refine ⟨tn, h.len, fun j r hj => ?_, fun r hr k k1 k2 => ?_, b1, b2⟩
  · have q := (List.getElem?_eq_some_iff.mp hj).1
    obtain ⟨h1, h2, h3⟩ := h.piv j r hj
    refine ⟨by omega, by rw [low j q r (by omega)]; exact h2, fun k k1 k2 => ?_⟩
    rcases Nat.lt_or_ge k pv.length with q2 | q2
    · rw [low k q2 r (by omega)]
      exact h3 k k1 k2
    · exact zp r (by omega) (fun k' k3 k4 => h3 k' (by omega) k4) k q2 k2
  · rcases Nat.lt_or_ge r i with q | q
    · exact zp r (by omega) (fun k' k3 k4 => h.zero r q k' k3 k4) k k1 k2
    · have : r = i := by omega
      subst this
      exact z0 k k1 k2
end
end Al
namespace Al
open PySem PySem.Spec PyProof.Rows L2 NdefX PySem.W
local macro_rules | `(tactic| walk_at "rd1") => `(tactic| with_reducible first
  | (show tVar _ _ _ _; refine r_var (by with_unfolding_all rfl) ?_) | refine r_c ?_ | refine r_op ?_ | refine r_I0 ?_ | refine r_un ?_ | refine r_U ?_
  | (show rI _ _ _ _ _ _; refine r_I (by with_unfolding_all first | exact ⟨by decide, by decide⟩ | (show (0 : Int) < _; decide)) ?_)
  | refine r_eqI ?_ | refine r_neI ?_ | refine r_eqS ?_ | refine r_neS ?_ | refine r_eqB ?_ | refine r_neB ?_ | refine r_chain ?_
  | refine r_test ?_ | refine r_B ?_ | refine r_bl ?_ | refine r_int ?_ | refine r_and ?_ | refine r_or ?_ | refine r_not ?_ | refine r_andV ?_ | refine r_orV ?_ | refine r_notV ?_
  | refine r_if ?_ | refine r_nil ?_ | refine r_cons ?_ | refine r_cb ?_ | refine r_call ?_ | refine r_callS ?_ | refine r_tup ?_ | refine r_lst ?_ | refine r_seq ?_ | refine r_next ?_ | refine r_asg ?_
  | refine r_name ?_ | refine r_ifS ?_ | refine r_ret ?_ | refine r_retN ?_ | refine r_drop ?_ | refine r_brk ?_ | refine r_ct ?_ | refine r_sl ?_ | refine r_part ?_ | refine r_nopart ?_
  | refine r_bm ?_ | refine r_bm0 ?_ | refine r_raiseX ?_ | refine r_mkO ?_ | refine iteF ?_ | refine iteT ?_ | refine r_int1 ?_ | refine r_int1b ?_ | (show _ ≤ sizeLine ∧ _; refine r_sz (by with_unfolding_all first | omega | (simp only [List.length_cons, List.length_nil]; omega)) ?_)
  | (show ∃ _, _; refine ⟨_, rfl, ?_⟩) | (show ∃ _, _; refine ⟨_, _, rfl, rfl, ?_⟩) | (show ∃ _, _; refine ⟨_, _, rfl, ?_⟩))
local macro_rules | `(tactic| walk_at "rd") => `(tactic| repeat (walk_at "rd1"))
local macro_rules | `(tactic| walk_at "rd2") => `(tactic| with_reducible first
  | (show tFld _ _ _ _ _ _; refine r_fldI (by with_unfolding_all rfl) (by with_unfolding_all assumption) (by with_unfolding_all assumption) (by with_unfolding_all assumption) (by with_unfolding_all rfl) ?_)
  | (show tMetS _ _ _ _ _ _ _ _ _; refine r_rm (by with_unfolding_all assumption) (by with_unfolding_all rfl) (by decide) ?_)
  | refine r_sfl ?_ | refine iteNF ?_ | refine iteNT ?_ | refine r_makS ?_)
local macro_rules | `(tactic| walk_at "rp") => `(tactic| repeat first | walk_at "rd1" | walk_at "rd2")
local macro_rules | `(tactic| walk_at "rq1") => `(tactic| with_reducible first | refine r_rng1 ?_ | refine r_rng2 ?_ | refine r_forL ?_ | refine r_forT ?_ | refine r_dget ?_ | refine r_pnil ?_ | refine r_pcons ?_ | refine r_lcL ?_ | refine r_lcT ?_ | refine r_lcR ?_ | refine r_yes ?_ | refine r_disp ?_)
local macro_rules | `(tactic| walk_at "rq") => `(tactic| repeat first | walk_at "rd1" | walk_at "rd2" | walk_at "rq1")

def FrX (x : Addr) (H H' : Hp) : Prop := ∀ y u, y ≠ x → H y = some u → H' y = some u
theorem FrX.trans {x : Addr} {H H1 H2 : Hp} (a : FrX x H H1) (b : FrX x H1 H2) : FrX x H H2 := fun y u h e => b y u h (a y u h e)
theorem FrX.same {x : Addr} {H H1 : Hp} (s : Same H H1) : FrX x H H1 := fun y u _ e => s y u e
theorem FrX.at_ {x : Addr} {H : Hp} {o : HO} : FrX x H (upd H x o) := fun y u h e => (upd_ne h).trans e
theorem Mat.frx {H H' : Hp} {a x : Addr} {as : List Addr} {M : Nat → Nat → Int} {n m : Nat} (h : Mat H a as M n m) (f : FrX x H H') (hx : ∀ u, H x = some u → ∀ xs, u ≠ .lst xs) : Mat H' a as M n m := by
  have ne : ∀ y xs, H y = some (.lst xs) → y ≠ x := fun y xs e q => hx _ (q ▸ e) xs rfl
  exact ⟨f _ _ (ne _ _ h.l) h.l, h.len, h.nd, h.ne, fun k b e => f _ _ (ne _ _ (h.col k b e)) (h.col k b e)⟩
theorem Mat.insx {H : Hp} {a x : Addr} {as : List Addr} {M : Nat → Nat → Int} {n m : Nat} {C dx : Addr} {fs : List (Str × V)} {o : HO} (h : Mat H a as M n m) (hx : H x = some (.ins C dx fs)) : Mat (upd H x o) a as M n m :=
  h.frx .at_ fun u e xs q => by rw [hx] at e; cases e; cases q
def trM (A : Nat → Nat → Int) : Nat → Nat → Int := fun k r => A r k
def spSys (C : Addr) : Sp := fun vs H Q _ => ∃ (x dx r0 : Addr) (rs0 : List Addr) (A : Nat → Nat → Int) (n m b : Nat), vs = [.ref x, .ref r0, .int (n : Int)] ∧ H x = some (.ins C dx []) ∧ Mat H r0 rs0 A m n ∧ (n ≤ 1000 ∧ m ≤ 1000) ∧ (∀ r, r < m → ∀ k, k < n → (A r k).natAbs ≤ 2 ^ b) ∧ eB b n ≤ 60000000 ∧
  ∀ (H' : Hp) (M T : Nat → Nat → Int) (pv : List Nat), FrX x H H' → Sy C H' x A n m M T pv → Stp A n m b m M T pv → Q .non H'
section
variable {P : Program} {w : World} {K : Frag} {mg : Str → Option Value} {base : Heap} {C : Addr}
abbrev s_System___init__ : Stmt := inClass (top 13) 0
theorem sc_System___init__ : FnScope ["self", "rows", "count", "row", "k", "rank"] ["self", "rows", "count"] (defScope s_System___init__) := ⟨rfl, rfl, rfl, by decide +kernel, rfl, by decide +kernel, by decide +kernel⟩
theorem mak_System (dx : MakAt K mg "System" "System.__init__" C s_System___init__) (B : Bl mg) (S : SC K C) (G_unit_rows : Cal P w K mg base 1 "unit_rows" ["count"] spUnit) (G_reduce_row : Cal P w K mg base 40 "reduce_row" ["columns", "turns", "row", "first"] spReduce) :
    MakX P w K mg base 41 "System" C ["self", "rows", "count"] (spSys C) := by
  refine mak_mk dx sc_System___init__ (fun _ _ _ _ _ _ us hl => match us, hl with | [_, _, _], _ => rfl) (fun vs H Q E h => ?_) (fun fn cdv AA outer s H vs Q E hr h => ?_)
  · obtain ⟨x, dx, r0, rs0, A, n, m, b, rfl, _⟩ := h
    rfl
  · obtain ⟨x, dx, r0, rs0, A, n, m, b, rfl, hx, hr0, ⟨hn, hm⟩, hA, hz, kq⟩ := h
    have tk : L2N.Takes (cxOf (L2N.CX P w) P w K mg base ["self", "rows", "count", "row", "k", "rank"] "System.__init__" (defScope s_System___init__) fn cdv AA outer s H E) (fun cls d _ H => E cls d H) := L2N.takes_of rfl rfl rfl rfl
    have hcl := S.cls
    have hn1 := S.r
    have hn2 := S.n
    have hn3 := S.c
    have hn4 := S.t
    have hn5 := S.p
    refine ⟨_, (pss_cons (ps_fld (pv 0) (pe_lc (own := [("row", 3)]) rfl sc_System___init__.nd (pi_list (pv 1)) (blkOk_by (N := ["self", "rows", "count", "row", "k", "rank"]) (sc := defScope s_System___init__) (by decide +kernel)) (fun _ _ _ _ _ => (pg_name (i := 3) sc_System___init__.nd rfl (by first | exact Or.inl rfl | exact Or.inr rfl))) (fun _ _ _ _ _ => pts_nil) (fun _ _ _ _ _ => (pe_callTy (call_list_ofK (K := K) rfl) (by rfl) B.list (by decide +kernel) (pa_cons (pv 3) pa_nil)))) rfl)
      (pss_cons (ps_fld (pv 0) (pv 2) rfl)
      (pss_cons (ps_fld (pv 0) (pe_lc (own := [("k", 4)]) rfl sc_System___init__.nd (pi_range1 (by rfl) B.range (pa_cons (pv 2) pa_nil)) (blkOk_by (N := ["self", "rows", "count", "row", "k", "rank"]) (sc := defScope s_System___init__) (by decide +kernel)) (fun _ _ _ _ _ => (pg_name (i := 4) sc_System___init__.nd rfl (by first | exact Or.inl rfl | exact Or.inr rfl))) (fun _ _ _ _ _ => pts_nil) (fun _ _ _ _ _ => (pe_lc (own := [("row", 3)]) rfl sc_System___init__.nd (pi_listK (K := K) rfl (pe_fldK (K := K) rfl (pv 0) rfl)) (blkOk_by (N := ["self", "rows", "count", "row", "k", "rank"]) (by with_unfolding_all rfl)) (fun _ _ _ _ _ => (pg_name (i := 3) sc_System___init__.nd rfl (by first | exact Or.inl rfl | exact Or.inr rfl))) (fun _ _ _ _ _ => pts_nil) (fun _ _ _ _ _ => (pe_ix (ix_listK (K := K) rfl) (pv 3) (pv 4) (fun _ _ => rfl)))))) rfl)
      (pss_cons (ps_fld (pv 0) (pe_cal G_unit_rows (hr.mono (by first | decide | omega)) tk (pa_cons (pv 2) pa_nil)) rfl)
      (pss_cons (ps_fld (pv 0) (pe_lst pa_nil) rfl)
      (pss_cons (ps_set (i := 5) sc_System___init__.nd rfl (Or.inl rfl) pe_int)
      (pss_one (ps_for (passes_of rfl) rfl (pi_range1 (by rfl) B.range (pa_cons (pe_callB call_len_seq (by rfl) B.len PySem.boot_len (pa_cons (pe_fld (pv 0) rfl) pa_nil)) pa_nil)) (pg_name (i := 3) sc_System___init__.nd rfl (by first | exact Or.inl rfl | exact Or.inr rfl))
      (pss_one (ps_if (PW.pt (pw_and (pt_cmpR op_lt (pv 5) (pv 2) (nomark _)) (pw_and1 (pt_val (pe_cal G_reduce_row (hr.mono (by first | decide | omega)) tk (pa_cons (pe_fld (pv 0) rfl) (pa_cons (pe_fld (pv 0) rfl) (pa_cons (pv 3) (pa_cons (pv 5) pa_nil)))))))))
      (pss_cons (ps_expr (pe_bm PySem.F.plainAttrs_list PySem.F.slot_list_append PySem.F.type_list_append mt_append (pe_fld (pv 0) rfl) (pa_cons (pv 3) pa_nil)))
      (pss_one (ps_set (i := 5) sc_System___init__.nd rfl (Or.inl rfl) (pe_op op_add (pv 5) pe_int))))
      pss_nil)))))))))), ?_⟩
    refine r_seq ?_
    refine r_sfl ?_
    walk_at "rq"
    refine ⟨⟨_, SqL.of hr0.l⟩, fun R hR => ?_⟩
    refine lcw_list (fun i H' => Same H H' ∧ ∃ rs, Mat H' R rs A i n ∧ ∀ y ∈ rs, H y = none) ⟨Same.new hR, [], Mat.empty R, fun y h => by cases h⟩ (fun i H' _ h => SqL.of (h.1 _ _ hr0.l)) ?_ ?_
    · rintro i v H1 hv ⟨s1, rs, hm1, hf⟩
      have hi : i < m := by
        have := (List.getElem?_eq_some_iff.mp hv).1
        rwa [List.length_map, hr0.len] at this
      obtain ⟨y, hy, hyl, hyr, _⟩ := (hr0.keep s1).at_ hi
      rw [hyr] at hv
      cases hv
      walk_at "rq"
      refine ⟨y, _, rfl, .inl (SqL.of hyl), fun l hl => ?_⟩
      obtain ⟨f1, f2⟩ := hm1.fresh hl
      have hm2 := hm1.keep (Same.new (o := .lst (rowV A n i)) hl)
      refine ⟨_, hm2.l, by rw [sizeLine_eq, List.length_map, hm1.len]; omega, Same.mut (fun b o h => Same.new hl _ _ (s1 _ _ h)) hR, rs ++ [l], hm2.snoc upd_same f1 f2, fun z hz => ?_⟩
      rcases List.mem_append.mp hz with hz | hz
      · exact hf z hz
      · rw [List.mem_singleton.mp hz]
        cases e : H l with
        | none => rfl
        | some u => rw [s1 _ _ e] at hl; cases hl
    · rintro H1 ⟨s1, rs, hm1, hf⟩
      rw [List.length_map, hr0.len] at hm1
      have hx1 := s1 _ _ hx
      walk_at "rq"
      refine ⟨x, C, dx, _, rfl, hx1, hcl, hn1, by simp, ?_⟩
      have hx2 : upd H1 x (.ins C dx (putF "rows" (.ref R) [])) x = some (.ins C dx [("rows", .ref R)]) := upd_same
      have fr2 : FrX x H (upd H1 x (.ins C dx (putF "rows" (.ref R) []))) := (FrX.same s1).trans .at_
      have hm2 := hm1.insx (o := .ins C dx (putF "rows" (.ref R) [])) hx1
      generalize upd H1 x (.ins C dx (putF "rows" (.ref R) [])) = H2 at *
      walk_at "rq"
      refine ⟨x, C, dx, _, rfl, hx2, hcl, hn2, by simp, ?_⟩
      have hx3 : upd H2 x (.ins C dx (putF "count" (.int (n : Int)) [("rows", .ref R)])) x = some (.ins C dx [("rows", .ref R), ("count", .int (n : Int))]) := upd_same
      have fr3 : FrX x H (upd H2 x (.ins C dx (putF "count" (.int (n : Int)) [("rows", .ref R)]))) := fr2.trans .at_
      have hm3 := hm2.insx (o := .ins C dx (putF "count" (.int (n : Int)) [("rows", .ref R)])) hx2
      generalize upd H2 x (.ins C dx (putF "count" (.int (n : Int)) [("rows", .ref R)])) = H3 at *
      have new3 : ∀ {H' : Hp} {y : Addr}, Same H3 H' → H' y = none → H y = none ∧ H3 y = none := fun {H' y} s h => by
        have e3 : H3 y = none := by
          cases e : H3 y with
          | none => rfl
          | some u => rw [s _ _ e] at h; cases h
        refine ⟨?_, e3⟩
        cases e : H y with
        | none => rfl
        | some u =>
          have hne : y ≠ x := fun q => by rw [q, hx3] at e3; cases e3
          rw [fr3 y u hne e] at e3
          cases e3
      walk_at "rq"
      refine ⟨by omega, by omega, fun Cc hCc => ?_⟩
      rw [show ((n : Int)).toNat = n by omega]
      refine lcw_range (lo := 0) (n := n) (fun i H' => Same H3 H' ∧ ∃ as, Mat H' Cc as (trM A) i m ∧ ∀ y ∈ as, H y = none ∧ H3 y = none) ⟨Same.new hCc, [], Mat.empty Cc, fun y h => by cases h⟩ ?_ ?_
      · rintro i H4 hi ⟨s4, as, hm4, hf4⟩
        have hx4 := s4 _ _ hx3
        have hr4 := hm3.keep s4
        walk_at "rq"
        refine ⟨⟨_, SqL.of hr4.l⟩, fun D2 hD2 => ?_⟩
        refine lcw_list (fun j H' => Same H4 H' ∧ H' D2 = some (.lst (rowV (trM A) j i))) ⟨Same.new hD2, upd_same⟩ (fun j H' _ h => SqL.of (h.1 _ _ hr4.l)) ?_ ?_
        · rintro j v H5 hv ⟨s5, h5⟩
          have hj : j < m := by
            have := (List.getElem?_eq_some_iff.mp hv).1
            rwa [List.length_map, hr4.len] at this
          obtain ⟨y, hy, hyl, hyr, _⟩ := (hr4.keep s5).at_ hj
          rw [hyr] at hv
          cases hv
          walk_at "rq"
          rw [show (0 : Int) + (i : Int) = ((i : Nat) : Int) by omega]
          refine r_ixL (SqL.of hyl) (rowV_get hi) ?_
          refine ⟨_, h5, by rw [sizeLine_eq, rowV_len]; omega, Same.mut s5 hD2, ?_⟩
          rw [upd_same]
          unfold rowV
          rw [List.range_succ, List.map_append]
          rfl
        · rintro H5 ⟨s5, h5⟩
          rw [List.length_map, hr4.len] at h5
          obtain ⟨f1, f2⟩ := hm4.fresh hD2
          have hm5 := hm4.keep s5
          walk_at "rq"
          refine ⟨_, hm5.l, by rw [sizeLine_eq, List.length_map, hm5.len]; omega, Same.mut (fun b o h => s5 _ _ (s4 _ _ h)) hCc, as ++ [D2], hm5.snoc h5 f1 f2, fun z hz => ?_⟩
          rcases List.mem_append.mp hz with hz | hz
          · exact hf4 z hz
          · rw [List.mem_singleton.mp hz]
            exact new3 s4 hD2
      · rintro H4 ⟨s4, as, hm4, hf4⟩
        have hx4 := s4 _ _ hx3
        have hr4 := hm3.keep s4
        walk_at "rq"
        refine ⟨x, C, dx, _, rfl, hx4, hcl, hn3, by simp, ?_⟩
        have hx5 : upd H4 x (.ins C dx (putF "columns" (.ref Cc) [("rows", .ref R), ("count", .int (n : Int))])) x = some (.ins C dx [("rows", .ref R), ("count", .int (n : Int)), ("columns", .ref Cc)]) := upd_same
        have fr5 : FrX x H3 (upd H4 x (.ins C dx (putF "columns" (.ref Cc) [("rows", .ref R), ("count", .int (n : Int))]))) := (FrX.same s4).trans .at_
        have hr5 := hr4.insx (o := .ins C dx (putF "columns" (.ref Cc) [("rows", .ref R), ("count", .int (n : Int))])) hx4
        have hm5 := hm4.insx (o := .ins C dx (putF "columns" (.ref Cc) [("rows", .ref R), ("count", .int (n : Int))])) hx4
        generalize upd H4 x (.ins C dx (putF "columns" (.ref Cc) [("rows", .ref R), ("count", .int (n : Int))])) = H5 at *
        walk_at "rq"
        refine ⟨n, rfl, hn, fun bT bs H6 s6 hbT hbs hT => ?_⟩
        have hx6 := s6 _ _ hx5
        have hr6 := hr5.keep s6
        have hm6 := hm5.keep s6
        walk_at "rq"
        refine ⟨x, C, dx, _, rfl, hx6, hcl, hn4, by simp, ?_⟩
        have hx7 : upd H6 x (.ins C dx (putF "turns" (.ref bT) [("rows", .ref R), ("count", .int (n : Int)), ("columns", .ref Cc)])) x = some (.ins C dx [("rows", .ref R), ("count", .int (n : Int)), ("columns", .ref Cc), ("turns", .ref bT)]) := upd_same
        have fr7 : FrX x H5 (upd H6 x (.ins C dx (putF "turns" (.ref bT) [("rows", .ref R), ("count", .int (n : Int)), ("columns", .ref Cc)]))) := (FrX.same s6).trans .at_
        have hr7 := hr6.insx (o := .ins C dx (putF "turns" (.ref bT) [("rows", .ref R), ("count", .int (n : Int)), ("columns", .ref Cc)])) hx6
        have hm7 := hm6.insx (o := .ins C dx (putF "turns" (.ref bT) [("rows", .ref R), ("count", .int (n : Int)), ("columns", .ref Cc)])) hx6
        have hT7 := hT.insx (o := .ins C dx (putF "turns" (.ref bT) [("rows", .ref R), ("count", .int (n : Int)), ("columns", .ref Cc)])) hx6
        generalize upd H6 x (.ins C dx (putF "turns" (.ref bT) [("rows", .ref R), ("count", .int (n : Int)), ("columns", .ref Cc)])) = H7 at *
        walk_at "rq"
        intro p hp
        have ap : upd H7 p (.lst []) p = some (.lst []) := upd_same
        have sp : Same H7 (upd H7 p (.lst [])) := Same.new hp
        have hx8 := sp _ _ hx7
        have hr8 := hr7.keep sp
        have hm8 := hm7.keep sp
        have hT8 := hT7.keep sp
        have pR := hr7.fresh hp
        have pC := hm7.fresh hp
        have pT := hT7.fresh hp
        have px : p ≠ x := fun q => by rw [q, hx7] at hp; cases hp
        generalize upd H7 p (.lst []) = H8 at *
        walk_at "rq"
        refine ⟨x, C, dx, _, rfl, hx8, hcl, hn5, by simp, ?_⟩
        have hx9 : upd H8 x (.ins C dx (putF "pivots" (.ref p) [("rows", .ref R), ("count", .int (n : Int)), ("columns", .ref Cc), ("turns", .ref bT)])) x = some (.ins C dx (sfs R n Cc bT p)) := upd_same
        have fr9 : FrX x H7 (upd H8 x (.ins C dx (putF "pivots" (.ref p) [("rows", .ref R), ("count", .int (n : Int)), ("columns", .ref Cc), ("turns", .ref bT)]))) := (FrX.same sp).trans .at_
        have hr9 := hr8.insx (o := .ins C dx (putF "pivots" (.ref p) [("rows", .ref R), ("count", .int (n : Int)), ("columns", .ref Cc), ("turns", .ref bT)])) hx8
        have hm9 := hm8.insx (o := .ins C dx (putF "pivots" (.ref p) [("rows", .ref R), ("count", .int (n : Int)), ("columns", .ref Cc), ("turns", .ref bT)])) hx8
        have hT9 := hT8.insx (o := .ins C dx (putF "pivots" (.ref p) [("rows", .ref R), ("count", .int (n : Int)), ("columns", .ref Cc), ("turns", .ref bT)])) hx8
        have ap9 : upd H8 x (.ins C dx (putF "pivots" (.ref p) [("rows", .ref R), ("count", .int (n : Int)), ("columns", .ref Cc), ("turns", .ref bT)])) p = some (.lst []) := (upd_ne px).trans ap
        generalize upd H8 x (.ins C dx (putF "pivots" (.ref p) [("rows", .ref R), ("count", .int (n : Int)), ("columns", .ref Cc), ("turns", .ref bT)])) = H9 at *
        have eC : ∀ y, y ∈ Cc :: as → ∃ xs, H5 y = some (.lst xs) := fun y hy => by
          rcases List.mem_cons.mp hy with rfl | hy
          · exact ⟨_, hm5.l⟩
          · obtain ⟨k, hk, e⟩ := List.mem_iff_getElem.mp hy
            exact ⟨_, hm5.col k y (by rw [List.getElem?_eq_getElem hk, e])⟩
        have nT : ∀ y, y ∈ bT :: bs → H5 y = none := fun y hy => by
          rcases List.mem_cons.mp hy with rfl | hy
          · exact hbT
          · exact hbs y hy
        have nC : ∀ y, y ∈ Cc :: as → H3 y = none := fun y hy => by
          rcases List.mem_cons.mp hy with rfl | hy
          · exact hCc
          · exact (hf4 y hy).2
        have eR : ∀ y, y ∈ R :: rs → ∃ xs, H3 y = some (.lst xs) ∧ H5 y = some (.lst xs) := fun y hy => by
          rcases List.mem_cons.mp hy with rfl | hy
          · exact ⟨_, hm3.l, hr5.l⟩
          · obtain ⟨k, hk, e⟩ := List.mem_iff_getElem.mp hy
            have e2 : rs[k]? = some y := by rw [List.getElem?_eq_getElem hk, e]
            exact ⟨_, hm3.col k y e2, hr5.col k y e2⟩
        have hdj : ∀ y, y ∈ Cc :: as → y ∈ bT :: bs → False := fun y h1 h2 => by
          obtain ⟨xs, e⟩ := eC y h1
          rw [nT y h2] at e
          cases e
        have hRC : ∀ y, y ∈ R :: rs → y ∉ Cc :: as := fun y h1 h2 => by
          obtain ⟨xs, e, _⟩ := eR y h1
          rw [nC y h2] at e
          cases e
        have hRT : ∀ y, y ∈ R :: rs → y ∉ bT :: bs := fun y h1 h2 => by
          obtain ⟨xs, _, e⟩ := eR y h1
          rw [nT y h2] at e
          cases e
        have hRp : ∀ y, y ∈ R :: rs → y ≠ p := fun y h1 h2 => by
          rcases List.mem_cons.mp h1 with h | h
          · exact pR.2 (by rw [← h2, h])
          · exact pR.1 (h2 ▸ h)
        have hxC : x ∉ Cc :: as := fun h => by
          obtain ⟨xs, e⟩ := eC x h
          rw [hx5] at e
          cases e
        have hxT : x ∉ bT :: bs := fun h => by
          have e := nT x h
          rw [hx5] at e
          cases e
        have hpC : p ∉ Cc :: as := fun h => (List.mem_cons.mp h).elim pC.2 pC.1
        have hpT : p ∉ bT :: bs := fun h => (List.mem_cons.mp h).elim pT.2 pT.1
        have hold : ∀ y u, y ≠ x → H y = some u → y ∉ Cc :: as ∧ y ∉ bT :: bs ∧ y ≠ p ∧ H9 y = some u := fun y u h1 h2 => by
          have e3 := fr3 y u h1 h2
          have e5 := fr5 y u h1 e3
          have e7 := fr7 y u h1 e5
          refine ⟨fun h => ?_, fun h => ?_, fun h => ?_, fr9 y u h1 e7⟩
          · have := nC y h; rw [e3] at this; cases this
          · have := nT y h; rw [e5] at this; cases this
          · rw [h, hp] at e7; cases e7
        clear eC nT nC eR
        walk_at "rq"
        refine ⟨R, _, rfl, .inl (SqL.of hr9.l), ?_⟩
        walk_at "rq"
        rw [List.length_map, hr9.len]
        refine ⟨by omega, by omega, ?_⟩
        rw [show ((m : Int)).toNat = m by omega]
        have st0 : Stp A n m b 0 (trM A) idM [] := ⟨Tn.start (fun k _ r _ => rfl) (fun k _ j _ => rfl), Nat.zero_le _, fun j r h => (by simp at h), fun r h => (by omega), fun k hk r hr => hA r hr k hk, fun k hk r hr => by
          have : (idM k r).natAbs ≤ 1 := by unfold idM; split <;> decide
          exact Nat.le_trans this (Nat.pow_pos (by decide))⟩
        refine for_range (lo := 0) (n := m) (fun i σ' H' => ∃ (v3 : Option V) (as1 bs1 : List Addr) (M T : Nat → Nat → Int) (pv : List Nat), σ' = [some (.ref x), some (.ref r0), some (.int (n : Int)), v3, none, some (.int (pv.length : Int))] ∧
          (∀ y u, y ∉ Cc :: as → y ∉ bT :: bs → y ≠ p → H9 y = some u → H' y = some u) ∧ Mat H' Cc as1 M n m ∧ Mat H' bT bs1 T n n ∧ ((∀ y, y ∈ as1 → y ∈ as) ∧ ∀ y, y ∈ bs1 → y ∈ bs) ∧ H' p = some (.lst (pv.map fun r => V.int ((r : Nat) : Int))) ∧ Stp A n m b i M T pv)
          ⟨none, as, bs, trM A, idM, [], rfl, fun y u _ _ _ h => h, hm9, hT9, ⟨fun y h => h, fun y h => h⟩, ap9, st0⟩ ?_ ?_
        · rintro i σ' Ha hi ⟨v3, as1, bs1, M, T, pv, rfl, fra, hMa, hTa, ⟨sa, sb⟩, hpa, st⟩
          have hxa := fra x _ hxC hxT (Ne.symm px) hx9
          have hsub1 : ∀ y, y ∈ Cc :: as1 → y ∈ Cc :: as := fun y h => by
            rcases List.mem_cons.mp h with rfl | h
            · exact List.mem_cons_self
            · exact List.mem_cons_of_mem _ (sa y h)
          have hsub2 : ∀ y, y ∈ bT :: bs1 → y ∈ bT :: bs := fun y h => by
            rcases List.mem_cons.mp h with rfl | h
            · exact List.mem_cons_self
            · exact List.mem_cons_of_mem _ (sb y h)
          have hpl : (pv.map fun r => V.int ((r : Nat) : Int)).length ≤ 1000 := by rw [List.length_map]; have := st.len; omega
          walk_at "rq"
          refine r_ite (fun h1 => ?_) (fun h1 => ?_)
          · have h1 := of_decide_eq_true h1
            have hlt : pv.length < n := by omega
            walk_at "rq"
            refine ⟨Cc, bT, as1, bs1, A, M, T, n, m, i, pv.length, 2 ^ eB b pv.length, 3 * eB b pv.length + 3, by rw [show (0 : Int) + (i : Int) = ((i : Nat) : Int) by omega], hMa, hTa, fun y h1 h2 => hdj y (hsub1 y h1) (hsub2 y h2), ⟨hi, hlt, hn, hm⟩, st.tn, ⟨st.bm, st.bt⟩,
              ⟨Nat.pow_pos (by decide), (eB_step _).1, ?_⟩, fun M' T' as2 bs2 res Hb frb hMb hTb hsb tnb low zp z0 hres b1 b2 => ?_⟩
            · have := eB_mono (b := b) (show pv.length + 1 ≤ n from hlt)
              exact Nat.le_trans this hz
            have frc : ∀ y u, y ∉ Cc :: as → y ∉ bT :: bs → y ≠ p → H9 y = some u → Hb y = some u := fun y u h2 h3 h4 h5 => frb y u (fun h => h2 (hsub1 y h)) (fun h => h3 (hsub2 y h)) (fra y u h2 h3 h4 h5)
            have hpb := frb p _ (fun h => hpC (hsub1 p h)) (fun h => hpT (hsub2 p h)) hpa
            have hxb := frc x _ hxC hxT (Ne.symm px) hx9
            cases res with
            | true =>
              have hres : M' pv.length i ≠ 0 := hres
              have st' := st.yes hi hlt tnb low zp z0 hres b1 b2
              walk_at "rq"
              refine ⟨.inl ⟨rfl, _, SqL.of hpb⟩, ?_⟩
              walk_at "rq"
              refine ⟨p, _, _, rfl, rfl, hpb, by rw [sizeLine_eq]; omega, ?_⟩
              walk_at "rq"
              have ff : Ff p Hb (upd Hb p (.lst ((pv.map fun r => V.int ((r : Nat) : Int)) ++ [.int (0 + (i : Int))]))) := ⟨fun y u hy _ e => (upd_ne hy).trans e, Keep.mut hpb fun xs z => nomatch z⟩
              have npa : p ∉ as2 := fun h => hpC (List.mem_cons_of_mem _ (sa p (hsb.1 p h)))
              have npb : p ∉ bs2 := fun h => hpT (List.mem_cons_of_mem _ (sb p (hsb.2 p h)))
              refine ⟨some (.int (0 + (i : Int))), as2, bs2, M', T', pv ++ [i], ?_, fun y u h2 h3 h4 h5 => (upd_ne h4).trans (frc y u h2 h3 h4 h5), hMb.ff ff npa (fun q => hpC (by rw [q]; exact List.mem_cons_self)), hTb.ff ff npb (fun q => hpT (by rw [q]; exact List.mem_cons_self)), ⟨fun y h => sa y (hsb.1 y h), fun y h => sb y (hsb.2 y h)⟩, ?_, st'⟩
              · rw [show ((pv ++ [i]).length : Int) = (pv.length : Int) + 1 by rw [List.length_append]; rfl]
                rfl
              · rw [upd_same, List.map_append, show (0 : Int) + (i : Int) = ((i : Nat) : Int) by omega]
                rfl
            | false =>
              have hres : M' pv.length i = 0 := hres
              have st' := st.no hi tnb low zp (fun k k1 k2 => by
                by_cases q : k = pv.length
                · rw [q]; exact hres
                · exact z0 k (by omega) k2) b1 b2
              walk_at "rq"
              exact ⟨_, as2, bs2, M', T', pv, rfl, frc, hMb, hTb, ⟨fun y h => sa y (hsb.1 y h), fun y h => sb y (hsb.2 y h)⟩, hpb, st'⟩
          · have h1 := of_decide_eq_false h1
            have hln := st.len
            walk_at "rq"
            refine ⟨_, as1, bs1, M, T, pv, rfl, fra, hMa, hTa, ⟨sa, sb⟩, hpa, ?_⟩
            exact st.no hi st.tn (fun k _ r _ => rfl) (fun r _ h => h) (fun k k1 k2 => by omega) st.bm st.bt
        · rintro σ' Ha ⟨v3, as1, bs1, M, T, pv, rfl, fra, hMa, hTa, ⟨sa, sb⟩, hpa, st⟩
          walk_at "rq"
          have hRa : Mat Ha R rs A m n := ⟨fra R _ (hRC R List.mem_cons_self) (hRT R List.mem_cons_self) (hRp R List.mem_cons_self) hr9.l, hr9.len, hr9.nd, hr9.ne, fun k y e => by
            have hy : y ∈ R :: rs := List.mem_cons_of_mem _ (List.mem_of_getElem? e)
            exact fra y _ (hRC y hy) (hRT y hy) (hRp y hy) (hr9.col k y e)⟩
          refine kq Ha M T pv (fun y u h1 h2 => ?_) ⟨dx, R, rs, Cc, as1, bT, bs1, p, fra x _ hxC hxT (Ne.symm px) hx9, hRa, hMa, hTa, hpa⟩ st
          obtain ⟨q1, q2, q3, q4⟩ := hold y u h1 h2
          exact fra y u q1 q2 q3 q4
end
end Al
namespace Al
open PySem PySem.Spec PyProof.Rows L2 NdefX PySem.W
/-! ### k03: fractions in lowest terms -/
theorem gcd_abs (t b : Int) : (b.gcd t : Nat) = Nat.gcd t.natAbs b.natAbs := by
  rw [Int.gcd_comm]
  rfl
theorem fr_num {t b : Int} (hb : b ≠ 0) : (if b < 0 then -t else t).fdiv ((Nat.gcd t.natAbs b.natAbs : Nat) : Int) = (Rat.divInt t b).num := by
  rw [Rat.num_divInt, gcd_abs, Int.fdiv_eq_ediv_of_nonneg _ (by omega)]
  congr 1
  split
  · rename_i h
    rw [Int.sign_eq_neg_one_of_neg h]
    omega
  · rw [Int.sign_eq_one_of_pos (by omega)]
    omega
theorem fr_den {t b : Int} (hb : b ≠ 0) : (if b < 0 then -b else b).fdiv ((Nat.gcd t.natAbs b.natAbs : Nat) : Int) = ((Rat.divInt t b).den : Int) := by
  rw [Rat.den_divInt, if_neg hb, gcd_abs, Int.fdiv_eq_ediv_of_nonneg _ (by omega), Int.natCast_ediv]
  congr 1
  split <;> omega
theorem gcd_ne {t b : Int} (hb : b ≠ 0) : ((Nat.gcd t.natAbs b.natAbs : Nat) : Int) ≠ 0 := by
  have : 0 < Nat.gcd t.natAbs b.natAbs := Nat.gcd_pos_of_pos_right _ (by omega)
  omega
/-- a fraction as data -/
def frD (q : Rat) : PyData := .tuple [.int q.num, .int (q.den : Int)]
theorem den_ne (q : Rat) : ((q.den : Nat) : Int) ≠ 0 := by
  have := q.den_nz
  omega
theorem plus_eq (a b : Int) {c d : Int} (hc : c ≠ 0) (hd : d ≠ 0) : Rat.divInt (a * d + b * c) (c * d) = Rat.divInt a c + Rat.divInt b d := (Rat.divInt_add_divInt a b hc hd).symm
theorem minus_eq (a b : Int) {c d : Int} (hc : c ≠ 0) (hd : d ≠ 0) : Rat.divInt (a * d - b * c) (c * d) = Rat.divInt a c - Rat.divInt b d := (Rat.divInt_sub_divInt a b hc hd).symm
theorem times_eq (a b c d : Int) : Rat.divInt (a * b) (c * d) = Rat.divInt a c * Rat.divInt b d := (Rat.divInt_mul_divInt a b).symm
theorem over_eq' (a b c d : Int) : Rat.divInt (a * d) (c * b) = Rat.divInt a c / Rat.divInt b d := by
  rw [Rat.div_def, Rat.inv_divInt, Rat.divInt_mul_divInt]
/-- a pair of whole numbers, of this def's or the module's own -/
def Fr2 (K : Frag) (H : Hp) (v : V) (a b : Int) : Prop := ∃ p, v = .ref p ∧ SqT K H p [.int a, .int b]
/-- a fraction in lowest terms -/
def FrV (K : Frag) (H : Hp) (v : V) (q : Rat) : Prop := Fr2 K H v q.num (q.den : Int)
theorem Fr2.keep {K : Frag} {H H' : Hp} {v : V} {a b : Int} (h : Fr2 K H v a b) (s : Same H H') : Fr2 K H' v a b := by
  obtain ⟨p, rfl, h⟩ := h
  refine ⟨p, rfl, ?_⟩
  rcases h with (h | ⟨o, h⟩) | h
  · exact .inl (.inl (s _ _ h))
  · exact .inl (.inr ⟨o, s _ _ h⟩)
  · exact .inr h
theorem Fr2.of {K : Frag} {H : Hp} {v : V} {a b : Int} (h : Tp H v (.tuple [.int a, .int b])) : Fr2 K H v a b := by
  obtain ⟨p, xs, rfl, h1, hx⟩ := h.tupI
  obtain ⟨y0, r0, rfl, u0, hx⟩ := hx.consI
  obtain ⟨y1, r1, rfl, u1, hx⟩ := hx.consI
  cases hx.nilI
  cases u0
  cases u1
  exact ⟨p, rfl, SqT.of h1⟩
theorem FrV.of {K : Frag} {H : Hp} {v : V} {q : Rat} (h : Tp H v (frD q)) : FrV K H v q := Fr2.of h
theorem FrV.keep {K : Frag} {H H' : Hp} {v : V} {q : Rat} (h : FrV K H v q) (s : Same H H') : FrV K H' v q := Fr2.keep h s
theorem FrV.dp {K : Frag} {H : Hp} {v : V} {a b : Int} (h : Fr2 K H v a b) : Dp K H v (.tuple [.int a, .int b]) := by
  obtain ⟨p, rfl, h⟩ := h
  exact .tup h (.cons (.int _) (.cons (.int _) .nil))
/-- lists of fractions -/
def FrA (K : Frag) (H : Hp) (us : List V) (l : List Rat) : Prop := All2 (FrV K H) us l
theorem FrA.keep {K : Frag} {H H' : Hp} {us : List V} {l : List Rat} (h : FrA K H us l) (s : Same H H') : FrA K H' us l := All2.mono (fun _ _ q => FrV.keep q s) h
theorem FrA.of {K : Frag} {H : Hp} : ∀ {us : List V} {l : List Rat}, TpAll H us (l.map frD) → FrA K H us l
  | _, [], .nil => .nil
  | _, q :: l, .cons h t => .cons (.of h) (FrA.of t)
/-! sizes -/
def bd (e : Nat) (q : Rat) : Prop := q.num.natAbs < 2 ^ e ∧ q.den < 2 ^ e
theorem num_le (t : Int) {b : Int} (hb : b ≠ 0) : (Rat.divInt t b).num.natAbs ≤ t.natAbs := by
  rw [← fr_num hb, Int.fdiv_eq_ediv_of_nonneg _ (by omega)]
  have h : (if b < 0 then -t else t).natAbs = t.natAbs := by split <;> omega
  have := Int.natAbs_ediv_le_natAbs (if b < 0 then -t else t) ((Nat.gcd t.natAbs b.natAbs : Nat) : Int)
  omega
theorem den_le (t : Int) {b : Int} (hb : b ≠ 0) : (Rat.divInt t b).den ≤ b.natAbs := by
  rw [Rat.den_divInt, if_neg hb]
  exact Nat.div_le_self _ _
theorem bd_of {t b : Int} {e : Nat} (hb : b ≠ 0) (h1 : t.natAbs < 2 ^ e) (h2 : b.natAbs < 2 ^ e) : bd e (Rat.divInt t b) := ⟨Nat.lt_of_le_of_lt (num_le t hb) h1, Nat.lt_of_le_of_lt (den_le t hb) h2⟩
theorem bd_mono {e f : Nat} {q : Rat} (h : bd e q) (hl : e ≤ f) : bd f q := ⟨Nat.lt_of_lt_of_le h.1 (Nat.pow_le_pow_right (by decide) hl), Nat.lt_of_lt_of_le h.2 (Nat.pow_le_pow_right (by decide) hl)⟩
end Al
namespace Al
open PySem PySem.Spec PyProof.Rows L2 NdefX PySem.W
local macro_rules | `(tactic| walk_at "rd1") => `(tactic| with_reducible first
  | (show tVar _ _ _ _; refine r_var (by with_unfolding_all rfl) ?_) | refine r_c ?_ | refine r_op ?_ | refine r_I0 ?_ | refine r_un ?_ | refine r_U ?_
  | (show rI _ _ _ _ _ _; refine r_I (by with_unfolding_all first | exact ⟨by decide, by decide⟩ | (show (0 : Int) < _; decide)) ?_)
  | refine r_eqI ?_ | refine r_neI ?_ | refine r_eqS ?_ | refine r_neS ?_ | refine r_eqB ?_ | refine r_neB ?_ | refine r_chain ?_
  | refine r_test ?_ | refine r_B ?_ | refine r_bl ?_ | refine r_int ?_ | refine r_and ?_ | refine r_or ?_ | refine r_not ?_ | refine r_andV ?_ | refine r_orV ?_ | refine r_notV ?_
  | refine r_if ?_ | refine r_nil ?_ | refine r_cons ?_ | refine r_cb ?_ | refine r_call ?_ | refine r_callS ?_ | refine r_tup ?_ | refine r_lst ?_ | refine r_seq ?_ | refine r_next ?_ | refine r_asg ?_
  | refine r_name ?_ | refine r_ifS ?_ | refine r_ret ?_ | refine r_retN ?_ | refine r_drop ?_ | refine r_brk ?_ | refine r_ct ?_ | refine r_sl ?_ | refine r_part ?_ | refine r_nopart ?_
  | refine r_bm ?_ | refine r_bm0 ?_ | refine r_raiseX ?_ | refine r_mkO ?_ | refine iteF ?_ | refine iteT ?_ | refine r_int1 ?_ | refine r_int1b ?_ | (show _ ≤ sizeLine ∧ _; refine r_sz (by with_unfolding_all first | omega | (simp only [List.length_cons, List.length_nil]; omega)) ?_)
  | (show ∃ _, _; refine ⟨_, rfl, ?_⟩) | (show ∃ _, _; refine ⟨_, _, rfl, rfl, ?_⟩) | (show ∃ _, _; refine ⟨_, _, rfl, ?_⟩))
local macro_rules | `(tactic| walk_at "rd") => `(tactic| repeat (walk_at "rd1"))
local macro_rules | `(tactic| walk_at "rd2") => `(tactic| with_reducible first
  | (show tFld _ _ _ _ _ _; refine r_fldI (by with_unfolding_all rfl) (by with_unfolding_all assumption) (by with_unfolding_all assumption) (by with_unfolding_all assumption) (by with_unfolding_all rfl) ?_)
  | (show tMetS _ _ _ _ _ _ _ _ _; refine r_rm (by with_unfolding_all assumption) (by with_unfolding_all rfl) (by decide) ?_)
  | refine r_sfl ?_ | refine iteNF ?_ | refine iteNT ?_ | refine r_makS ?_)
local macro_rules | `(tactic| walk_at "rp") => `(tactic| repeat first | walk_at "rd1" | walk_at "rd2")
local macro_rules | `(tactic| walk_at "rq1") => `(tactic| with_reducible first | refine r_rng1 ?_ | refine r_rng2 ?_ | refine r_forL ?_ | refine r_forT ?_ | refine r_dget ?_ | refine r_pnil ?_ | refine r_pcons ?_ | refine r_lcL ?_ | refine r_lcT ?_ | refine r_lcR ?_ | refine r_yes ?_ | refine r_disp ?_)
local macro_rules | `(tactic| walk_at "rq") => `(tactic| repeat first | walk_at "rd1" | walk_at "rd2" | walk_at "rq1")

def spFrac : Sp := fun vs H Q _ => ∃ (t b : Int), vs = [.int t, .int b] ∧ b ≠ 0 ∧ ∀ v H', Same H H' → Tp H' v (frD (Rat.divInt t b)) → Q v H'
/-- two fractions as pairs; f: what is reckoned -/
def spTwo (K : Frag) (f : Int → Int → Int → Int → Int × Int) : Sp := fun vs H Q _ => ∃ (v1 v2 : V) (a b c d : Int) (p q : Nat), vs = [v1, v2] ∧ Fr2 K H v1 a b ∧ Fr2 K H v2 c d ∧ (f a b c d).2 ≠ 0 ∧
  (a.natAbs < 2 ^ p ∧ b.natAbs < 2 ^ p ∧ c.natAbs < 2 ^ q ∧ d.natAbs < 2 ^ q ∧ p + q ≤ 129999000) ∧ ∀ v H', Same H H' → Tp H' v (frD (Rat.divInt (f a b c d).1 (f a b c d).2)) → Q v H'
def fPlus (a b c d : Int) : Int × Int := (a * d + c * b, b * d)
def fMinus (a b c d : Int) : Int × Int := (a * d - c * b, b * d)
def fTimes (a b c d : Int) : Int × Int := (a * c, b * d)
def fOver (a b c d : Int) : Int × Int := (a * d, b * c)
section
variable {P : Program} {w : World} {K : Frag} {mg : Str → Option Value} {base : Heap}
abbrev s_fraction : Stmt := top 4
theorem sc_fraction : FnScope ["top", "bottom", "common"] ["top", "bottom"] (defScope s_fraction) := ⟨rfl, rfl, rfl, by decide +kernel, rfl, by decide +kernel, by decide +kernel⟩
theorem cal_fraction (Z : Seer K P) (hgcd : mg "gcd" = some (.builtin "math.gcd")) (dx : DefAt K mg "fraction" s_fraction) (B : Bl mg) : Cal P w K mg base 36 "fraction" ["top", "bottom"] spFrac := by
  refine cal_mk dx sc_fraction (fun _ _ _ _ _ _ us hl => match us, hl with | [_, _], _ => rfl) (fun vs H Q E h => ?_) (fun fn cdv AA outer s H vs Q E hr h => ?_)
  · obtain ⟨t, b, rfl, _⟩ := h
    rfl
  · obtain ⟨t, b, rfl, hb, kq⟩ := h
    have hdp : (cxOf (L2N.CX P w) P w K mg base ["top", "bottom", "common"] "fraction" (defScope s_fraction) fn cdv AA outer s H E).A.depth + 105 < recursionLimit := by
      have := hr.dp
      show (AA.deeper _).depth + 105 < _
      omega
    refine ⟨_, (pss_cons (ps_if (pt_cmpR op_lt (pv 1) pe_int (nomark _))
      (pss_cons (ps_set (i := 0) sc_fraction.nd rfl (Or.inl rfl) (pe_un un_neg (pv 0)))
      (pss_one (ps_set (i := 1) sc_fraction.nd rfl (Or.inl rfl) (pe_un un_neg (pv 1)))))
      pss_nil)
      (pss_cons (ps_set (i := 2) sc_fraction.nd rfl (Or.inl rfl) (pe_callBfun cr_gcd (by rfl) hgcd (pa_cons (pv 0) (pa_cons (pv 1) pa_nil))))
      (pss_one (ps_ret (pe_tup (pa_cons (pe_op (op_fdivA Z rfl rfl rfl hdp) (pv 0) (pv 2)) (pa_cons (pe_op (op_fdivA Z rfl rfl rfl hdp) (pv 1) (pv 2)) pa_nil))))))), ?_⟩
    walk_at "rq"
    refine r_ite (fun h1 => ?_) (fun h1 => ?_)
    · have h1 := of_decide_eq_true h1
      have e1 := fr_num (t := t) hb
      have e2 := fr_den (t := t) hb
      rw [if_pos h1] at e1 e2
      walk_at "rq"
      refine ⟨-t, -b, rfl, ?_⟩
      rw [Int.natAbs_neg, Int.natAbs_neg]
      walk_at "rq"
      refine r_I (gcd_ne hb) ?_
      walk_at "rq"
      refine r_I (gcd_ne hb) ?_
      walk_at "rq"
      intro p hp
      refine kq _ _ (Same.new hp) (.tup upd_same ?_)
      rw [e1, e2]
      exact .cons (.int _) (.cons (.int _) .nil)
    · have h1 := of_decide_eq_false h1
      have e1 := fr_num (t := t) hb
      have e2 := fr_den (t := t) hb
      rw [if_neg h1] at e1 e2
      walk_at "rq"
      refine ⟨t, b, rfl, ?_⟩
      walk_at "rq"
      refine r_I (gcd_ne hb) ?_
      walk_at "rq"
      refine r_I (gcd_ne hb) ?_
      walk_at "rq"
      intro p hp
      refine kq _ _ (Same.new hp) (.tup upd_same ?_)
      rw [e1, e2]
      exact .cons (.int _) (.cons (.int _) .nil)
abbrev s_plus : Stmt := top 5
theorem sc_plus : FnScope ["one", "two"] ["one", "two"] (defScope s_plus) := ⟨rfl, rfl, rfl, by decide +kernel, rfl, by decide +kernel, by decide +kernel⟩
theorem cal_plus (dx : DefAt K mg "plus" s_plus) (B : Bl mg) (G_fraction : Cal P w K mg base 36 "fraction" ["top", "bottom"] spFrac) : Cal P w K mg base 37 "plus" ["one", "two"] (spTwo K fPlus) := by
  refine cal_mk dx sc_plus (fun _ _ _ _ _ _ us hl => match us, hl with | [_, _], _ => rfl) (fun vs H Q E h => ?_) (fun fn cdv AA outer s H vs Q E hr h => ?_)
  · obtain ⟨v1, v2, a, b, c, d, p, q, rfl, _⟩ := h
    rfl
  · obtain ⟨v1, v2, a, b, c, d, p, q, rfl, t1, t2, hne, ⟨ha, hb, hc, hd, hpq⟩, kq⟩ := h
    have tk : L2N.Takes (cxOf (L2N.CX P w) P w K mg base ["one", "two"] "plus" (defScope s_plus) fn cdv AA outer s H E) (fun cls d _ H => E cls d H) := L2N.takes_of rfl rfl rfl rfl
    obtain ⟨p1, rfl, h1⟩ := t1
    obtain ⟨p2, rfl, h2⟩ := t2
    refine ⟨_, (pss_one (ps_ret (pe_cal G_fraction (hr.mono (by first | decide | omega)) tk (pa_cons (pe_op op_add (pe_op op_mulA (pe_ix ix_tup (pv 0) pe_int (fun _ _ => rfl)) (pe_ix ix_tup (pv 1) pe_int (fun _ _ => rfl))) (pe_op op_mulA (pe_ix ix_tup (pv 1) pe_int (fun _ _ => rfl)) (pe_ix ix_tup (pv 0) pe_int (fun _ _ => rfl)))) (pa_cons (pe_op op_mulA (pe_ix ix_tup (pv 0) pe_int (fun _ _ => rfl)) (pe_ix ix_tup (pv 1) pe_int (fun _ _ => rfl))) pa_nil))))), ?_⟩
    walk_at "rq"
    refine r_ixT (n := 0) h1 rfl ?_
    walk_at "rq"
    refine r_ixT (n := 1) h2 rfl ?_
    walk_at "rq"
    refine r_I (mulA ha hd (by omega)) ?_
    walk_at "rq"
    refine r_ixT (n := 0) h2 rfl ?_
    walk_at "rq"
    refine r_ixT (n := 1) h1 rfl ?_
    walk_at "rq"
    refine r_I (mulA hc hb (by omega)) ?_
    walk_at "rq"
    refine r_ixT (n := 1) h1 rfl ?_
    walk_at "rq"
    refine r_ixT (n := 1) h2 rfl ?_
    walk_at "rq"
    refine r_I (mulA hb hd (by omega)) ?_
    walk_at "rq"
    refine ⟨_, _, rfl, hne, fun v H1 s1 tv => ?_⟩
    walk_at "rq"
    exact kq v H1 s1 tv
abbrev s_minus : Stmt := top 6
theorem sc_minus : FnScope ["one", "two"] ["one", "two"] (defScope s_minus) := ⟨rfl, rfl, rfl, by decide +kernel, rfl, by decide +kernel, by decide +kernel⟩
theorem cal_minus (dx : DefAt K mg "minus" s_minus) (B : Bl mg) (G_fraction : Cal P w K mg base 36 "fraction" ["top", "bottom"] spFrac) : Cal P w K mg base 37 "minus" ["one", "two"] (spTwo K fMinus) := by
  refine cal_mk dx sc_minus (fun _ _ _ _ _ _ us hl => match us, hl with | [_, _], _ => rfl) (fun vs H Q E h => ?_) (fun fn cdv AA outer s H vs Q E hr h => ?_)
  · obtain ⟨v1, v2, a, b, c, d, p, q, rfl, _⟩ := h
    rfl
  · obtain ⟨v1, v2, a, b, c, d, p, q, rfl, t1, t2, hne, ⟨ha, hb, hc, hd, hpq⟩, kq⟩ := h
    have tk : L2N.Takes (cxOf (L2N.CX P w) P w K mg base ["one", "two"] "minus" (defScope s_minus) fn cdv AA outer s H E) (fun cls d _ H => E cls d H) := L2N.takes_of rfl rfl rfl rfl
    obtain ⟨p1, rfl, h1⟩ := t1
    obtain ⟨p2, rfl, h2⟩ := t2
    refine ⟨_, (pss_one (ps_ret (pe_cal G_fraction (hr.mono (by first | decide | omega)) tk (pa_cons (pe_op op_sub (pe_op op_mulA (pe_ix ix_tup (pv 0) pe_int (fun _ _ => rfl)) (pe_ix ix_tup (pv 1) pe_int (fun _ _ => rfl))) (pe_op op_mulA (pe_ix ix_tup (pv 1) pe_int (fun _ _ => rfl)) (pe_ix ix_tup (pv 0) pe_int (fun _ _ => rfl)))) (pa_cons (pe_op op_mulA (pe_ix ix_tup (pv 0) pe_int (fun _ _ => rfl)) (pe_ix ix_tup (pv 1) pe_int (fun _ _ => rfl))) pa_nil))))), ?_⟩
    walk_at "rq"
    refine r_ixT (n := 0) h1 rfl ?_
    walk_at "rq"
    refine r_ixT (n := 1) h2 rfl ?_
    walk_at "rq"
    refine r_I (mulA ha hd (by omega)) ?_
    walk_at "rq"
    refine r_ixT (n := 0) h2 rfl ?_
    walk_at "rq"
    refine r_ixT (n := 1) h1 rfl ?_
    walk_at "rq"
    refine r_I (mulA hc hb (by omega)) ?_
    walk_at "rq"
    refine r_ixT (n := 1) h1 rfl ?_
    walk_at "rq"
    refine r_ixT (n := 1) h2 rfl ?_
    walk_at "rq"
    refine r_I (mulA hb hd (by omega)) ?_
    walk_at "rq"
    refine ⟨_, _, rfl, hne, fun v H1 s1 tv => ?_⟩
    walk_at "rq"
    exact kq v H1 s1 tv
abbrev s_times : Stmt := top 7
theorem sc_times : FnScope ["one", "two"] ["one", "two"] (defScope s_times) := ⟨rfl, rfl, rfl, by decide +kernel, rfl, by decide +kernel, by decide +kernel⟩
theorem cal_times (dx : DefAt K mg "times" s_times) (B : Bl mg) (G_fraction : Cal P w K mg base 36 "fraction" ["top", "bottom"] spFrac) : Cal P w K mg base 37 "times" ["one", "two"] (spTwo K fTimes) := by
  refine cal_mk dx sc_times (fun _ _ _ _ _ _ us hl => match us, hl with | [_, _], _ => rfl) (fun vs H Q E h => ?_) (fun fn cdv AA outer s H vs Q E hr h => ?_)
  · obtain ⟨v1, v2, a, b, c, d, p, q, rfl, _⟩ := h
    rfl
  · obtain ⟨v1, v2, a, b, c, d, p, q, rfl, t1, t2, hne, ⟨ha, hb, hc, hd, hpq⟩, kq⟩ := h
    have tk : L2N.Takes (cxOf (L2N.CX P w) P w K mg base ["one", "two"] "times" (defScope s_times) fn cdv AA outer s H E) (fun cls d _ H => E cls d H) := L2N.takes_of rfl rfl rfl rfl
    obtain ⟨p1, rfl, h1⟩ := t1
    obtain ⟨p2, rfl, h2⟩ := t2
    refine ⟨_, (pss_one (ps_ret (pe_cal G_fraction (hr.mono (by first | decide | omega)) tk (pa_cons (pe_op op_mulA (pe_ix ix_tup (pv 0) pe_int (fun _ _ => rfl)) (pe_ix ix_tup (pv 1) pe_int (fun _ _ => rfl))) (pa_cons (pe_op op_mulA (pe_ix ix_tup (pv 0) pe_int (fun _ _ => rfl)) (pe_ix ix_tup (pv 1) pe_int (fun _ _ => rfl))) pa_nil))))), ?_⟩
    walk_at "rq"
    refine r_ixT (n := 0) h1 rfl ?_
    walk_at "rq"
    refine r_ixT (n := 0) h2 rfl ?_
    walk_at "rq"
    refine r_I (mulA ha hc (by omega)) ?_
    walk_at "rq"
    refine r_ixT (n := 1) h1 rfl ?_
    walk_at "rq"
    refine r_ixT (n := 1) h2 rfl ?_
    walk_at "rq"
    refine r_I (mulA hb hd (by omega)) ?_
    walk_at "rq"
    refine ⟨_, _, rfl, hne, fun v H1 s1 tv => ?_⟩
    walk_at "rq"
    exact kq v H1 s1 tv
abbrev s_over : Stmt := top 8
theorem sc_over : FnScope ["one", "two"] ["one", "two"] (defScope s_over) := ⟨rfl, rfl, rfl, by decide +kernel, rfl, by decide +kernel, by decide +kernel⟩
theorem cal_over (dx : DefAt K mg "over" s_over) (B : Bl mg) (G_fraction : Cal P w K mg base 36 "fraction" ["top", "bottom"] spFrac) : Cal P w K mg base 37 "over" ["one", "two"] (spTwo K fOver) := by
  refine cal_mk dx sc_over (fun _ _ _ _ _ _ us hl => match us, hl with | [_, _], _ => rfl) (fun vs H Q E h => ?_) (fun fn cdv AA outer s H vs Q E hr h => ?_)
  · obtain ⟨v1, v2, a, b, c, d, p, q, rfl, _⟩ := h
    rfl
  · obtain ⟨v1, v2, a, b, c, d, p, q, rfl, t1, t2, hne, ⟨ha, hb, hc, hd, hpq⟩, kq⟩ := h
    have tk : L2N.Takes (cxOf (L2N.CX P w) P w K mg base ["one", "two"] "over" (defScope s_over) fn cdv AA outer s H E) (fun cls d _ H => E cls d H) := L2N.takes_of rfl rfl rfl rfl
    obtain ⟨p1, rfl, h1⟩ := t1
    obtain ⟨p2, rfl, h2⟩ := t2
    refine ⟨_, (pss_one (ps_ret (pe_cal G_fraction (hr.mono (by first | decide | omega)) tk (pa_cons (pe_op op_mulA (pe_ix ix_tup (pv 0) pe_int (fun _ _ => rfl)) (pe_ix ix_tup (pv 1) pe_int (fun _ _ => rfl))) (pa_cons (pe_op op_mulA (pe_ix ix_tup (pv 0) pe_int (fun _ _ => rfl)) (pe_ix ix_tup (pv 1) pe_int (fun _ _ => rfl))) pa_nil))))), ?_⟩
    walk_at "rq"
    refine r_ixT (n := 0) h1 rfl ?_
    walk_at "rq"
    refine r_ixT (n := 1) h2 rfl ?_
    walk_at "rq"
    refine r_I (mulA ha hd (by omega)) ?_
    walk_at "rq"
    refine r_ixT (n := 1) h1 rfl ?_
    walk_at "rq"
    refine r_ixT (n := 0) h2 rfl ?_
    walk_at "rq"
    refine r_I (mulA hb hc (by omega)) ?_
    walk_at "rq"
    refine ⟨_, _, rfl, hne, fun v H1 s1 tv => ?_⟩
    walk_at "rq"
    exact kq v H1 s1 tv
end
end Al
namespace Al
open PySem PySem.Spec PyProof.Rows L2 NdefX PySem.W
local macro_rules | `(tactic| walk_at "rd1") => `(tactic| with_reducible first
  | (show tVar _ _ _ _; refine r_var (by with_unfolding_all rfl) ?_) | refine r_c ?_ | refine r_op ?_ | refine r_I0 ?_ | refine r_un ?_ | refine r_U ?_
  | (show rI _ _ _ _ _ _; refine r_I (by with_unfolding_all first | exact ⟨by decide, by decide⟩ | (show (0 : Int) < _; decide)) ?_)
  | refine r_eqI ?_ | refine r_neI ?_ | refine r_eqS ?_ | refine r_neS ?_ | refine r_eqB ?_ | refine r_neB ?_ | refine r_chain ?_
  | refine r_test ?_ | refine r_B ?_ | refine r_bl ?_ | refine r_int ?_ | refine r_and ?_ | refine r_or ?_ | refine r_not ?_ | refine r_andV ?_ | refine r_orV ?_ | refine r_notV ?_
  | refine r_if ?_ | refine r_nil ?_ | refine r_cons ?_ | refine r_cb ?_ | refine r_call ?_ | refine r_callS ?_ | refine r_tup ?_ | refine r_lst ?_ | refine r_seq ?_ | refine r_next ?_ | refine r_asg ?_
  | refine r_name ?_ | refine r_ifS ?_ | refine r_ret ?_ | refine r_retN ?_ | refine r_drop ?_ | refine r_brk ?_ | refine r_ct ?_ | refine r_sl ?_ | refine r_part ?_ | refine r_nopart ?_
  | refine r_bm ?_ | refine r_bm0 ?_ | refine r_raiseX ?_ | refine r_mkO ?_ | refine iteF ?_ | refine iteT ?_ | refine r_int1 ?_ | refine r_int1b ?_ | (show _ ≤ sizeLine ∧ _; refine r_sz (by with_unfolding_all first | omega | (simp only [List.length_cons, List.length_nil]; omega)) ?_)
  | (show ∃ _, _; refine ⟨_, rfl, ?_⟩) | (show ∃ _, _; refine ⟨_, _, rfl, rfl, ?_⟩) | (show ∃ _, _; refine ⟨_, _, rfl, ?_⟩))
local macro_rules | `(tactic| walk_at "rd") => `(tactic| repeat (walk_at "rd1"))
local macro_rules | `(tactic| walk_at "rd2") => `(tactic| with_reducible first
  | (show tFld _ _ _ _ _ _; refine r_fldI (by with_unfolding_all rfl) (by with_unfolding_all assumption) (by with_unfolding_all assumption) (by with_unfolding_all assumption) (by with_unfolding_all rfl) ?_)
  | (show tMetS _ _ _ _ _ _ _ _ _; refine r_rm (by with_unfolding_all assumption) (by with_unfolding_all rfl) (by decide) ?_)
  | refine r_sfl ?_ | refine iteNF ?_ | refine iteNT ?_ | refine r_makS ?_)
local macro_rules | `(tactic| walk_at "rp") => `(tactic| repeat first | walk_at "rd1" | walk_at "rd2")
local macro_rules | `(tactic| walk_at "rq1") => `(tactic| with_reducible first | refine r_rng1 ?_ | refine r_rng2 ?_ | refine r_forL ?_ | refine r_forT ?_ | refine r_dget ?_ | refine r_pnil ?_ | refine r_pcons ?_ | refine r_lcL ?_ | refine r_lcT ?_ | refine r_lcR ?_ | refine r_yes ?_ | refine r_disp ?_)
local macro_rules | `(tactic| walk_at "rq") => `(tactic| repeat first | walk_at "rd1" | walk_at "rd2" | walk_at "rq1")

def spKer (C : Addr) : Sp := fun vs H Q _ => ∃ (x : Addr) (A : Nat → Nat → Int) (n m : Nat) (M T : Nat → Nat → Int) (pw : List Nat), vs = [.ref x] ∧ Sy C H x A n m M T pw ∧ (pw.length ≤ n ∧ n ≤ 1000) ∧
  ∀ (a : Addr) (as : List Addr) (H' : Hp), Same H H' → H a = none → (∀ b ∈ as, H b = none) → Mat H' a as (fun k j => T (pw.length + k) j) (n - pw.length) n → Q (.ref a) H'
section
variable {P : Program} {w : World} {K : Frag} {mg : Str → Option Value} {base : Heap} {C : Addr}
abbrev s_System_kernel : Stmt := inClass (top 13) 1
theorem sc_System_kernel : FnScope ["self", "k"] ["self"] (defScope s_System_kernel) := ⟨rfl, rfl, rfl, by decide +kernel, rfl, by decide +kernel, by decide +kernel⟩
theorem met_kernel (dx : MetAt K C "kernel" "System.kernel" s_System_kernel) (B : Bl mg) (S : SC K C) : MetX P w K mg base 1 C "kernel" ["self"] (spKer C) := by
  refine met_mk dx sc_System_kernel (fun _ _ _ _ _ _ us hl => match us, hl with | [_], _ => rfl) (fun vs H Q E h => ?_) (fun fn cdv AA outer s H vs Q E hr h => ?_)
  · obtain ⟨x, A, n, m, M, T, pw, rfl, _⟩ := h
    rfl
  · obtain ⟨x, A, n, m, M, T, pw, rfl, hS, ⟨hpn, hn⟩, kq⟩ := h
    have hcl := S.cls
    have hn2 := S.n
    have hn4 := S.t
    have hn5 := S.p
    obtain ⟨dx, r, rs, a, as, b, bs, p, hx, hr0, hM, hT, hp⟩ := hS.ex
    refine ⟨_, (pss_one (ps_ret (pe_lc (own := [("k", 1)]) rfl sc_System_kernel.nd (pi_range2 (by rfl) B.range (pa_cons (pe_callB call_len_seq (by rfl) B.len PySem.boot_len (pa_cons (pe_fld (pv 0) rfl) pa_nil)) (pa_cons (pe_fld (pv 0) rfl) pa_nil))) (blkOk_by (N := ["self", "k"]) (sc := defScope s_System_kernel) (by decide +kernel)) (fun _ _ _ _ _ => (pg_name (i := 1) sc_System_kernel.nd rfl (Or.inl rfl))) (fun _ _ _ _ _ => pts_nil) (fun _ _ _ _ _ => (pe_callTy (call_list_ofK (K := K) rfl) (by rfl) B.list (by decide +kernel) (pa_cons (pe_ix (ix_listK (K := K) rfl) (pe_fldK (K := K) rfl (pv 0) rfl) (pv 1) (fun _ _ => rfl)) pa_nil)))))), ?_⟩
    walk_at "rq"
    refine r_lcR2 ?_
    walk_at "rq"
    refine ⟨p, _, rfl, .inl (SqL.of hp), ?_⟩
    rw [List.length_map]
    walk_at "rq"
    refine ⟨⟨by omega, by omega, by omega, by omega⟩, fun D hD => ?_⟩
    rw [show ((n : Int) - (pw.length : Int)).toNat = n - pw.length by omega]
    refine lcw_rangeT (lo := (pw.length : Int)) (n := n - pw.length) (fun i H' => Same H H' ∧ ∃ ks, Mat H' D ks (fun k j => T (pw.length + k) j) i n ∧ ∀ y ∈ ks, H y = none) ⟨Same.new hD, [], Mat.empty D, fun y h => by cases h⟩ ?_ ?_
    · rintro i H1 hi ⟨s1, ks, hm, hf⟩
      have hx := s1 _ _ hx
      have hT1 := hT.keep s1
      obtain ⟨y, hy, hyl, hyr, _⟩ := hT1.at_ (k := pw.length + i) (by omega)
      walk_at "rq"
      rw [show (pw.length : Int) + (i : Int) = ((pw.length + i : Nat) : Int) by omega]
      refine r_ixL (SqL.of hT1.l) hyr ?_
      walk_at "rq"
      refine ⟨y, _, rfl, .inl (SqL.of hyl), fun l hl => ?_⟩
      obtain ⟨f1, f2⟩ := hm.fresh hl
      have hm2 := hm.keep (Same.new (o := .lst (rowV T n (pw.length + i))) hl)
      have e1 : upd H1 l (.lst (rowV T n (pw.length + i))) l = some (.lst (rowV (fun k j => T (pw.length + k) j) n i)) := upd_same
      refine ⟨_, hm2.l, by rw [sizeLine_eq, List.length_map, hm.len]; omega, Same.mut (fun b o h => Same.new hl _ _ (s1 _ _ h)) hD, ks ++ [l], hm2.snoc e1 f1 f2, fun z hz => ?_⟩
      rcases List.mem_append.mp hz with hz | hz
      · exact hf z hz
      · rw [List.mem_singleton.mp hz]
        cases e : H l with
        | none => rfl
        | some u => rw [s1 _ _ e] at hl; cases hl
    · rintro H1 ⟨s1, ks, hm, hf⟩
      walk_at "rq"
      exact kq D ks H1 s1 hD hf hm
end
end Al
namespace Al
open PySem PySem.Spec PyProof.Rows L2 NdefX PySem.W
/-! ### k03: the steps' fractions -/
theorem divInt_1 (a : Int) : Rat.divInt a 1 = (a : Rat) := by
  have := Rat.num_divInt_den (a : Rat)
  rw [Rat.num_intCast, Rat.den_intCast] at this
  exact this
theorem frD_int (a : Int) : frD (a : Rat) = .tuple [.int a, .int 1] := by
  unfold frD
  rw [Rat.num_intCast, Rat.den_intCast]
  rfl
theorem q_times (y : Rat) (c : Int) : Rat.divInt (y.num * c) ((y.den : Int) * 1) = y * (c : Rat) := by
  rw [times_eq, divInt_1, Rat.num_divInt_den]
theorem q_minus (x y : Rat) : Rat.divInt (x.num * (y.den : Int) - y.num * (x.den : Int)) ((x.den : Int) * (y.den : Int)) = x - y := by
  rw [minus_eq _ _ (den_ne x) (den_ne y), Rat.num_divInt_den, Rat.num_divInt_den]
theorem q_plus (x y : Rat) : Rat.divInt (x.num * (y.den : Int) + y.num * (x.den : Int)) ((x.den : Int) * (y.den : Int)) = x + y := by
  rw [plus_eq _ _ (den_ne x) (den_ne y), Rat.num_divInt_den, Rat.num_divInt_den]
theorem q_over (x : Rat) (p : Int) : Rat.divInt (x.num * 1) ((x.den : Int) * p) = x / (p : Rat) := by
  rw [over_eq' x.num p (x.den : Int) 1, Rat.num_divInt_den, divInt_1]
theorem cast_ne {p : Int} (h : p ≠ 0) : (p : Rat) ≠ 0 := by
  intro e
  exact h (by
    have := congrArg Rat.num e
    rw [Rat.num_intCast] at this
    exact this)
/-- q D is a whole number of fewer than e bits -/
def sc (D : Int) (e : Nat) (q : Rat) : Prop := ∃ N : Int, q * (D : Rat) = (N : Rat) ∧ N.natAbs < 2 ^ e
theorem sc_bd {D : Int} {e f : Nat} {q : Rat} (h : sc D e q) (hD : D ≠ 0) (h1 : D.natAbs < 2 ^ f) (h2 : e ≤ f) : bd f q := by
  obtain ⟨N, hN, hb⟩ := h
  have hD' := cast_ne hD
  have e1 : q = Rat.divInt N D := by
    have e2 : Rat.divInt N D = (N : Rat) / (D : Rat) := by
      have := over_eq' N D 1 1
      rw [Int.mul_one, Int.one_mul, divInt_1, divInt_1] at this
      exact this
    rw [e2, ← hN, Rat.div_def, Rat.mul_assoc, Rat.mul_inv_cancel _ hD', Rat.mul_one]
  rw [e1]
  exact bd_of hD (Nat.lt_of_lt_of_le hb (Nat.pow_le_pow_right (by decide) h2)) h1
/-- the product of the pivots' entries -/
def dP (M : Nat → Nat → Int) (pw : List Nat) : Nat → Int
  | 0 => 1
  | i + 1 => dP M pw i * M i (pw.getD i 0)
section
variable {M : Nat → Nat → Int} {pw : List Nat} {n m c s : Nat}
theorem dP_ne (h : ∀ (i r : Nat), pw[i]? = some r → M i r ≠ 0) : ∀ i, i ≤ pw.length → dP M pw i ≠ 0
  | 0, _ => by show (1 : Int) ≠ 0; decide
  | i + 1, hi => by
    have h1 := dP_ne h i (by omega)
    have h2 : M i (pw.getD i 0) ≠ 0 := h i _ (by rw [List.getD_eq_getElem?_getD, List.getElem?_eq_getElem (show i < pw.length by omega)] <;> rfl)
    exact Int.mul_ne_zero h1 h2
theorem dP_lt (h : ∀ (i r : Nat), pw[i]? = some r → (M i r).natAbs ≤ 2 ^ c) : ∀ i, i ≤ pw.length → (dP M pw i).natAbs < 2 ^ (c * i + 1)
  | 0, _ => by show (1 : Int).natAbs < 2 ^ (0 + 1); decide
  | i + 1, hi => by
    have h1 := dP_lt h i (by omega)
    have h2 : (M i (pw.getD i 0)).natAbs ≤ 2 ^ c := h i _ (by rw [List.getD_eq_getElem?_getD, List.getElem?_eq_getElem (show i < pw.length by omega)] <;> rfl)
    show (dP M pw i * M i (pw.getD i 0)).natAbs < _
    rw [Int.natAbs_mul]
    have e1 : 2 ^ (c * (i + 1) + 1) = 2 ^ (c * i + 1) * 2 ^ c := by
      rw [← Nat.pow_add]
      congr 1
      rw [Nat.mul_add]
      omega
    rw [e1]
    exact Nat.lt_of_le_of_lt (Nat.mul_le_mul_left _ h2) (Nat.mul_lt_mul_of_pos_right h1 (Nat.pow_pos (by decide)))
theorem mul_lt2 {N c' : Int} {e c : Nat} (h1 : N.natAbs < 2 ^ e) (h2 : c'.natAbs ≤ 2 ^ c) : (N * c').natAbs < 2 ^ (e + c) := by
  rw [Int.natAbs_mul, Nat.pow_add]
  exact Nat.lt_of_le_of_lt (Nat.mul_le_mul_left _ h2) (Nat.mul_lt_mul_of_pos_right h1 (Nat.pow_pos (by decide)))
theorem icast_mul (a b : Int) : ((a * b : Int) : Rat) = (a : Rat) * (b : Rat) := Rat.intCast_mul a b
/-- one more unknown taken off -/
theorem sc_step {D p a : Int} {e c : Nat} {rest y : Rat} (h : sc D e rest) (hy : sc (D * p) e y) (hp : p.natAbs ≤ 2 ^ c) (ha : a.natAbs ≤ 2 ^ c) : sc (D * p) (e + (c + 1)) (rest - y * (a : Rat)) := by
  obtain ⟨N1, h1, b1⟩ := h
  obtain ⟨N2, h2, b2⟩ := hy
  refine ⟨N1 * p - N2 * a, ?_, ?_⟩
  · rw [icast_mul] at h2
    rw [Rat.intCast_sub, icast_mul, icast_mul, icast_mul, ← h1, ← h2]
    grind
  · have q1 := mul_lt2 b1 hp
    have q2 := mul_lt2 b2 ha
    have e1 : 2 ^ (e + (c + 1)) = 2 ^ (e + c) + 2 ^ (e + c) := by
      rw [← Nat.add_assoc, Nat.pow_succ]
      omega
    omega
theorem sc_div {D p : Int} {e : Nat} {rest : Rat} (h : sc D e rest) (hp : p ≠ 0) : sc (D * p) e (rest / (p : Rat)) := by
  obtain ⟨N, h1, b1⟩ := h
  refine ⟨N, ?_, b1⟩
  have hp' := cast_ne hp
  rw [icast_mul, Rat.div_def, ← h1]
  have : (p : Rat)⁻¹ * (p : Rat) = 1 := Rat.inv_mul_cancel _ hp'
  grind
theorem sc_mono {D : Int} {e f : Nat} {q : Rat} (h : sc D e q) (hl : e ≤ f) : sc D f q := by
  obtain ⟨N, h1, h2⟩ := h
  exact ⟨N, h1, Nat.lt_of_lt_of_le h2 (Nat.pow_le_pow_right (by decide) hl)⟩
theorem sc_int {a : Int} {s : Nat} (h : a.natAbs < 2 ^ s) : sc 1 s (a : Rat) := ⟨a, by
  have : ((1 : Int) : Rat) = 1 := rfl
  rw [this, Rat.mul_one], h⟩
end
end Al
namespace Al
open PySem PySem.Spec PyProof.Rows L2 NdefX PySem.W
local macro_rules | `(tactic| walk_at "rd1") => `(tactic| with_reducible first
  | (show tVar _ _ _ _; refine r_var (by with_unfolding_all rfl) ?_) | refine r_c ?_ | refine r_op ?_ | refine r_I0 ?_ | refine r_un ?_ | refine r_U ?_
  | (show rI _ _ _ _ _ _; refine r_I (by with_unfolding_all first | exact ⟨by decide, by decide⟩ | (show (0 : Int) < _; decide)) ?_)
  | refine r_eqI ?_ | refine r_neI ?_ | refine r_eqS ?_ | refine r_neS ?_ | refine r_eqB ?_ | refine r_neB ?_ | refine r_chain ?_
  | refine r_test ?_ | refine r_B ?_ | refine r_bl ?_ | refine r_int ?_ | refine r_and ?_ | refine r_or ?_ | refine r_not ?_ | refine r_andV ?_ | refine r_orV ?_ | refine r_notV ?_
  | refine r_if ?_ | refine r_nil ?_ | refine r_cons ?_ | refine r_cb ?_ | refine r_call ?_ | refine r_callS ?_ | refine r_tup ?_ | refine r_lst ?_ | refine r_seq ?_ | refine r_next ?_ | refine r_asg ?_
  | refine r_name ?_ | refine r_ifS ?_ | refine r_ret ?_ | refine r_retN ?_ | refine r_drop ?_ | refine r_brk ?_ | refine r_ct ?_ | refine r_sl ?_ | refine r_part ?_ | refine r_nopart ?_
  | refine r_bm ?_ | refine r_bm0 ?_ | refine r_raiseX ?_ | refine r_mkO ?_ | refine iteF ?_ | refine iteT ?_ | refine r_int1 ?_ | refine r_int1b ?_ | (show _ ≤ sizeLine ∧ _; refine r_sz (by with_unfolding_all first | omega | (simp only [List.length_cons, List.length_nil]; omega)) ?_)
  | (show ∃ _, _; refine ⟨_, rfl, ?_⟩) | (show ∃ _, _; refine ⟨_, _, rfl, rfl, ?_⟩) | (show ∃ _, _; refine ⟨_, _, rfl, ?_⟩))
local macro_rules | `(tactic| walk_at "rd") => `(tactic| repeat (walk_at "rd1"))
local macro_rules | `(tactic| walk_at "rd2") => `(tactic| with_reducible first
  | (show tFld _ _ _ _ _ _; refine r_fldI (by with_unfolding_all rfl) (by with_unfolding_all assumption) (by with_unfolding_all assumption) (by with_unfolding_all assumption) (by with_unfolding_all rfl) ?_)
  | (show tMetS _ _ _ _ _ _ _ _ _; refine r_rm (by with_unfolding_all assumption) (by with_unfolding_all rfl) (by decide) ?_)
  | refine r_sfl ?_ | refine iteNF ?_ | refine iteNT ?_ | refine r_makS ?_)
local macro_rules | `(tactic| walk_at "rp") => `(tactic| repeat first | walk_at "rd1" | walk_at "rd2")
local macro_rules | `(tactic| walk_at "rq1") => `(tactic| with_reducible first | refine r_rng1 ?_ | refine r_rng2 ?_ | refine r_forL ?_ | refine r_forT ?_ | refine r_dget ?_ | refine r_pnil ?_ | refine r_pcons ?_ | refine r_lcL ?_ | refine r_lcT ?_ | refine r_lcR ?_ | refine r_yes ?_ | refine r_disp ?_)
local macro_rules | `(tactic| walk_at "rq") => `(tactic| repeat first | walk_at "rd1" | walk_at "rd2" | walk_at "rq1")

def intsV (R : Nat → Int) (m : Nat) : List V := (List.range m).map fun r => V.int (R r)
theorem intsV_get {R : Nat → Int} {m r : Nat} (h : r < m) : (intsV R m)[r]? = some (.int (R r)) := by
  unfold intsV
  rw [List.getElem?_map, List.getElem?_range h]
  rfl
theorem getD_app {l : List Rat} {y : Rat} {j : Nat} (h : j < l.length) : (l ++ [y]).getD j 0 = l.getD j 0 := by
  rw [List.getD_eq_getElem?_getD, List.getD_eq_getElem?_getD, List.getElem?_append_left h]
theorem getD_last {l : List Rat} {y : Rat} : (l ++ [y]).getD l.length 0 = y := by
  rw [List.getD_eq_getElem?_getD, List.getElem?_append_right (Nat.le_refl _), Nat.sub_self]
  rfl
theorem div_mul_q {a : Rat} {p : Int} (hp : p ≠ 0) : a / (p : Rat) * (p : Rat) = a := by
  have : (p : Rat)⁻¹ * (p : Rat) = 1 := Rat.inv_mul_cancel _ (cast_ne hp)
  rw [Rat.div_def]
  grind
def spSteps (C : Addr) : Sp := fun vs H Q _ => ∃ (x ra : Addr) (A : Nat → Nat → Int) (n m : Nat) (M T : Nat → Nat → Int) (pw : List Nat) (R : Nat → Int) (s c F : Nat), vs = [.ref x, .ref ra] ∧ Sy C H x A n m M T pw ∧ H ra = some (.lst (intsV R m)) ∧
  (∀ (i r : Nat), pw[i]? = some r → r < m ∧ M i r ≠ 0) ∧ (pw.length ≤ n ∧ n ≤ 1000) ∧ (∀ k, k < n → ∀ r, r < m → (M k r).natAbs ≤ 2 ^ c) ∧ (∀ r, r < m → (R r).natAbs < 2 ^ s) ∧ (s + (pw.length + 1) * (c + 1) ≤ F ∧ c * pw.length + 1 ≤ F ∧ 2 * F + c + 10 ≤ 129000000) ∧
  ∀ (a : Addr) (us : List V) (l : List Rat) (H' : Hp), Same H H' → H a = none → H' a = some (.lst us) → TpAll H' us (l.map frD) → l.length = pw.length → (∀ (i r : Nat), pw[i]? = some r → sm (i + 1) (fun j => l.getD j 0 * (M j r : Rat)) = (R r : Rat)) → (∀ y ∈ l, bd F y) → Q (.ref a) H'
section
variable {P : Program} {w : World} {K : Frag} {mg : Str → Option Value} {base : Heap} {C : Addr}
abbrev s_System_steps : Stmt := inClass (top 13) 2
theorem sc_System_steps : FnScope ["self", "right", "values", "k", "row", "rest", "j"] ["self", "right"] (defScope s_System_steps) := ⟨rfl, rfl, rfl, by decide +kernel, rfl, by decide +kernel, by decide +kernel⟩
theorem met_steps (dx : MetAt K C "steps" "System.steps" s_System_steps) (B : Bl mg) (S : SC K C) (G_minus : Cal P w K mg base 37 "minus" ["one", "two"] (spTwo K fMinus)) (G_times : Cal P w K mg base 37 "times" ["one", "two"] (spTwo K fTimes)) (G_over : Cal P w K mg base 37 "over" ["one", "two"] (spTwo K fOver)) :
    MetX P w K mg base 38 C "steps" ["self", "right"] (spSteps C) := by
  refine met_mk dx sc_System_steps (fun _ _ _ _ _ _ us hl => match us, hl with | [_, _], _ => rfl) (fun vs H Q E h => ?_) (fun fn cdv AA outer s H vs Q E hr h => ?_)
  · obtain ⟨x, ra, A, n, m, M, T, pw, R, s, c, F, rfl, _⟩ := h
    rfl
  · obtain ⟨x, ra, A, n, m, M, T, pw, R, sz, c, F, rfl, hS, hra, hpw, ⟨hpn, hn⟩, hM, hR, ⟨hF1, hF2, hF3⟩, kq⟩ := h
    have tk : L2N.Takes (cxOf (L2N.CX P w) P w K mg base ["self", "right", "values", "k", "row", "rest", "j"] "System.steps" (defScope s_System_steps) fn cdv AA outer s H E) (fun cls d _ H => E cls d H) := L2N.takes_of rfl rfl rfl rfl
    have hcl := S.cls
    have hn3 := S.c
    have hn5 := S.p
    obtain ⟨dx, r0, rs, a, as, b, bs, p, hx, hr0, hMm, hT, hp⟩ := hS.ex
    refine ⟨_, (pss_cons (ps_set (i := 2) sc_System_steps.nd rfl (Or.inl rfl) (pe_lst pa_nil))
      (pss_cons (ps_for (passes_of rfl) rfl (pi_range1 (by rfl) B.range (pa_cons (pe_callB call_len_seq (by rfl) B.len PySem.boot_len (pa_cons (pe_fld (pv 0) rfl) pa_nil)) pa_nil)) (pg_name (i := 3) sc_System_steps.nd rfl (Or.inl rfl))
      (pss_cons (ps_set (i := 4) sc_System_steps.nd rfl (Or.inl rfl) (pe_ix ix_list (pe_fld (pv 0) rfl) (pv 3) (fun _ _ => rfl)))
      (pss_cons (ps_set (i := 5) sc_System_steps.nd rfl (Or.inl rfl) (pe_tup (pa_cons (pe_ix ix_list (pv 1) (pv 4) (fun _ _ => rfl)) (pa_cons pe_int pa_nil))))
      (pss_cons (ps_for (passes_of rfl) rfl (pi_range1 (by rfl) B.range (pa_cons (pv 3) pa_nil)) (pg_name (i := 6) sc_System_steps.nd rfl (Or.inl rfl))
      (pss_one (ps_set (i := 5) sc_System_steps.nd rfl (Or.inl rfl) (pe_cal G_minus (hr.mono (by first | decide | omega)) tk (pa_cons (pv 5) (pa_cons (pe_cal G_times (hr.mono (by first | decide | omega)) tk (pa_cons (pe_ix ix_list (pv 2) (pv 6) (fun _ _ => rfl)) (pa_cons (pe_tup (pa_cons (pe_ix ix_list (pe_ix ix_list (pe_fld (pv 0) rfl) (pv 6) (fun _ _ => rfl)) (pv 4) (fun _ _ => rfl)) (pa_cons pe_int pa_nil))) pa_nil))) pa_nil))))))
      (pss_one (ps_expr (pe_bm PySem.F.plainAttrs_list PySem.F.slot_list_append PySem.F.type_list_append mt_append (pv 2) (pa_cons (pe_cal G_over (hr.mono (by first | decide | omega)) tk (pa_cons (pv 5) (pa_cons (pe_tup (pa_cons (pe_ix ix_list (pe_ix ix_list (pe_fld (pv 0) rfl) (pv 3) (fun _ _ => rfl)) (pv 4) (fun _ _ => rfl)) (pa_cons pe_int pa_nil))) pa_nil))) pa_nil))))))))
      (pss_one (ps_ret (pv 2))))), ?_⟩
    walk_at "rq"
    intro va hva
    have ava : upd H va (.lst []) va = some (.lst []) := upd_same
    have s1 : Same H (upd H va (.lst [])) := Same.new hva
    generalize upd H va (.lst []) = H1 at *
    have hx1 := s1 _ _ hx
    have hp1 := s1 _ _ hp
    walk_at "rq"
    refine ⟨p, _, rfl, .inl (SqL.of hp1), ?_⟩
    walk_at "rq"
    rw [List.length_map]
    refine ⟨by omega, by omega, ?_⟩
    rw [show ((pw.length : Int)).toNat = pw.length by omega]
    have hpg : ∀ k, k < pw.length → ∃ r, pw[k]? = some r ∧ r < m ∧ M k r ≠ 0 ∧ pw.getD k 0 = r := fun k hk => by
      have e : pw[k]? = some pw[k] := List.getElem?_eq_getElem hk
      exact ⟨pw[k], e, (hpw k _ e).1, (hpw k _ e).2, by rw [List.getD_eq_getElem?_getD, e]; rfl⟩
    have hpb : ∀ (i r : Nat), pw[i]? = some r → (M i r).natAbs ≤ 2 ^ c := fun i r h => hM i (by have := (List.getElem?_eq_some_iff.mp h).1; omega) r (hpw i r h).1
    have hdl : ∀ i, i ≤ pw.length → (dP M pw i).natAbs < 2 ^ F := fun i hi => Nat.lt_of_lt_of_le (dP_lt hpb i hi) (Nat.pow_le_pow_right (by decide) (by
      have : c * i ≤ c * pw.length := Nat.mul_le_mul_left _ hi
      omega))
    have hdn : ∀ i, i ≤ pw.length → dP M pw i ≠ 0 := dP_ne fun i r h => (hpw i r h).2
    have hef : ∀ i, i ≤ pw.length → sz + i * (c + 1) ≤ F := fun i hi => by
      have : i * (c + 1) ≤ (pw.length + 1) * (c + 1) := Nat.mul_le_mul_right _ (by omega)
      omega
    have hc1 : ∀ {z : Int}, z.natAbs ≤ 2 ^ c → z.natAbs < 2 ^ (c + 1) := fun {z} h => by
      rw [Nat.pow_succ]
      have : 0 < 2 ^ c := Nat.pow_pos (by decide)
      omega
    have h1c : (1 : Int).natAbs < 2 ^ (c + 1) := Nat.one_lt_two_pow (by omega)
    refine for_range (lo := 0) (n := pw.length) (fun k σ' H' => ∃ (v3 v4 v5 v6 : Option V) (l : List Rat) (us : List V), σ' = [some (.ref x), some (.ref ra), some (.ref va), v3, v4, v5, v6] ∧ Same H H' ∧ H' va = some (.lst us) ∧ TpAll H' us (l.map frD) ∧ l.length = k ∧
        (∀ (i r : Nat), i < k → pw[i]? = some r → sm (i + 1) (fun j => l.getD j 0 * (M j r : Rat)) = (R r : Rat)) ∧ ∀ j, j < k → sc (dP M pw (j + 1)) (sz + j * (c + 1)) (l.getD j 0))
      ⟨_, _, _, _, [], [], rfl, s1, ava, .nil, rfl, fun i r h => by omega, fun j h => by omega⟩ ?_ ?_
    · rintro k σ' H2 hk ⟨v3, v4, v5, v6, l, us, rfl, s2, hu2, htl, hll, heq, hsc⟩
      obtain ⟨r, hrk, hrm, hrn, hrd⟩ := hpg k hk
      have hx2 := s2 _ _ hx
      have hp2 := s2 _ _ hp
      have hra2 := s2 _ _ hra
      have hul : us.length = k := by rw [htl.len, List.length_map, hll]
      walk_at "rq"
      rw [show (0 : Int) + (k : Int) = ((k : Nat) : Int) by omega]
      refine r_ixL (SqL.of hp2) (v := .int (r : Int)) (by rw [List.getElem?_map, hrk]; rfl) ?_
      walk_at "rq"
      refine r_ixL (SqL.of hra2) (intsV_get hrm) ?_
      walk_at "rq"
      intro q0 hq0
      have t0 : Tp (upd H2 q0 (.tup [.int (R r), .int 1])) (.ref q0) (frD (R r : Rat)) := by rw [frD_int]; exact .tup upd_same (.cons (.int _) (.cons (.int _) .nil))
      have s3 : Same H2 (upd H2 q0 (.tup [.int (R r), .int 1])) := Same.new hq0
      generalize upd H2 q0 (.tup [.int (R r), .int 1]) = H3 at *
      have htl3 := htl.keep (Same.keep s3)
      have hu3 := s3 _ _ hu2
      have hx3 := s3 _ _ hx2
      have hM3 := (hMm.keep s2).keep s3
      walk_at "rq"
      refine ⟨by omega, by omega, ?_⟩
      rw [show ((k : Int)).toNat = k by omega]
      refine for_range (lo := 0) (n := k) (fun i σ' H' => ∃ (v6 : Option V) (vr : V) (y : Rat), σ' = [some (.ref x), some (.ref ra), some (.ref va), some (.int (k : Int)), some (.int (r : Int)), some vr, v6] ∧ Same H3 H' ∧ Tp H' vr (frD y) ∧ y = (R r : Rat) - sm i (fun j => l.getD j 0 * (M j r : Rat)) ∧ sc (dP M pw i) (sz + i * (c + 1)) y)
        ⟨_, _, _, rfl, fun b o h => h, t0, by rw [sm_zero']; grind, by rw [Nat.zero_mul, Nat.add_zero]; exact sc_int (hR r hrm)⟩ ?_ ?_
      · rintro i σ' H4 hi ⟨v6, vr, y, rfl, s4, tr, hy, hyc⟩
        obtain ⟨ri, hri, hrim, hrin, hrid⟩ := hpg i (by omega)
        have hx4 := s4 _ _ hx3
        have hM4 := hM3.keep s4
        have hu4 := s4 _ _ hu3
        have htl4 := htl3.keep (Same.keep s4)
        obtain ⟨col, hcol, hcoll, hcolr, _⟩ := hM4.at_ (k := i) (by omega)
        have hgl : l[i]? = some (l.getD i 0) := by rw [List.getD_eq_getElem?_getD, List.getElem?_eq_getElem (show i < l.length by omega)]; rfl
        obtain ⟨vy, hvy, tvy⟩ := htl4.mem (i := i) (d := frD (l.getD i 0)) (by rw [List.getElem?_map, hgl]; rfl)
        have hsci := hsc i hi
        have byi := sc_bd hsci (hdn (i + 1) (by omega)) (hdl (i + 1) (by omega)) (hef i (by omega))
        have by0 := sc_bd hyc (hdn i (by omega)) (hdl i (by omega)) (hef i (by omega))
        have hdi : dP M pw (i + 1) = dP M pw i * M i ri := by show dP M pw i * M i (pw.getD i 0) = _; rw [hrid]
        have hMir := hM i (by omega) r hrm
        walk_at "rq"
        rw [show (0 : Int) + (i : Int) = ((i : Nat) : Int) by omega]
        refine r_ixL (SqL.of hu4) hvy ?_
        walk_at "rq"
        refine r_ixL (SqL.of hM4.l) hcolr ?_
        walk_at "rq"
        refine r_ixL (SqL.of hcoll) (rowV_get hrm) ?_
        walk_at "rq"
        intro q1 hq1
        have t1 : Tp (upd H4 q1 (.tup [.int (M i r), .int 1])) (.ref q1) (.tuple [.int (M i r), .int 1]) := .tup upd_same (.cons (.int _) (.cons (.int _) .nil))
        have s5 : Same H4 (upd H4 q1 (.tup [.int (M i r), .int 1])) := Same.new hq1
        generalize upd H4 q1 (.tup [.int (M i r), .int 1]) = H5 at *
        walk_at "rq"
        refine ⟨vy, .ref q1, _, _, _, _, F, c + 1, rfl, .of (tvy.keep (Same.keep s5)), .of t1, ?_, ⟨byi.1, by rw [Int.natAbs_natCast]; exact byi.2, hc1 hMir, h1c, by omega⟩, fun v2 H6 s6 tv2 => ?_⟩
        · show ((l.getD i 0).den : Int) * 1 ≠ 0
          rw [Int.mul_one]
          exact den_ne _
        have tv2 : Tp H6 v2 (frD (l.getD i 0 * (M i r : Rat))) := by
          have := q_times (l.getD i 0) (M i r)
          rw [← this]
          exact tv2
        have bp : bd (F + (c + 1)) (l.getD i 0 * (M i r : Rat)) := by
          rw [← q_times (l.getD i 0) (M i r)]
          refine bd_of (by rw [Int.mul_one]; exact den_ne _) ?_ ?_
          · exact mul_lt2 byi.1 (Nat.le_of_lt (hc1 hMir))
          · rw [Int.mul_one, Int.natAbs_natCast]
            exact Nat.lt_of_lt_of_le byi.2 (Nat.pow_le_pow_right (by decide) (by omega))
        walk_at "rq"
        refine ⟨vr, v2, _, _, _, _, F, F + (c + 1), rfl, .of ((tr.keep (Same.keep s5)).keep (Same.keep s6)), .of tv2, ?_, ⟨by0.1, by rw [Int.natAbs_natCast]; exact by0.2, bp.1, by rw [Int.natAbs_natCast]; exact bp.2, by omega⟩, fun v3 H7 s7 tv3 => ?_⟩
        · exact Int.mul_ne_zero (den_ne _) (den_ne _)
        have tv3 : Tp H7 v3 (frD (y - l.getD i 0 * (M i r : Rat))) := by
          have := q_minus y (l.getD i 0 * (M i r : Rat))
          rw [← this]
          exact tv3
        walk_at "rq"
        refine ⟨_, _, y - l.getD i 0 * (M i r : Rat), rfl, fun b o h => s7 _ _ (s6 _ _ (s5 _ _ (s4 _ _ h))), tv3, ?_, ?_⟩
        · rw [hy, sm_succ]
          grind
        · rw [hdi] at hsci ⊢
          have := sc_step hyc hsci (hpb i ri hri) hMir
          have e1 : sz + (i + 1) * (c + 1) = sz + i * (c + 1) + (c + 1) := by rw [Nat.succ_mul]; omega
          rw [e1]
          exact this
      · rintro σ' H4 ⟨v6, vr, y, rfl, s4, tr, hy, hyc⟩
        have hx4 := s4 _ _ hx3
        have hM4 := hM3.keep s4
        have hu4 := s4 _ _ hu3
        have htl4 := htl3.keep (Same.keep s4)
        obtain ⟨col, hcol, hcoll, hcolr, _⟩ := hM4.at_ (k := k) (by omega)
        have by0 := sc_bd hyc (hdn k (by omega)) (hdl k (by omega)) (hef k (by omega))
        have hMkr := hM k (by omega) r hrm
        walk_at "rq"
        refine ⟨.inl ⟨rfl, _, SqL.of hu4⟩, ?_⟩
        walk_at "rq"
        refine r_ixL (SqL.of hM4.l) hcolr ?_
        walk_at "rq"
        refine r_ixL (SqL.of hcoll) (rowV_get hrm) ?_
        walk_at "rq"
        intro q1 hq1
        have t1 : Tp (upd H4 q1 (.tup [.int (M k r), .int 1])) (.ref q1) (.tuple [.int (M k r), .int 1]) := .tup upd_same (.cons (.int _) (.cons (.int _) .nil))
        have s5 : Same H4 (upd H4 q1 (.tup [.int (M k r), .int 1])) := Same.new hq1
        generalize upd H4 q1 (.tup [.int (M k r), .int 1]) = H5 at *
        walk_at "rq"
        refine ⟨vr, .ref q1, _, _, _, _, F, c + 1, rfl, .of (tr.keep (Same.keep s5)), .of t1, ?_, ⟨by0.1, by rw [Int.natAbs_natCast]; exact by0.2, hc1 hMkr, h1c, by omega⟩, fun v2 H6 s6 tv2 => ?_⟩
        · exact Int.mul_ne_zero (den_ne _) hrn
        have tv2 : Tp H6 v2 (frD (y / (M k r : Rat))) := by
          have := q_over y (M k r)
          rw [← this]
          exact tv2
        have s46 : Same H4 H6 := fun b o h => s6 _ _ (s5 _ _ h)
        have hu6 := s46 _ _ hu4
        walk_at "rq"
        refine ⟨va, us, v2, rfl, rfl, hu6, by rw [sizeLine_eq, hul]; omega, ?_⟩
        walk_at "rq"
        have km := Keep.mut (o := .lst (us ++ [v2])) hu6 fun xs z => nomatch z
        have hdk : dP M pw (k + 1) = dP M pw k * M k r := by show dP M pw k * M k (pw.getD k 0) = _; rw [hrd]
        refine ⟨_, _, _, _, l ++ [y / (M k r : Rat)], us ++ [v2], rfl, Same.mut (fun b o h => s46 _ _ (s4 _ _ (s3 _ _ (s2 _ _ h)))) hva, upd_same, ?_, by rw [List.length_append, hll]; rfl, fun i ri hi hri => ?_, fun j hj => ?_⟩
        · rw [List.map_append]
          exact ((htl4.keep (Same.keep s46)).keep km).app1 (tv2.keep km)
        · by_cases q : i = k
          · subst q
            rw [hrk] at hri
            cases hri
            rw [sm_succ, sm_congr (g := fun j => l.getD j 0 * (M j r : Rat)) (fun j hj => by rw [getD_app (by omega)])]
            have e1 : (l ++ [y / (M i r : Rat)]).getD i 0 = y / (M i r : Rat) := by
              have := getD_last (l := l) (y := y / (M i r : Rat))
              rwa [hll] at this
            rw [e1, div_mul_q hrn, hy]
            grind
          · rw [sm_congr (g := fun j => l.getD j 0 * (M j ri : Rat)) (fun j hj => by rw [getD_app (by omega)])]
            exact heq i ri (by omega) hri
        · by_cases q : j = k
          · subst q
            have e1 : (l ++ [y / (M j r : Rat)]).getD j 0 = y / (M j r : Rat) := by
              have := getD_last (l := l) (y := y / (M j r : Rat))
              rwa [hll] at this
            rw [e1, hdk]
            exact sc_div hyc hrn
          · rw [getD_app (by omega)]
            exact hsc j (by omega)
    · rintro σ' H2 ⟨v3, v4, v5, v6, l, us, rfl, s2, hu2, htl, hll, heq, hsc⟩
      walk_at "rq"
      refine kq va us l H2 s2 hva hu2 htl hll (fun i r h => heq i r (List.getElem?_eq_some_iff.mp h).1 h) fun y hy => ?_
      obtain ⟨j, hj, rfl⟩ := List.mem_iff_getElem.mp hy
      have := hsc j (by omega)
      rw [List.getD_eq_getElem?_getD, List.getElem?_eq_getElem hj] at this
      exact sc_bd this (hdn (j + 1) (by omega)) (hdl (j + 1) (by omega)) (hef j (by omega))
end
end Al
namespace Al
open PySem PySem.Spec PyProof.Rows L2 NdefX PySem.W
/-! ### k03: solutions in whole numbers -/
section
variable {A M T : Nat → Nat → Int} {n m b : Nat} {pw : List Nat} {R : Nat → Int}
/-- A X = R -/
def Sol (A : Nat → Nat → Int) (n m : Nat) (R X : Nat → Int) : Prop := ∀ r, r < m → sm n (fun j => A r j * X j) = R r
/-- the solution that whole steps give -/
def back (T : Nat → Nat → Int) (ρ : Nat) (z : Nat → Int) : Nat → Int := fun j => sm ρ fun k => z k * T k j
theorem apply_comb (h : Tn A n m M T) {ρ : Nat} (hρ : ρ ≤ n) (z : Nat → Int) : ∀ r, r < m → sm n (fun j => A r j * back T ρ z j) = sm ρ fun k => z k * M k r := by
  intro r hr
  have e1 : sm n (fun j => A r j * back T ρ z j) = sm n (fun j => sm ρ fun k => A r j * (z k * T k j)) := sm_congr fun j _ => by unfold back; rw [sm_mul]
  rw [e1, sm_swap]
  refine sm_congr fun k hk => ?_
  rw [h.prod k (by omega) r hr, ← sm_mul]
  exact sm_congr fun j _ => by grind
theorem Stp.sol (h : Stp A n m b m M T pw) {z : Nat → Int} (hz : ∀ r, r < m → sm pw.length (fun k => z k * M k r) = R r) : Sol A n m R (back T pw.length z) := fun r hr => by
  rw [apply_comb h.tn h.len z r hr, hz r hr]
/-- every solution comes from whole steps -/
theorem Stp.steps (h : Stp A n m b m M T pw) {X : Nat → Int} (hX : Sol A n m R X) : ∃ z : Nat → Int, (∀ j, j < n → X j = sm n fun k => z k * T k j) ∧ ∀ r, r < m → sm pw.length (fun k => z k * M k r) = R r := by
  obtain ⟨z, hz⟩ := h.tn.sur X
  refine ⟨z, hz, fun r hr => ?_⟩
  rw [← hX r hr]
  have e1 : sm n (fun j => A r j * X j) = sm n (fun j => A r j * back T n z j) := sm_congr fun j hj => by rw [hz j hj]; rfl
  rw [e1, apply_comb h.tn (Nat.le_refl _) z r hr]
  exact (sm_cut h.len fun k k1 k2 => by rw [h.zero r hr k k1 k2]; grind).symm
/-- steps are told by the rows of the pivots -/
theorem tri_uniq {ρ : Nat} {p : Nat → Nat} {y z : Nat → Rat} (hne : ∀ i, i < ρ → M i (p i) ≠ 0) (hy : ∀ i, i < ρ → sm (i + 1) (fun j => y j * (M j (p i) : Rat)) = (R (p i) : Rat)) (hz : ∀ i, i < ρ → sm (i + 1) (fun j => z j * (M j (p i) : Rat)) = (R (p i) : Rat)) : ∀ i, i < ρ → y i = z i := by
  intro i
  induction i using Nat.strongRecOn with
  | ind i ih =>
    intro hi
    have h1 := hy i hi
    have h2 := hz i hi
    rw [sm_succ] at h1 h2
    rw [sm_congr (g := fun j => z j * (M j (p i) : Rat)) fun j hj => by rw [ih j hj (by omega)]] at h1
    have h3 : y i * (M i (p i) : Rat) = z i * (M i (p i) : Rat) := by grind
    have hp := cast_ne (hne i hi)
    have h4 : (M i (p i) : Rat) * (M i (p i) : Rat)⁻¹ = 1 := Rat.mul_inv_cancel _ hp
    have h5 : y i * (M i (p i) : Rat) * (M i (p i) : Rat)⁻¹ = z i * (M i (p i) : Rat) * (M i (p i) : Rat)⁻¹ := by rw [h3]
    rw [Rat.mul_assoc, Rat.mul_assoc, h4, Rat.mul_one, Rat.mul_one] at h5
    exact h5
theorem sm_castM (z : Nat → Int) (k r : Nat) : ((sm k (fun j => z j * M j r) : Int) : Rat) = sm k fun j => (z j : Rat) * (M j r : Rat) := by
  rw [sm_cast]
  exact sm_congr fun j _ => Rat.intCast_mul _ _
/-- whole steps that meet all rows are the steps -/
theorem Stp.eq (h : Stp A n m b m M T pw) {z : Nat → Int} (hz : ∀ r, r < m → sm pw.length (fun k => z k * M k r) = R r) {y : Nat → Rat} (hy : ∀ (i r : Nat), pw[i]? = some r → sm (i + 1) (fun j => y j * (M j r : Rat)) = (R r : Rat)) : ∀ i, i < pw.length → y i = (z i : Rat) := by
  have hg : ∀ i, i < pw.length → pw[i]? = some (pw.getD i 0) := fun i hi => by
    rw [List.getD_eq_getElem?_getD, List.getElem?_eq_getElem hi]; rfl
  refine tri_uniq (M := M) (R := R) (p := fun i => pw.getD i 0) (fun i hi => (h.piv i _ (hg i hi)).2.1) (fun i hi => hy i _ (hg i hi)) fun i hi => ?_
  obtain ⟨h1, h2, h3⟩ := h.piv i _ (hg i hi)
  rw [← hz _ h1, ← sm_castM, ← sm_cut (n := pw.length) (m := i + 1) (by omega) fun k k1 k2 => ?_]
  rw [h3 k (by omega) (by have := h.len; omega)]
  grind
/-- a kernel's list gives 0 -/
theorem Stp.ker (h : Stp A n m b m M T pw) {k : Nat} (h1 : pw.length ≤ k) (h2 : k < n) : Sol A n m (fun _ => 0) (T k) := fun r hr => by
  rw [← h.tn.prod k h2 r hr]
  exact h.zero r hr k h1 h2
/-- what gives 0 is a whole combination of the kernel's lists -/
theorem Stp.ker_all (h : Stp A n m b m M T pw) {X : Nat → Int} (hX : Sol A n m (fun _ => 0) X) : ∃ z : Nat → Int, ∀ j, j < n → X j = sm (n - pw.length) fun k => z k * T (pw.length + k) j := by
  obtain ⟨z, h1, h2⟩ := h.steps hX
  have hg : ∀ i, i < pw.length → pw[i]? = some (pw.getD i 0) := fun i hi => by
    rw [List.getD_eq_getElem?_getD, List.getElem?_eq_getElem hi]; rfl
  have h0 : ∀ i, i < pw.length → (z i : Rat) = 0 := by
    intro i hi
    exact (h.eq (R := fun _ => 0) h2 (y := fun _ => 0) (fun i r _ => by
      have : sm (i + 1) (fun j => (0 : Rat) * (M j r : Rat)) = 0 := sm_zeros fun j _ => by grind
      rw [this]
      rfl) i hi).symm
  have h0' : ∀ i, i < pw.length → z i = 0 := fun i hi => by
    rcases Decidable.em (z i = 0) with q | q
    · exact q
    · exact absurd (h0 i hi) (cast_ne q)
  refine ⟨fun k => z (pw.length + k), fun j hj => ?_⟩
  rw [h1 j hj]
  have key : ∀ d, d + pw.length ≤ n → sm (pw.length + d) (fun k => z k * T k j) = sm d fun k => z (pw.length + k) * T (pw.length + k) j := by
    intro d
    induction d with
    | zero =>
      intro _
      rw [sm_zero']
      exact sm_zeros fun k hk => by rw [h0' k hk]; grind
    | succ d ih =>
      intro hd
      rw [← Nat.add_assoc, sm_succ, sm_succ, ih (by omega)]
  have := key (n - pw.length) (by have := h.len; omega)
  rwa [show pw.length + (n - pw.length) = n by have := h.len; omega] at this
/-- only the zero multiples of the kernel's lists give the zero list -/
theorem Stp.ker_inj (h : Stp A n m b m M T pw) {z : Nat → Int} (hz : ∀ j, j < n → sm (n - pw.length) (fun k => z k * T (pw.length + k) j) = 0) : ∀ k, k < n - pw.length → z k = 0 := by
  have key : ∀ d j, sm (pw.length + d) (fun k => (if k < pw.length then 0 else z (k - pw.length)) * T k j) = sm d fun k => z k * T (pw.length + k) j := by
    intro d j
    induction d with
    | zero =>
      rw [sm_zero']
      exact sm_zeros fun k hk => by
        have hk : k < pw.length := hk
        rw [if_pos hk]; grind
    | succ d ih =>
      rw [← Nat.add_assoc, sm_succ, sm_succ, ih, if_neg (by omega), Nat.add_sub_cancel_left]
  have hl := h.len
  have h1 := h.tn.inj (fun k => if k < pw.length then 0 else z (k - pw.length)) fun j hj => by
    have := key (n - pw.length) j
    rw [show pw.length + (n - pw.length) = n by omega] at this
    rw [this]
    exact hz j hj
  intro k hk
  have := h1 (pw.length + k) (by omega)
  rw [if_neg (by omega), Nat.add_sub_cancel_left] at this
  exact this
end
end Al
namespace Al
open PySem PySem.Spec PyProof.Rows L2 NdefX PySem.W
local macro_rules | `(tactic| walk_at "rd1") => `(tactic| with_reducible first
  | (show tVar _ _ _ _; refine r_var (by with_unfolding_all rfl) ?_) | refine r_c ?_ | refine r_op ?_ | refine r_I0 ?_ | refine r_un ?_ | refine r_U ?_
  | (show rI _ _ _ _ _ _; refine r_I (by with_unfolding_all first | exact ⟨by decide, by decide⟩ | (show (0 : Int) < _; decide)) ?_)
  | refine r_eqI ?_ | refine r_neI ?_ | refine r_eqS ?_ | refine r_neS ?_ | refine r_eqB ?_ | refine r_neB ?_ | refine r_chain ?_
  | refine r_test ?_ | refine r_B ?_ | refine r_bl ?_ | refine r_int ?_ | refine r_and ?_ | refine r_or ?_ | refine r_not ?_ | refine r_andV ?_ | refine r_orV ?_ | refine r_notV ?_
  | refine r_if ?_ | refine r_nil ?_ | refine r_cons ?_ | refine r_cb ?_ | refine r_call ?_ | refine r_callS ?_ | refine r_tup ?_ | refine r_lst ?_ | refine r_seq ?_ | refine r_next ?_ | refine r_asg ?_
  | refine r_name ?_ | refine r_ifS ?_ | refine r_ret ?_ | refine r_retN ?_ | refine r_drop ?_ | refine r_brk ?_ | refine r_ct ?_ | refine r_sl ?_ | refine r_part ?_ | refine r_nopart ?_
  | refine r_bm ?_ | refine r_bm0 ?_ | refine r_raiseX ?_ | refine r_mkO ?_ | refine iteF ?_ | refine iteT ?_ | refine r_int1 ?_ | refine r_int1b ?_ | (show _ ≤ sizeLine ∧ _; refine r_sz (by with_unfolding_all first | omega | (simp only [List.length_cons, List.length_nil]; omega)) ?_)
  | (show ∃ _, _; refine ⟨_, rfl, ?_⟩) | (show ∃ _, _; refine ⟨_, _, rfl, rfl, ?_⟩) | (show ∃ _, _; refine ⟨_, _, rfl, ?_⟩))
local macro_rules | `(tactic| walk_at "rd") => `(tactic| repeat (walk_at "rd1"))
local macro_rules | `(tactic| walk_at "rd2") => `(tactic| with_reducible first
  | (show tFld _ _ _ _ _ _; refine r_fldI (by with_unfolding_all rfl) (by with_unfolding_all assumption) (by with_unfolding_all assumption) (by with_unfolding_all assumption) (by with_unfolding_all rfl) ?_)
  | (show tMetS _ _ _ _ _ _ _ _ _; refine r_rm (by with_unfolding_all assumption) (by with_unfolding_all rfl) (by decide) ?_)
  | refine r_sfl ?_ | refine iteNF ?_ | refine iteNT ?_ | refine r_makS ?_)
local macro_rules | `(tactic| walk_at "rp") => `(tactic| repeat first | walk_at "rd1" | walk_at "rd2")
local macro_rules | `(tactic| walk_at "rq1") => `(tactic| with_reducible first | refine r_rng1 ?_ | refine r_rng2 ?_ | refine r_forL ?_ | refine r_forT ?_ | refine r_dget ?_ | refine r_pnil ?_ | refine r_pcons ?_ | refine r_lcL ?_ | refine r_lcT ?_ | refine r_lcR ?_ | refine r_yes ?_ | refine r_disp ?_)
local macro_rules | `(tactic| walk_at "rq") => `(tactic| repeat first | walk_at "rd1" | walk_at "rd2" | walk_at "rq1")

section
variable {K : Frag} {H : Hp} {v1 v2 : V} {x y : Rat} {p q : Nat} {Q : VK} {E : XK}
theorem FrV.int {v : V} {a : Int} (h : FrV K H v (a : Rat)) : Fr2 K H v a 1 := by
  unfold FrV at h
  rw [Rat.num_intCast, Rat.den_intCast] at h
  exact h
theorem FrV.ofInt {v : V} {a : Int} (h : Fr2 K H v a 1) : FrV K H v (a : Rat) := by
  unfold FrV
  rw [Rat.num_intCast, Rat.den_intCast]
  exact h
theorem bd_int {a : Int} {e : Nat} (h : a.natAbs < 2 ^ e) (h0 : 0 < e) : bd e (a : Rat) := by
  refine ⟨by rw [Rat.num_intCast]; exact h, by rw [Rat.den_intCast]; exact Nat.one_lt_two_pow (by omega)⟩
theorem r_plus (h1 : FrV K H v1 x) (h2 : FrV K H v2 y) (b1 : bd p x) (b2 : bd q y) (hl : p + q ≤ 129999000) (k : ∀ v H', Same H H' → FrV K H' v (x + y) → Q v H') : spTwo K fPlus [v1, v2] H Q E :=
  ⟨v1, v2, _, _, _, _, p, q, rfl, h1, h2, Int.mul_ne_zero (den_ne x) (den_ne y), ⟨b1.1, by rw [Int.natAbs_natCast]; exact b1.2, b2.1, by rw [Int.natAbs_natCast]; exact b2.2, hl⟩, fun v H' s t => k v H' s (by rw [← q_plus x y]; exact .of t)⟩
theorem r_minus (h1 : FrV K H v1 x) (h2 : FrV K H v2 y) (b1 : bd p x) (b2 : bd q y) (hl : p + q ≤ 129999000) (k : ∀ v H', Same H H' → FrV K H' v (x - y) → Q v H') : spTwo K fMinus [v1, v2] H Q E :=
  ⟨v1, v2, _, _, _, _, p, q, rfl, h1, h2, Int.mul_ne_zero (den_ne x) (den_ne y), ⟨b1.1, by rw [Int.natAbs_natCast]; exact b1.2, b2.1, by rw [Int.natAbs_natCast]; exact b2.2, hl⟩, fun v H' s t => k v H' s (by rw [← q_minus x y]; exact .of t)⟩
theorem q_times' (x y : Rat) : Rat.divInt (x.num * y.num) ((x.den : Int) * (y.den : Int)) = x * y := by
  rw [times_eq, Rat.num_divInt_den, Rat.num_divInt_den]
theorem r_times (h1 : FrV K H v1 x) (h2 : FrV K H v2 y) (b1 : bd p x) (b2 : bd q y) (hl : p + q ≤ 129999000) (k : ∀ v H', Same H H' → FrV K H' v (x * y) → Q v H') : spTwo K fTimes [v1, v2] H Q E :=
  ⟨v1, v2, _, _, _, _, p, q, rfl, h1, h2, Int.mul_ne_zero (den_ne x) (den_ne y), ⟨b1.1, by rw [Int.natAbs_natCast]; exact b1.2, b2.1, by rw [Int.natAbs_natCast]; exact b2.2, hl⟩, fun v H' s t => k v H' s (by rw [← q_times' x y]; exact .of t)⟩
end
theorem eqv_pair (a b : Int) : PyData.eqv (.tuple [.int a, .int 1]) (.tuple [.int b, .int 1]) = decide (a = b) := by
  by_cases h : a = b <;> simp [PyData.eqv, PyData.eqvAll, h]
theorem pair_sh (a b : Int) : SeqAt.shaped (.tuple [.int a, .int b]) = true := by simp [SeqAt.shaped, PyData.canLay0, PyData.canLayAll0, PyData.depth, PyData.depthAll]
theorem op_neDk {X : Cx} {K : Frag} (hK : X.K = K) (hu : X.A.units + 64 < cLine) : OpR X (compareOp .NotEq) (rNeD K) := by
  subst hK
  exact op_neD hu
theorem FrA.get {K : Frag} {H : Hp} {us : List V} {l : List Rat} {i : Nat} {y : Rat} (h : FrA K H us l) (hy : l[i]? = some y) : ∃ v, us[i]? = some v ∧ FrV K H v y := All2.get h hy
def castL (zs : List Int) : List Rat := zs.map fun (z : Int) => (z : Rat)
theorem castL_get {zs : List Int} {i : Nat} (h : i < zs.length) : (castL zs)[i]? = some ((zs.getD i 0 : Int) : Rat) := by
  unfold castL
  rw [List.getElem?_map, List.getD_eq_getElem?_getD, List.getElem?_eq_getElem h]
  rfl
def spFault (K : Frag) (C : Addr) : Sp := fun vs H Q _ => ∃ (x va ra : Addr) (us : List V) (A : Nat → Nat → Int) (n m : Nat) (M T : Nat → Nat → Int) (pw : List Nat) (zs : List Int) (R : Nat → Int) (e c : Nat), vs = [.ref x, .ref va, .ref ra] ∧ Sy C H x A n m M T pw ∧
  (H va = some (.lst us) ∧ FrA K H us (castL zs) ∧ zs.length = pw.length) ∧ H ra = some (.lst (intsV R m)) ∧ (pw.length ≤ n ∧ n ≤ 1000 ∧ m ≤ 1000) ∧ (∀ k, k < n → ∀ r, r < m → (M k r).natAbs ≤ 2 ^ c) ∧ (∀ z ∈ zs, z.natAbs < 2 ^ e) ∧ 0 < e ∧ 2 * (e + c) ≤ 120000000 ∧
  ∀ H', Same H H' → (∀ r, r < m → sm pw.length (fun k => zs.getD k 0 * M k r) ≠ R r → Q (.int (r : Int)) H') ∧ ((∀ r, r < m → sm pw.length (fun k => zs.getD k 0 * M k r) = R r) → Q .non H')
section
variable {P : Program} {w : World} {K : Frag} {mg : Str → Option Value} {base : Heap} {C : Addr}
abbrev s_System_fault : Stmt := inClass (top 13) 4
theorem sc_System_fault : FnScope ["self", "values", "right", "row", "left", "k"] ["self", "values", "right"] (defScope s_System_fault) := ⟨rfl, rfl, rfl, by decide +kernel, rfl, by decide +kernel, by decide +kernel⟩
theorem met_fault (dx : MetAt K C "fault" "System.fault" s_System_fault) (B : Bl mg) (S : SC K C) (hZ : ∃ zA, mg "ZERO" = some (.ref zA) ∧ ∀ H, SqT K H zA [.int 0, .int 1]) (G_plus : Cal P w K mg base 37 "plus" ["one", "two"] (spTwo K fPlus)) (G_times : Cal P w K mg base 37 "times" ["one", "two"] (spTwo K fTimes)) :
    MetX P w K mg base 38 C "fault" ["self", "values", "right"] (spFault K C) := by
  refine met_mk dx sc_System_fault (fun _ _ _ _ _ _ us hl => match us, hl with | [_, _, _], _ => rfl) (fun vs H Q E h => ?_) (fun fn cdv AA outer s H vs Q E hr h => ?_)
  · obtain ⟨x, va, ra, us, A, n, m, M, T, pw, zs, R, e, c, rfl, _⟩ := h
    rfl
  · obtain ⟨x, va, ra, us, A, n, m, M, T, pw, zs, R, e, c, rfl, hS, ⟨hva, hus, hzl⟩, hra, ⟨hpn, hn, hm⟩, hM, hz, he0, hF, kq⟩ := h
    have tk : L2N.Takes (cxOf (L2N.CX P w) P w K mg base ["self", "values", "right", "row", "left", "k"] "System.fault" (defScope s_System_fault) fn cdv AA outer s H E) (fun cls d _ H => E cls d H) := L2N.takes_of rfl rfl rfl rfl
    have hu64 : (AA.deeper (envOfC "System.fault" (defScope s_System_fault) s.heap.objs.size fn cdv)).units + 64 < cLine := by have := hr.un; omega
    have hcl := S.cls
    have hn1 := S.r
    have hn3 := S.c
    obtain ⟨zA, gZERO, hzA⟩ := hZ
    obtain ⟨dx, r0, rs, a, as, b, bs, p, hx, hr0, hMm, hT, hp⟩ := hS.ex
    have hul : us.length = pw.length := by rw [All2.len hus, ← hzl]; exact List.length_map ..
    refine ⟨_, (pss_cons (ps_for (passes_of rfl) rfl (pi_range1 (by rfl) B.range (pa_cons (pe_callB call_len_seq (by rfl) B.len PySem.boot_len (pa_cons (pe_fld (pv 0) rfl) pa_nil)) pa_nil)) (pg_name (i := 3) sc_System_fault.nd rfl (Or.inl rfl))
      (pss_cons (ps_set (i := 4) sc_System_fault.nd rfl (Or.inl rfl) (pe_gref gZERO))
      (pss_cons (ps_for (passes_of rfl) rfl (pi_range1 (by rfl) B.range (pa_cons (pe_callB call_len_seq (by rfl) B.len PySem.boot_len (pa_cons (pv 1) pa_nil)) pa_nil)) (pg_name (i := 5) sc_System_fault.nd rfl (Or.inl rfl))
      (pss_one (ps_set (i := 4) sc_System_fault.nd rfl (Or.inl rfl) (pe_cal G_plus (hr.mono (by first | decide | omega)) tk (pa_cons (pv 4) (pa_cons (pe_cal G_times (hr.mono (by first | decide | omega)) tk (pa_cons (pe_ix ix_list (pv 1) (pv 5) (fun _ _ => rfl)) (pa_cons (pe_tup (pa_cons (pe_ix ix_list (pe_ix ix_list (pe_fld (pv 0) rfl) (pv 5) (fun _ _ => rfl)) (pv 3) (fun _ _ => rfl)) (pa_cons pe_int pa_nil))) pa_nil))) pa_nil))))))
      (pss_one (ps_if (pt_cmpR (op_neDk rfl hu64) (pv 4) (pe_tup (pa_cons (pe_ix ix_list (pv 2) (pv 3) (fun _ _ => rfl)) (pa_cons pe_int pa_nil))) (nomark _))
      (pss_one (ps_ret (pv 3)))
      pss_nil)))))
      (pss_one (ps_ret pe_non))), ?_⟩
    walk_at "rq"
    refine ⟨r0, _, rfl, .inl (SqL.of hr0.l), ?_⟩
    walk_at "rq"
    rw [List.length_map, hr0.len]
    refine ⟨by omega, by omega, ?_⟩
    rw [show ((m : Int)).toNat = m by omega]
    refine for_range (lo := 0) (n := m) (fun r σ' H' => ∃ (v3 v4 v5 : Option V), σ' = [some (.ref x), some (.ref va), some (.ref ra), v3, v4, v5] ∧ Same H H' ∧ ∀ q, q < r → sm pw.length (fun k => zs.getD k 0 * M k q) = R q) ⟨_, _, _, rfl, fun b o h => h, fun q hq => by omega⟩ ?_ ?_
    · rintro r σ' H1 hrm ⟨v3, v4, v5, rfl, s1, hq1⟩
      have hva1 := s1 _ _ hva
      walk_at "rq"
      refine ⟨va, us, rfl, .inl (SqL.of hva1), ?_⟩
      walk_at "rq"
      rw [hul]
      refine ⟨by omega, by omega, ?_⟩
      rw [show ((pw.length : Int)).toNat = pw.length by omega]
      have hsb : ∀ i, i ≤ pw.length → (sm i (fun k => zs.getD k 0 * M k r)).natAbs < 2 ^ (e + c + i) := by
        intro i
        induction i with
        | zero => intro _; exact Nat.pow_pos (by decide)
        | succ i ih =>
          intro hi
          have h1 := ih (by omega)
          have h2 : (zs.getD i 0 * M i r).natAbs < 2 ^ (e + c) := by
            refine mul_lt2 (hz _ ?_) (hM i (by omega) r hrm)
            rw [List.getD_eq_getElem?_getD, List.getElem?_eq_getElem (show i < zs.length by omega)]
            exact List.getElem_mem _
          have h3 : 2 ^ (e + c) ≤ 2 ^ (e + c + i) := Nat.pow_le_pow_right (by decide) (by omega)
          rw [sm_succ]
          have e1 : 2 ^ (e + c + (i + 1)) = 2 ^ (e + c + i) + 2 ^ (e + c + i) := by rw [← Nat.add_assoc, Nat.pow_succ]; omega
          omega
      refine for_range (lo := 0) (n := pw.length) (fun i σ' H' => ∃ (v5 : Option V) (vl : V), σ' = [some (.ref x), some (.ref va), some (.ref ra), some (.int (0 + (r : Int))), some vl, v5] ∧ Same H1 H' ∧ FrV K H' vl ((sm i (fun k => zs.getD k 0 * M k r) : Int) : Rat)) ⟨_, .ref zA, rfl, fun b o h => h, FrV.ofInt ⟨zA, rfl, hzA _⟩⟩ ?_ ?_
      · rintro i σ' H2 hi ⟨v5, vl, rfl, s2, hl⟩
        have s12 : Same H H2 := fun b o h => s2 _ _ (s1 _ _ h)
        have hx2 := s12 _ _ hx
        have hM2 := hMm.keep s12
        have hva2 := s12 _ _ hva
        obtain ⟨vy, hvy, tvy⟩ := (hus.keep s12).get (castL_get (zs := zs) (i := i) (by omega))
        obtain ⟨col, hcol, hcoll, hcolr, _⟩ := hM2.at_ (k := i) (by omega)
        have hzi : (zs.getD i 0).natAbs < 2 ^ e := by
          refine hz _ ?_
          rw [List.getD_eq_getElem?_getD, List.getElem?_eq_getElem (show i < zs.length by omega)]
          exact List.getElem_mem _
        have hMir := hM i (by omega) r hrm
        walk_at "rq"
        rw [show (0 : Int) + (i : Int) = ((i : Nat) : Int) by omega]
        refine r_ixL (SqL.of hva2) hvy ?_
        walk_at "rq"
        refine r_ixL (SqL.of hM2.l) hcolr ?_
        walk_at "rq"
        rw [show (0 : Int) + (r : Int) = ((r : Nat) : Int) by omega]
        refine r_ixL (SqL.of hcoll) (rowV_get hrm) ?_
        walk_at "rq"
        intro q1 hq1'
        have t1 : Fr2 K (upd H2 q1 (.tup [.int (M i r), .int 1])) (.ref q1) (M i r) 1 := ⟨q1, rfl, SqT.of upd_same⟩
        have s3 : Same H2 (upd H2 q1 (.tup [.int (M i r), .int 1])) := Same.new hq1'
        generalize upd H2 q1 (.tup [.int (M i r), .int 1]) = H3 at *
        walk_at "rq"
        have hc1 : (M i r).natAbs < 2 ^ (c + 1) := by
          rw [Nat.pow_succ]
          have : 0 < 2 ^ c := Nat.pow_pos (by decide)
          omega
        refine r_times (tvy.keep s3) (FrV.ofInt t1) (bd_int hzi he0) (bd_int hc1 (by omega)) (by omega) fun v H4 s4 tv => ?_
        rw [← icast_mul] at tv
        have hpb : (zs.getD i 0 * M i r).natAbs < 2 ^ (e + c) := mul_lt2 hzi hMir
        walk_at "rq"
        refine r_plus ((hl.keep s3).keep s4) tv (bd_int (e := e + c + 1000) (Nat.lt_of_lt_of_le (hsb i (by omega)) (Nat.pow_le_pow_right (by decide) (by omega))) (by omega)) (bd_int hpb (by omega)) (by omega) fun v2 H5 s5 tv2 => ?_
        walk_at "rq"
        refine ⟨fun b o h => s5 _ _ (s4 _ _ (s3 _ _ (s2 _ _ h))), ?_⟩
        rw [sm_succ, Rat.intCast_add]
        exact tv2
      · rintro σ' H2 ⟨v5, vl, rfl, s2, hl⟩
        have s12 : Same H H2 := fun b o h => s2 _ _ (s1 _ _ h)
        have hra2 := s12 _ _ hra
        walk_at "rq"
        rw [show (0 : Int) + (r : Int) = ((r : Nat) : Int) by omega]
        refine r_ixL (SqL.of hra2) (intsV_get hrm) ?_
        walk_at "rq"
        intro q1 hq1'
        have t1 : Fr2 K (upd H2 q1 (.tup [.int (R r), .int 1])) (.ref q1) (R r) 1 := ⟨q1, rfl, SqT.of upd_same⟩
        have s3 : Same H2 (upd H2 q1 (.tup [.int (R r), .int 1])) := Same.new hq1'
        generalize upd H2 q1 (.tup [.int (R r), .int 1]) = H3 at *
        refine ⟨_, _, FrV.dp (hl.int.keep s3), FrV.dp t1, pair_sh _ _, pair_sh _ _, ?_⟩
        rw [eqv_pair]
        by_cases hq2 : sm pw.length (fun k => zs.getD k 0 * M k r) = R r
        · rw [decide_eq_true hq2]
          walk_at "rq"
          refine ⟨_, _, _, rfl, fun b o h => s3 _ _ (s12 _ _ h), fun q hq => ?_⟩
          by_cases e1 : q = r
          · rw [e1]; exact hq2
          · exact hq1 q (by omega)
        · rw [decide_eq_false hq2]
          walk_at "rq"
          exact (kq H3 (fun b o h => s3 _ _ (s12 _ _ h))).1 r hrm hq2
    · rintro σ' H1 ⟨v3, v4, v5, rfl, s1, hq1⟩
      walk_at "rq"
      exact (kq H1 s1).2 hq1
end
end Al
namespace Al
open PySem PySem.Spec PyProof.Rows L2 NdefX PySem.W
local macro_rules | `(tactic| walk_at "rd1") => `(tactic| with_reducible first
  | (show tVar _ _ _ _; refine r_var (by with_unfolding_all rfl) ?_) | refine r_c ?_ | refine r_op ?_ | refine r_I0 ?_ | refine r_un ?_ | refine r_U ?_
  | (show rI _ _ _ _ _ _; refine r_I (by with_unfolding_all first | exact ⟨by decide, by decide⟩ | (show (0 : Int) < _; decide)) ?_)
  | refine r_eqI ?_ | refine r_neI ?_ | refine r_eqS ?_ | refine r_neS ?_ | refine r_eqB ?_ | refine r_neB ?_ | refine r_chain ?_
  | refine r_test ?_ | refine r_B ?_ | refine r_bl ?_ | refine r_int ?_ | refine r_and ?_ | refine r_or ?_ | refine r_not ?_ | refine r_andV ?_ | refine r_orV ?_ | refine r_notV ?_
  | refine r_if ?_ | refine r_nil ?_ | refine r_cons ?_ | refine r_cb ?_ | refine r_call ?_ | refine r_callS ?_ | refine r_tup ?_ | refine r_lst ?_ | refine r_seq ?_ | refine r_next ?_ | refine r_asg ?_
  | refine r_name ?_ | refine r_ifS ?_ | refine r_ret ?_ | refine r_retN ?_ | refine r_drop ?_ | refine r_brk ?_ | refine r_ct ?_ | refine r_sl ?_ | refine r_part ?_ | refine r_nopart ?_
  | refine r_bm ?_ | refine r_bm0 ?_ | refine r_raiseX ?_ | refine r_mkO ?_ | refine iteF ?_ | refine iteT ?_ | refine r_int1 ?_ | refine r_int1b ?_ | (show _ ≤ sizeLine ∧ _; refine r_sz (by with_unfolding_all first | omega | (simp only [List.length_cons, List.length_nil]; omega)) ?_)
  | (show ∃ _, _; refine ⟨_, rfl, ?_⟩) | (show ∃ _, _; refine ⟨_, _, rfl, rfl, ?_⟩) | (show ∃ _, _; refine ⟨_, _, rfl, ?_⟩))
local macro_rules | `(tactic| walk_at "rd") => `(tactic| repeat (walk_at "rd1"))
local macro_rules | `(tactic| walk_at "rd2") => `(tactic| with_reducible first
  | (show tFld _ _ _ _ _ _; refine r_fldI (by with_unfolding_all rfl) (by with_unfolding_all assumption) (by with_unfolding_all assumption) (by with_unfolding_all assumption) (by with_unfolding_all rfl) ?_)
  | (show tMetS _ _ _ _ _ _ _ _ _; refine r_rm (by with_unfolding_all assumption) (by with_unfolding_all rfl) (by decide) ?_)
  | refine r_sfl ?_ | refine iteNF ?_ | refine iteNT ?_ | refine r_makS ?_)
local macro_rules | `(tactic| walk_at "rp") => `(tactic| repeat first | walk_at "rd1" | walk_at "rd2")
local macro_rules | `(tactic| walk_at "rq1") => `(tactic| with_reducible first | refine r_rng1 ?_ | refine r_rng2 ?_ | refine r_forL ?_ | refine r_forT ?_ | refine r_dget ?_ | refine r_pnil ?_ | refine r_pcons ?_ | refine r_lcL ?_ | refine r_lcT ?_ | refine r_lcR ?_ | refine r_yes ?_ | refine r_disp ?_)
local macro_rules | `(tactic| walk_at "rq") => `(tactic| repeat first | walk_at "rd1" | walk_at "rd2" | walk_at "rq1")

theorem r_metI {C a dx : Addr} {m : Str} {sp : Sp} {E : L2.St → XK} {i : Nat} {t : TA} {σ : L2.St} {H : Hp} {Q : VK} {fs : List (Str × V)} (h : σ[i]? = some (some (.ref a))) (hi : H a = some (.ins C dx fs)) (l : fs.lookup m = none) (q : t σ H fun vs H2 => sp (.ref a :: vs) H2 Q (E σ)) :
    tMetS C m sp E (tVar i) t σ H Q := ⟨_, h, a, dx, fs, rfl, hi, l, q⟩
theorem den_one {q : Rat} (h : (q.den : Int) = 1) : ((q.num : Int) : Rat) = q := by
  have e := Rat.num_divInt_den q
  rw [h, divInt_1] at e
  exact e
theorem whole_den {q : Rat} {z : Int} (h : q = (z : Rat)) : (q.den : Int) = 1 := by
  rw [h, Rat.den_intCast]
  rfl
theorem castL_num : ∀ {l : List Rat}, (∀ y ∈ l, (y.den : Int) = 1) → castL (l.map Rat.num) = l
  | [], _ => rfl
  | y :: l, h => by
    have ih := castL_num fun z hz => h z (List.mem_cons_of_mem _ hz)
    show ((y.num : Int) : Rat) :: castL (l.map Rat.num) = _
    rw [ih, den_one (h y List.mem_cons_self)]
theorem intsV_zero (n : Nat) : (List.replicate n [V.int 0]).flatten = intsV (fun _ => 0) n := by
  induction n with
  | zero => rfl
  | succ n ih =>
    rw [List.replicate_succ', List.flatten_append, ih]
    unfold intsV
    rw [List.range_succ, List.map_append]
    rfl
theorem intsV_len (R : Nat → Int) (n : Nat) : (intsV R n).length = n := by unfold intsV; rw [List.length_map, List.length_range]
theorem intsV_set {f g : Nat → Int} {n j : Nat} {v : Int} (hj : j < n) (hg : ∀ q, q < n → g q = if q = j then v else f q) : (intsV f n).set j (.int v) = intsV g n := by
  have := rowV_set (M := fun _ => f) (N := fun _ => g) (m := n) (k := 0) (r := j) (v := v) hj hg
  exact this
def spSolve (C : Addr) : Sp := fun vs H Q _ => ∃ (x ra : Addr) (A : Nat → Nat → Int) (n m : Nat) (M T : Nat → Nat → Int) (pw : List Nat) (R : Nat → Int) (b s F : Nat), vs = [.ref x, .ref ra] ∧ Sy C H x A n m M T pw ∧ Stp A n m b m M T pw ∧ H ra = some (.lst (intsV R m)) ∧ (n ≤ 1000 ∧ m ≤ 1000) ∧
  (∀ r, r < m → (R r).natAbs < 2 ^ s) ∧ (s + (pw.length + 1) * (eB b pw.length + 1) ≤ F ∧ eB b pw.length * pw.length + 1 ≤ F ∧ 2 * (F + eB b pw.length) + 10 ≤ 120000000) ∧
  (∀ (z : Nat → Int) (a : Addr) (H' : Hp), Same H H' → H a = none → H' a = some (.lst (intsV (back T pw.length z) n)) → Sol A n m R (back T pw.length z) → (∀ k, k < pw.length → (z k).natAbs < 2 ^ F) → Q (.ref a) H') ∧ ∀ H', Same H H' → (∀ X, ¬ Sol A n m R X) → Q .non H'
section
variable {P : Program} {w : World} {K : Frag} {mg : Str → Option Value} {base : Heap} {C : Addr}
abbrev s_System_solve : Stmt := inClass (top 13) 3
theorem sc_System_solve : FnScope ["self", "right", "values", "value", "result", "k", "j"] ["self", "right"] (defScope s_System_solve) := ⟨rfl, rfl, rfl, by decide +kernel, rfl, by decide +kernel, by decide +kernel⟩
theorem met_solve (dx : MetAt K C "solve" "System.solve" s_System_solve) (B : Bl mg) (S : SC K C) (M_steps : MetX P w K mg base 38 C "steps" ["self", "right"] (spSteps C)) (M_fault : MetX P w K mg base 38 C "fault" ["self", "values", "right"] (spFault K C)) :
    MetX P w K mg base 39 C "solve" ["self", "right"] (spSolve C) := by
  refine met_mk dx sc_System_solve (fun _ _ _ _ _ _ us hl => match us, hl with | [_, _], _ => rfl) (fun vs H Q E h => ?_) (fun fn cdv AA outer s H vs Q E hr h => ?_)
  · obtain ⟨x, ra, A, n, m, M, T, pw, R, b, sz, F, rfl, _⟩ := h
    rfl
  · obtain ⟨x, ra, A, n, m, M, T, pw, R, b, sz, F, rfl, hS, hst, hra, ⟨hn, hm⟩, hR, ⟨hF1, hF2, hF3⟩, kq1, kq2⟩ := h
    have tk : L2N.Takes (cxOf (L2N.CX P w) P w K mg base ["self", "right", "values", "value", "result", "k", "j"] "System.solve" (defScope s_System_solve) fn cdv AA outer s H E) (fun cls d _ H => E cls d H) := L2N.takes_of rfl rfl rfl rfl
    have hcl := S.cls
    have hn2 := S.n
    have hn4 := S.t
    obtain ⟨dx, r0, rs, a, as, bb, bs, p, hx, hr0, hMm, hT, hp⟩ := hS.ex
    have hpw : ∀ (i r : Nat), pw[i]? = some r → r < m ∧ M i r ≠ 0 := fun i r h => ⟨(hst.piv i r h).1, (hst.piv i r h).2.1⟩
    refine ⟨_, (pss_cons (ps_set (i := 2) sc_System_solve.nd rfl (Or.inl rfl) (pe_metX M_steps (hr.mono (by first | decide | omega)) tk (pv 0) (pa_cons (pv 1) pa_nil)))
      (pss_cons (ps_if (PW.pt (pw_or (pt_val (pe_callB (cr_any rfl) (by rfl) B.any (by decide +kernel) (pa_cons (pe_lc (own := [("value", 3)]) rfl sc_System_solve.nd (pi_list (pv 2)) (blkOk_by (N := ["self", "right", "values", "value", "result", "k", "j"]) (sc := defScope s_System_solve) (by decide +kernel)) (fun _ _ _ _ _ => (pg_name (i := 3) sc_System_solve.nd rfl (Or.inl rfl))) (fun _ _ _ _ _ => pts_nil) (fun _ _ _ _ _ => (pe_cmpR op_ne (pe_ix (ix_tupK (K := K) rfl) (pv 3) pe_int (fun _ _ => rfl)) pe_int (nomark _)))) pa_nil))) (pw_or1 (pt_cmpR op_notN (pe_metX M_fault (hr.mono (by first | decide | omega)) tk (pv 0) (pa_cons (pv 2) (pa_cons (pv 1) pa_nil))) pe_non (nomark _)))))
      (pss_one (ps_ret pe_non))
      pss_nil)
      (pss_cons (ps_set (i := 4) sc_System_solve.nd rfl (Or.inl rfl) (pe_op op_rep (pe_lst (pa_cons pe_int pa_nil)) (pe_fld (pv 0) rfl)))
      (pss_cons (ps_for (passes_of rfl) rfl (pi_range1 (by rfl) B.range (pa_cons (pe_callB call_len_seq (by rfl) B.len PySem.boot_len (pa_cons (pv 2) pa_nil)) pa_nil)) (pg_name (i := 5) sc_System_solve.nd rfl (Or.inl rfl))
      (pss_one (ps_for (passes_of rfl) rfl (pi_range1 (by rfl) B.range (pa_cons (pe_fld (pv 0) rfl) pa_nil)) (pg_name (i := 6) sc_System_solve.nd rfl (Or.inl rfl))
      (pss_one (ps_asg (pe_op op_add (pe_ix ix_list (pv 4) (pv 6) (fun _ _ => rfl)) (pe_op op_mulA (pe_ix ix_tup (pe_ix ix_list (pv 2) (pv 5) (fun _ _ => rfl)) pe_int (fun _ _ => rfl)) (pe_ix ix_list (pe_ix ix_list (pe_fld (pv 0) rfl) (pv 5) (fun _ _ => rfl)) (pv 6) (fun _ _ => rfl)))) (pg_sub (pv 4) (pv 6) set_list))))))
      (pss_one (ps_ret (pv 4))))))), ?_⟩
    walk_at "rq"
    refine r_metI (by with_unfolding_all rfl) hx rfl ?_
    walk_at "rq"
    refine ⟨x, ra, A, n, m, M, T, pw, R, sz, eB b pw.length, F, rfl, hS, hra, hpw, ⟨hst.len, hn⟩, hst.bm, hR, ⟨hF1, hF2, by omega⟩, fun va us l H1 s1 hva hu1 htl hll heq hbd => ?_⟩
    have hus := FrA.of (K := K) htl
    have hul : us.length = pw.length := by rw [All2.len hus, hll]
    have hsol : ∀ X, Sol A n m R X → ∃ z : Nat → Int, (∀ i, i < pw.length → l.getD i 0 = (z i : Rat)) ∧ ∀ r, r < m → sm pw.length (fun k => z k * M k r) = R r := fun X hX => by
      obtain ⟨z, h1, h2⟩ := hst.steps hX
      exact ⟨z, fun i hi => hst.eq h2 (y := fun j => l.getD j 0) heq i hi, h2⟩
    have hra1 := s1 _ _ hra
    walk_at "rq"
    refine ⟨⟨_, SqL.of hu1⟩, fun D hD => ?_⟩
    refine lcw_list (fun i H' => Same H1 H' ∧ H' D = some (.lst (((l.take i).map fun y => !decide ((y.den : Int) = 1)).map V.bl))) ⟨Same.new hD, upd_same⟩ (fun i H' _ h => SqL.of (h.1 _ _ hu1)) ?_ ?_
    · rintro i v H2 hv ⟨s2, h2⟩
      have hi : i < l.length := by rw [hll, ← hul]; exact (List.getElem?_eq_some_iff.mp hv).1
      have hgl : l[i]? = some l[i] := List.getElem?_eq_getElem hi
      obtain ⟨v', hv', pf, rfl, hsq⟩ := (hus.keep s2).get hgl
      rw [hv] at hv'
      cases hv'
      have hle : (((l.take i).map fun y => !decide ((y.den : Int) = 1)).map V.bl).length ≤ 1000 := by
        rw [List.length_map, List.length_map, List.length_take]
        have := hst.len
        omega
      walk_at "rq"
      refine r_ixT (n := 1) hsq rfl ?_
      walk_at "rq"
      refine ⟨_, h2, by rw [sizeLine_eq]; omega, Same.mut s2 hD, ?_⟩
      rw [upd_same, List.take_succ, hgl, List.map_append, List.map_append]
      rfl
    · rintro H2 ⟨s2, h2⟩
      rw [hul, ← hll, List.take_length] at h2
      have s12 : Same H H2 := fun b o h => s2 _ _ (s1 _ _ h)
      walk_at "rq"
      refine ⟨D, _, rfl, SqL.of h2, ?_⟩
      cases hany : ((l.map fun y => !decide ((y.den : Int) = 1)).any id) with
      | true =>
        walk_at "rq"
        refine kq2 H2 s12 fun X hX => ?_
        obtain ⟨z, h3, _⟩ := hsol X hX
        rw [List.any_map, List.any_eq_true] at hany
        obtain ⟨y, hy, hy2⟩ := hany
        obtain ⟨i, hi, e⟩ := List.mem_iff_getElem.mp hy
        have h4 := h3 i (by omega)
        rw [List.getD_eq_getElem?_getD, List.getElem?_eq_getElem hi] at h4
        have h4 : l[i] = (z i : Rat) := h4
        rw [e] at h4
        have h5 := whole_den h4
        have hy2 : (!decide ((y.den : Int) = 1)) = true := hy2
        rw [decide_eq_true h5] at hy2
        cases hy2
      | false =>
        have hden : ∀ y ∈ l, (y.den : Int) = 1 := fun y hy => by
          rw [List.any_map, List.any_eq_false] at hany
          have h6 := hany y hy
          have h6 : ¬ (!decide ((y.den : Int) = 1)) = true := h6
          rcases Decidable.em ((y.den : Int) = 1) with q | q
          · exact q
          · exact absurd (by rw [decide_eq_false q]; rfl) h6
        have hcl2 := castL_num hden
        generalize hzs : l.map Rat.num = zs at *
        have hzl : zs.length = pw.length := by rw [← hzs, List.length_map, hll]
        have hlz : ∀ i, i < pw.length → l.getD i 0 = ((zs.getD i 0 : Int) : Rat) := fun i hi => by
          have := castL_get (zs := zs) (i := i) (by omega)
          rw [hcl2] at this
          rw [List.getD_eq_getElem?_getD, this]
          rfl
        have hzb : ∀ z ∈ zs, z.natAbs < 2 ^ F := fun z hz => by
          rw [← hzs] at hz
          obtain ⟨y, hy, rfl⟩ := List.mem_map.mp hz
          exact (hbd y hy).1
        have hus2 : FrA K H2 us (castL zs) := by rw [hcl2]; exact hus.keep s2
        have hx2 := s12 _ _ hx
        have hF0 : 0 < F := by omega
        have hsz : ∀ X, Sol A n m R X → ∀ r, r < m → sm pw.length (fun k => zs.getD k 0 * M k r) = R r := fun X hX r hr => by
          obtain ⟨z, h3, h4⟩ := hsol X hX
          rw [← h4 r hr]
          refine sm_congr fun k hk => ?_
          have h5 := h3 k hk
          rw [hlz k hk] at h5
          have h6 : zs.getD k 0 = z k := by
            have := congrArg Rat.num h5
            rwa [Rat.num_intCast, Rat.num_intCast] at this
          rw [h6]
        walk_at "rq"
        refine r_metI (by with_unfolding_all rfl) hx2 rfl ?_
        walk_at "rq"
        refine ⟨x, va, ra, us, A, n, m, M, T, pw, zs, R, F, eB b pw.length, rfl, hS.keep s12, ⟨s2 _ _ hu1, hus2, hzl⟩, s12 _ _ hra, ⟨hst.len, hn, hm⟩, hst.bm, hzb, hF0, by omega, fun H3 s3 => ⟨fun r hr hne => ?_, fun hall => ?_⟩⟩
        · walk_at "rq"
          refine ⟨rfl, ?_⟩
          rw [decide_eq_false (fun h => by cases h)]
          walk_at "rq"
          exact kq2 H3 (fun b o h => s3 _ _ (s12 _ _ h)) fun X hX => hne (hsz X hX r hr)
        · walk_at "rq"
          refine ⟨rfl, ?_⟩
          rw [decide_eq_true rfl]
          walk_at "rq"
          intro q0 hq0
          have aq : upd H3 q0 (.lst [.int 0]) q0 = some (.lst [.int 0]) := upd_same
          have s4 : Same H3 (upd H3 q0 (.lst [.int 0])) := Same.new hq0
          generalize upd H3 q0 (.lst [.int 0]) = H4 at *
          have s04 : Same H H4 := fun b o h => s4 _ _ (s3 _ _ (s12 _ _ h))
          have hx4 := s04 _ _ hx
          have s14 : Same H1 H4 := fun b o h => s4 _ _ (s3 _ _ (s2 _ _ h))
          walk_at "rq"
          refine ⟨q0, (n : Int), [.int 0], rfl, rfl, aq, by omega, by omega, by rw [sizeLine_eq, show ((n : Int)).toNat = n by omega]; show 1 * n ≤ _; omega, fun pr hpr => ?_⟩
          rw [show ((n : Int)).toNat = n by omega, intsV_zero]
          have apr : upd H4 pr (.lst (intsV (fun _ => 0) n)) pr = some (.lst (intsV (fun _ => 0) n)) := upd_same
          have s5 : Same H4 (upd H4 pr (.lst (intsV (fun _ => 0) n))) := Same.new hpr
          have hprN : H pr = none := by
            cases e : H pr with
            | none => rfl
            | some u => rw [s04 _ _ e] at hpr; cases hpr
          have hprva : pr ≠ va := fun e => by rw [e, s14 _ _ hu1] at hpr; cases hpr
          have hu5 := s5 _ _ (s14 _ _ hu1)
          have hus5 : FrA K (upd H4 pr (.lst (intsV (fun _ => 0) n))) us (castL zs) := hus2.keep (fun b o h => s5 _ _ (s4 _ _ (s3 _ _ h)))
          have s05 : Same H (upd H4 pr (.lst (intsV (fun _ => 0) n))) := fun b o h => s5 _ _ (s04 _ _ h)
          generalize upd H4 pr (.lst (intsV (fun _ => 0) n)) = H5 at *
          walk_at "rq"
          refine ⟨va, us, rfl, .inl (SqL.of hu5), ?_⟩
          walk_at "rq"
          rw [hul]
          have hpn := hst.len
          refine ⟨by omega, by omega, ?_⟩
          rw [show ((pw.length : Int)).toNat = pw.length by omega]
          have step : ∀ {H' : Hp} {o : HO}, (∀ b u, b ≠ pr → H5 b = some u → H' b = some u) → ∀ b u, b ≠ pr → H5 b = some u → upd H' pr o b = some u := fun h b u hb e => (upd_ne hb).trans (h b u hb e)
          have old : ∀ {H' : Hp}, (∀ b u, b ≠ pr → H5 b = some u → H' b = some u) → Same H H' := fun h b u e => h b u (fun q => by rw [q, hprN] at e; cases e) (s05 _ _ e)
          refine for_range (lo := 0) (n := pw.length) (fun k σ' H' => ∃ (v3 v5 v6 : Option V), σ' = [some (.ref x), some (.ref ra), some (.ref va), v3, some (.ref pr), v5, v6] ∧ (∀ b u, b ≠ pr → H5 b = some u → H' b = some u) ∧ H' pr = some (.lst (intsV (back T k (fun k => zs.getD k 0)) n)))
            ⟨_, _, _, rfl, fun b u _ h => h, apr⟩ ?_ ?_
          · rintro k σ' H6 hk ⟨v3, v5, v6, rfl, fr6, hp6⟩
            have hx6 := old fr6 _ _ hx
            have hT6 := hT.keep (old fr6)
            obtain ⟨col, hcol, hcoll, hcolr, _⟩ := hT6.at_ (k := k) (by omega)
            walk_at "rq"
            refine ⟨by omega, by omega, ?_⟩
            rw [show ((n : Int)).toNat = n by omega]
            refine for_range (lo := 0) (n := n) (fun j σ' H' => ∃ (v3 v6 : Option V), σ' = [some (.ref x), some (.ref ra), some (.ref va), v3, some (.ref pr), some (.int (0 + (k : Int))), v6] ∧ (∀ b u, b ≠ pr → H5 b = some u → H' b = some u) ∧ H' pr = some (.lst (intsV (fun q => if q < j then back T (k + 1) (fun k => zs.getD k 0) q else back T k (fun k => zs.getD k 0) q) n)))
              ⟨_, _, rfl, fr6, by rw [hp6]; simp⟩ ?_ ?_
            · rintro j σ' H7 hj ⟨v3, v6, rfl, fr7, hp7⟩
              have hx7 := old fr7 _ _ hx
              have hT7 := hT.keep (old fr7)
              obtain ⟨col, hcol, hcoll, hcolr, _⟩ := hT7.at_ (k := k) (by omega)
              have hu7 := fr7 _ _ (Ne.symm hprva) hu5
              have hgz := castL_get (zs := zs) (i := k) (by omega)
              obtain ⟨vy, hvy, tvy⟩ := hus5.get hgz
              obtain ⟨py, rfl, hsq⟩ := tvy.int
              have hsq7 : SqT K H7 py [.int (zs.getD k 0), .int 1] := by
                rcases hsq with (h | ⟨o, h⟩) | h
                · refine .inl (.inl (fr7 _ _ (fun e => ?_) h))
                  rw [e, apr] at h
                  cases h
                · refine .inl (.inr ⟨o, fr7 _ _ (fun e => ?_) h⟩)
                  rw [e, apr] at h
                  cases h
                · exact .inr h
              have hzk : (zs.getD k 0).natAbs < 2 ^ F := by
                refine hzb _ ?_
                rw [List.getD_eq_getElem?_getD, List.getElem?_eq_getElem (show k < zs.length by omega)]
                exact List.getElem_mem _
              have hTkj : (T k j).natAbs < 2 ^ (eB b pw.length + 1) := by
                have := hst.bt k (by omega) j hj
                have h2 : 0 < 2 ^ eB b pw.length := Nat.pow_pos (by decide)
                rw [Nat.pow_succ]
                omega
              walk_at "rq"
              rw [show (0 : Int) + (j : Int) = ((j : Nat) : Int) by omega]
              refine r_ixL (SqL.of hp7) (intsV_get hj) ?_
              walk_at "rq"
              rw [show (0 : Int) + (k : Int) = ((k : Nat) : Int) by omega]
              refine r_ixL (SqL.of hu7) hvy ?_
              walk_at "rq"
              refine r_ixT (n := 0) hsq7 rfl ?_
              walk_at "rq"
              refine r_ixL (SqL.of hT7.l) hcolr ?_
              walk_at "rq"
              refine r_ixL (SqL.of hcoll) (rowV_get hj) ?_
              refine r_I (mulA hzk hTkj (by omega)) ?_
              walk_at "rq"
              refine r_gsub ?_
              walk_at "rq"
              refine r_setL hp7 (by rw [intsV_len]; exact hj) ?_
              walk_at "rq"
              refine ⟨step fr7, ?_⟩
              rw [upd_same]
              refine congrArg (fun l => some (HO.lst l)) (intsV_set hj fun q hq => ?_)
              by_cases e : q = j
              · subst e
                rw [if_pos (by omega), if_pos rfl, if_neg (by omega)]
                rfl
              · rw [if_neg e]
                by_cases e2 : q < j
                · rw [if_pos (by omega), if_pos e2]
                · rw [if_neg (by omega), if_neg e2]
            · rintro σ' H7 ⟨v3, v6, rfl, fr7, hp7⟩
              walk_at "rq"
              refine ⟨_, _, _, rfl, fr7, ?_⟩
              rw [hp7]
              refine congrArg (fun l => some (HO.lst l)) ?_
              unfold intsV
              exact List.map_congr_left fun q hq => by dsimp only; rw [if_pos (List.mem_range.mp hq)]
          · rintro σ' H6 ⟨v3, v5, v6, rfl, fr6, hp6⟩
            walk_at "rq"
            refine kq1 (fun k => zs.getD k 0) pr H6 (old fr6) hprN hp6 (hst.sol hall) fun k hk => hzb _ ?_
            rw [List.getD_eq_getElem?_getD, List.getElem?_eq_getElem (show k < zs.length by omega)]
            exact List.getElem_mem _
end
end Al
namespace Al
open PySem PySem.Spec PyProof.Rows L2 NdefX PySem.W
/-! ### k03: the weights' fractions -/
theorem sm_split {α : Type} [Lean.Grind.CommRing α] (a b : Nat) (f : Nat → α) : sm (a + b) f = sm a f + sm b fun q => f (a + q) := by
  induction b with
  | zero => rw [sm_zero', Nat.add_zero]; grind
  | succ b ih => rw [← Nat.add_assoc, sm_succ, sm_succ, ih]; grind
theorem sc_sub {D a : Int} {e e' c : Nat} {rest y : Rat} (h : sc D e rest) (hy : sc D e' y) (he : e' + c ≤ e) (ha : a.natAbs ≤ 2 ^ c) : sc D (e + 1) (rest - y * (a : Rat)) := by
  obtain ⟨N1, h1, b1⟩ := h
  obtain ⟨N2, h2, b2⟩ := hy
  refine ⟨N1 - N2 * a, ?_, ?_⟩
  · rw [Rat.intCast_sub, icast_mul, ← h1, ← h2]
    grind
  · have q2 := mul_lt2 b2 ha
    have e1 : 2 ^ (e' + c) ≤ 2 ^ e := Nat.pow_le_pow_right (by decide) he
    rw [Nat.pow_succ]
    omega
theorem sc_lift {D p : Int} {e c : Nat} {y : Rat} (h : sc D e y) (hp : p.natAbs ≤ 2 ^ c) : sc (D * p) (e + c) y := by
  obtain ⟨N, h1, b1⟩ := h
  refine ⟨N * p, ?_, mul_lt2 b1 hp⟩
  rw [icast_mul, icast_mul, ← h1]
  grind
/-- the product of the pivots' entries, from the last one -/
def rP (M : Nat → Nat → Int) (pw : List Nat) : Nat → Int
  | 0 => 1
  | i + 1 => rP M pw i * M (pw.length - 1 - i) (pw.getD (pw.length - 1 - i) 0)
section
variable {M : Nat → Nat → Int} {pw : List Nat} {c : Nat}
theorem rP_ne (h : ∀ (i r : Nat), pw[i]? = some r → M i r ≠ 0) : ∀ i, i ≤ pw.length → rP M pw i ≠ 0
  | 0, _ => by show (1 : Int) ≠ 0; decide
  | i + 1, hi => by
    have h1 := rP_ne h i (by omega)
    have h2 : M (pw.length - 1 - i) (pw.getD (pw.length - 1 - i) 0) ≠ 0 := h _ _ (by rw [List.getD_eq_getElem?_getD, List.getElem?_eq_getElem (show pw.length - 1 - i < pw.length by omega)] <;> rfl)
    exact Int.mul_ne_zero h1 h2
theorem rP_lt (h : ∀ (i r : Nat), pw[i]? = some r → (M i r).natAbs ≤ 2 ^ c) : ∀ i, i ≤ pw.length → (rP M pw i).natAbs < 2 ^ (c * i + 1)
  | 0, _ => by show (1 : Int).natAbs < 2 ^ (0 + 1); decide
  | i + 1, hi => by
    have h1 := rP_lt h i (by omega)
    have h2 : (M (pw.length - 1 - i) (pw.getD (pw.length - 1 - i) 0)).natAbs ≤ 2 ^ c := h _ _ (by rw [List.getD_eq_getElem?_getD, List.getElem?_eq_getElem (show pw.length - 1 - i < pw.length by omega)] <;> rfl)
    show (rP M pw i * M (pw.length - 1 - i) (pw.getD (pw.length - 1 - i) 0)).natAbs < _
    have e1 : c * (i + 1) + 1 = c * i + 1 + c := by rw [Nat.mul_add]; omega
    rw [e1]
    exact mul_lt2 h1 h2
end
theorem All2.set {α β : Type} {R : α → β → Prop} : ∀ {as : List α} {bs : List β} {i : Nat} {a : α} {b : β}, All2 R as bs → R a b → All2 R (as.set i a) (bs.set i b)
  | _, _, _, _, _, .nil, _ => .nil
  | _, _, 0, _, _, .cons _ t, h => .cons h t
  | _, _, i + 1, _, _, .cons a t, h => .cons a (All2.set t h)
theorem All2.rep {α β : Type} {R : α → β → Prop} {a : α} {b : β} (h : R a b) : ∀ n, All2 R (List.replicate n a) (List.replicate n b)
  | 0 => .nil
  | n + 1 => by
    rw [List.replicate_succ, List.replicate_succ]
    exact .cons h (All2.rep h n)
theorem getD_set (l : List Rat) (k j : Nat) (y : Rat) (hk : k < l.length) : (l.set k y).getD j 0 = if j = k then y else l.getD j 0 := by
  rw [List.getD_eq_getElem?_getD, List.getElem?_set]
  by_cases e : k = j
  · subst e
    rw [if_pos rfl, if_pos hk, if_pos rfl]
    rfl
  · rw [if_neg e, if_neg (Ne.symm e), List.getD_eq_getElem?_getD]
theorem rep_flat {α : Type} (n : Nat) (v : α) : (List.replicate n [v]).flatten = List.replicate n v := by
  induction n with
  | zero => rfl
  | succ n ih => rw [List.replicate_succ, List.replicate_succ, List.flatten_cons, ih]; rfl
/-- the weights' bounds, from the last one -/
def yW (s c i : Nat) : Nat := s + 1 + i * (c + 1001)
end Al
namespace Al
open PySem PySem.Spec PyProof.Rows L2 NdefX PySem.W
local macro_rules | `(tactic| walk_at "rd1") => `(tactic| with_reducible first
  | (show tVar _ _ _ _; refine r_var (by with_unfolding_all rfl) ?_) | refine r_c ?_ | refine r_op ?_ | refine r_I0 ?_ | refine r_un ?_ | refine r_U ?_
  | (show rI _ _ _ _ _ _; refine r_I (by with_unfolding_all first | exact ⟨by decide, by decide⟩ | (show (0 : Int) < _; decide)) ?_)
  | refine r_eqI ?_ | refine r_neI ?_ | refine r_eqS ?_ | refine r_neS ?_ | refine r_eqB ?_ | refine r_neB ?_ | refine r_chain ?_
  | refine r_test ?_ | refine r_B ?_ | refine r_bl ?_ | refine r_int ?_ | refine r_and ?_ | refine r_or ?_ | refine r_not ?_ | refine r_andV ?_ | refine r_orV ?_ | refine r_notV ?_
  | refine r_if ?_ | refine r_nil ?_ | refine r_cons ?_ | refine r_cb ?_ | refine r_call ?_ | refine r_callS ?_ | refine r_tup ?_ | refine r_lst ?_ | refine r_seq ?_ | refine r_next ?_ | refine r_asg ?_
  | refine r_name ?_ | refine r_ifS ?_ | refine r_ret ?_ | refine r_retN ?_ | refine r_drop ?_ | refine r_brk ?_ | refine r_ct ?_ | refine r_sl ?_ | refine r_part ?_ | refine r_nopart ?_
  | refine r_bm ?_ | refine r_bm0 ?_ | refine r_raiseX ?_ | refine r_mkO ?_ | refine iteF ?_ | refine iteT ?_ | refine r_int1 ?_ | refine r_int1b ?_ | (show _ ≤ sizeLine ∧ _; refine r_sz (by with_unfolding_all first | omega | (simp only [List.length_cons, List.length_nil]; omega)) ?_)
  | (show ∃ _, _; refine ⟨_, rfl, ?_⟩) | (show ∃ _, _; refine ⟨_, _, rfl, rfl, ?_⟩) | (show ∃ _, _; refine ⟨_, _, rfl, ?_⟩))
local macro_rules | `(tactic| walk_at "rd") => `(tactic| repeat (walk_at "rd1"))
local macro_rules | `(tactic| walk_at "rd2") => `(tactic| with_reducible first
  | (show tFld _ _ _ _ _ _; refine r_fldI (by with_unfolding_all rfl) (by with_unfolding_all assumption) (by with_unfolding_all assumption) (by with_unfolding_all assumption) (by with_unfolding_all rfl) ?_)
  | (show tMetS _ _ _ _ _ _ _ _ _; refine r_rm (by with_unfolding_all assumption) (by with_unfolding_all rfl) (by decide) ?_)
  | refine r_sfl ?_ | refine iteNF ?_ | refine iteNT ?_ | refine r_makS ?_)
local macro_rules | `(tactic| walk_at "rp") => `(tactic| repeat first | walk_at "rd1" | walk_at "rd2")
local macro_rules | `(tactic| walk_at "rq1") => `(tactic| with_reducible first | refine r_rng1 ?_ | refine r_rng2 ?_ | refine r_forL ?_ | refine r_forT ?_ | refine r_dget ?_ | refine r_pnil ?_ | refine r_pcons ?_ | refine r_lcL ?_ | refine r_lcT ?_ | refine r_lcR ?_ | refine r_yes ?_ | refine r_disp ?_)
local macro_rules | `(tactic| walk_at "rq") => `(tactic| repeat first | walk_at "rd1" | walk_at "rd2" | walk_at "rq1")

theorem r_forRev {i : Nat} {g : TG} {tb : TS} {D : Ends} {σ : L2.St} {H : Hp} {n : Nat} (h : σ[i]? = some (some (.int (n : Int)))) (hn : n ≤ 1000) (hl : LoopW (Itc ((n : Int) - 1) (-1) n) g tb D σ H) : tFor (iRevR (tRg1 (tVar i))) g tb D σ H := by
  refine ⟨_, h, (n : Int), rfl, by omega, by omega, by omega, by omega, ?_⟩
  have e1 : ((n : Int) - 0).toNat = n := by omega
  rw [e1]
  have e2 : (0 : Int) + ((n : Nat) : Int) - 1 = (n : Int) - 1 := by omega
  rw [e2]
  exact hl
theorem FrV.fr {K : Frag} {H H' : Hp} {v : V} {y : Rat} {pr : Addr} {us : List V} (h : FrV K H v y) (hp : H pr = some (.lst us)) (fr : ∀ b u, b ≠ pr → H b = some u → H' b = some u) : FrV K H' v y := by
  obtain ⟨py, rfl, hsq⟩ := h
  refine ⟨py, rfl, ?_⟩
  rcases hsq with (h | ⟨o, h⟩) | h
  · refine .inl (.inl (fr _ _ (fun e => ?_) h))
    rw [e, hp] at h
    cases h
  · refine .inl (.inr ⟨o, fr _ _ (fun e => ?_) h⟩)
    rw [e, hp] at h
    cases h
  · exact .inr h
theorem FrA.fr {K : Frag} {H H' : Hp} {vs : List V} {l : List Rat} {pr : Addr} {us : List V} (h : FrA K H vs l) (hp : H pr = some (.lst us)) (fr : ∀ b u, b ≠ pr → H b = some u → H' b = some u) : FrA K H' vs l := All2.mono (fun _ _ q => FrV.fr q hp fr) h
theorem bd_mulI {y : Rat} {a : Int} {p q : Nat} (h : bd p y) (ha : a.natAbs < 2 ^ q) : bd (p + q) (y * (a : Rat)) := by
  rw [← q_times y a]
  refine bd_of (by rw [Int.mul_one]; exact den_ne _) ?_ ?_
  · exact mul_lt2 h.1 (Nat.le_of_lt ha)
  · rw [Int.mul_one, Int.natAbs_natCast]
    exact Nat.lt_of_lt_of_le h.2 (Nat.pow_le_pow_right (by decide) (by omega))
theorem fin_sub (a b : Rat) : 0 + (a - b) + b = a := by grind
theorem sub_sub' (a b c : Rat) : a - b - c = a - (b + c) := by grind
theorem getD_some {l : List Rat} {j : Nat} (h : j < l.length) : l[j]? = some (l.getD j 0) := by
  rw [List.getD_eq_getElem?_getD, List.getElem?_eq_getElem h]; rfl
theorem r_over {K : Frag} {H : Hp} {v1 v2 : V} {x : Rat} {a : Int} {p q : Nat} {Q : VK} {E : XK} (h1 : FrV K H v1 x) (h2 : Fr2 K H v2 a 1) (ha : a ≠ 0) (b1 : bd p x) (b2 : a.natAbs < 2 ^ q) (hq : 0 < q) (hl : p + q ≤ 129999000) (k : ∀ v H', Same H H' → FrV K H' v (x / (a : Rat)) → Q v H') : spTwo K fOver [v1, v2] H Q E :=
  ⟨v1, v2, _, _, _, _, p, q, rfl, h1, h2, Int.mul_ne_zero (den_ne x) ha, ⟨b1.1, by rw [Int.natAbs_natCast]; exact b1.2, b2, Nat.one_lt_two_pow (by omega), hl⟩, fun v H' s t => k v H' s (by rw [← q_over x a]; exact .of t)⟩
/-- what is asked of weights: the pivots' rows add up to a row of the stepped unknowns -/
def Wts (M : Nat → Nat → Int) (pw : List Nat) (t : Nat → Int) (l : List Rat) : Prop := l.length = pw.length ∧ ∀ k, k < pw.length → sm pw.length (fun j => l.getD j 0 * (M k (pw.getD j 0) : Rat)) = (t k : Rat)
def spWeights (K : Frag) (C : Addr) : Sp := fun vs H Q _ => ∃ (x ta : Addr) (us : List V) (A : Nat → Nat → Int) (n m : Nat) (M T : Nat → Nat → Int) (pw : List Nat) (t : List Int) (s c F : Nat), vs = [.ref x, .ref ta] ∧ Sy C H x A n m M T pw ∧ (H ta = some (.lst us) ∧ FrA K H us (castL t) ∧ t.length = pw.length) ∧
  (∀ (i r : Nat), pw[i]? = some r → r < m ∧ M i r ≠ 0 ∧ ∀ k, i < k → k < n → M k r = 0) ∧ (pw.length ≤ n ∧ n ≤ 1000) ∧ (∀ k, k < n → ∀ r, r < m → (M k r).natAbs ≤ 2 ^ c) ∧ (∀ z ∈ t, z.natAbs < 2 ^ s) ∧ (yW s c (pw.length + 1) ≤ F ∧ c * pw.length + 1 ≤ F ∧ 2 * F + c + 10 ≤ 129000000) ∧
  ∀ (a : Addr) (us' : List V) (l : List Rat) (H' : Hp), Same H H' → H a = none → H' a = some (.lst us') → FrA K H' us' l → Wts M pw (fun k => t.getD k 0) l → (∀ y ∈ l, bd F y ∧ sc (rP M pw pw.length) F y) → Q (.ref a) H'
section
variable {P : Program} {w : World} {K : Frag} {mg : Str → Option Value} {base : Heap} {C : Addr}
abbrev s_System_weights : Stmt := inClass (top 13) 5
theorem sc_System_weights : FnScope ["self", "target", "count", "result", "k", "rest", "j"] ["self", "target"] (defScope s_System_weights) := ⟨rfl, rfl, rfl, by decide +kernel, rfl, by decide +kernel, by decide +kernel⟩
theorem met_weights (dx : MetAt K C "weights" "System.weights" s_System_weights) (B : Bl mg) (S : SC K C) (hZ : ∃ zA, mg "ZERO" = some (.ref zA) ∧ ∀ H, SqT K H zA [.int 0, .int 1]) (G_minus : Cal P w K mg base 37 "minus" ["one", "two"] (spTwo K fMinus)) (G_times : Cal P w K mg base 37 "times" ["one", "two"] (spTwo K fTimes)) (G_over : Cal P w K mg base 37 "over" ["one", "two"] (spTwo K fOver)) :
    MetX P w K mg base 38 C "weights" ["self", "target"] (spWeights K C) := by
  refine met_mk dx sc_System_weights (fun _ _ _ _ _ _ us hl => match us, hl with | [_, _], _ => rfl) (fun vs H Q E h => ?_) (fun fn cdv AA outer s H vs Q E hr h => ?_)
  · obtain ⟨x, ta, us, A, n, m, M, T, pw, t, sz, c, F, rfl, _⟩ := h
    rfl
  · obtain ⟨x, ta, us, A, n, m, M, T, pw, t, sz, c, F, rfl, hS, ⟨hta, hus, htl⟩, hpw, ⟨hpn, hn⟩, hM, hts, ⟨hF1, hF2, hF3⟩, kq⟩ := h
    have tk : L2N.Takes (cxOf (L2N.CX P w) P w K mg base ["self", "target", "count", "result", "k", "rest", "j"] "System.weights" (defScope s_System_weights) fn cdv AA outer s H E) (fun cls d _ H => E cls d H) := L2N.takes_of rfl rfl rfl rfl
    have hcl := S.cls
    have hn3 := S.c
    have hn5 := S.p
    obtain ⟨zA, gZERO, hzA⟩ := hZ
    have hzA' : ∀ H, FrV K H (.ref zA) 0 := fun H => ⟨zA, rfl, hzA H⟩
    obtain ⟨dx, r0, rs, a, as, b, bs, p, hx, hr0, hMm, hT, hp⟩ := hS.ex
    refine ⟨_, (pss_cons (ps_set (i := 2) sc_System_weights.nd rfl (Or.inl rfl) (pe_callB call_len_seq (by rfl) B.len PySem.boot_len (pa_cons (pe_fld (pv 0) rfl) pa_nil)))
      (pss_cons (ps_set (i := 3) sc_System_weights.nd rfl (Or.inl rfl) (pe_op op_rep (pe_lst (pa_cons (pe_gref gZERO) pa_nil)) (pv 2)))
      (pss_cons (ps_for (passes_of rfl) rfl (pi_revR (by rfl) B.reversed (prg_1 (by rfl) B.range (pv 2))) (pg_name (i := 4) sc_System_weights.nd rfl (Or.inl rfl))
      (pss_cons (ps_set (i := 5) sc_System_weights.nd rfl (Or.inl rfl) (pe_ix ix_list (pv 1) (pv 4) (fun _ _ => rfl)))
      (pss_cons (ps_for (passes_of rfl) rfl (pi_range2 (by rfl) B.range (pa_cons (pe_op op_add (pv 4) pe_int) (pa_cons (pv 2) pa_nil))) (pg_name (i := 6) sc_System_weights.nd rfl (Or.inl rfl))
      (pss_one (ps_set (i := 5) sc_System_weights.nd rfl (Or.inl rfl) (pe_cal G_minus (hr.mono (by first | decide | omega)) tk (pa_cons (pv 5) (pa_cons (pe_cal G_times (hr.mono (by first | decide | omega)) tk (pa_cons (pe_ix ix_list (pv 3) (pv 6) (fun _ _ => rfl)) (pa_cons (pe_tup (pa_cons (pe_ix ix_list (pe_ix ix_list (pe_fld (pv 0) rfl) (pv 4) (fun _ _ => rfl)) (pe_ix ix_list (pe_fld (pv 0) rfl) (pv 6) (fun _ _ => rfl)) (fun _ _ => rfl)) (pa_cons pe_int pa_nil))) pa_nil))) pa_nil))))))
      (pss_one (ps_asg (pe_cal G_over (hr.mono (by first | decide | omega)) tk (pa_cons (pv 5) (pa_cons (pe_tup (pa_cons (pe_ix ix_list (pe_ix ix_list (pe_fld (pv 0) rfl) (pv 4) (fun _ _ => rfl)) (pe_ix ix_list (pe_fld (pv 0) rfl) (pv 4) (fun _ _ => rfl)) (fun _ _ => rfl)) (pa_cons pe_int pa_nil))) pa_nil))) (pg_sub (pv 3) (pv 4) set_list))))))
      (pss_one (ps_ret (pv 3)))))), ?_⟩
    walk_at "rq"
    refine ⟨p, _, rfl, .inl (SqL.of hp), ?_⟩
    walk_at "rq"
    rw [List.length_map]
    intro q0 hq0
    have aq : upd H q0 (.lst [.ref zA]) q0 = some (.lst [.ref zA]) := upd_same
    have s1 : Same H (upd H q0 (.lst [.ref zA])) := Same.new hq0
    generalize upd H q0 (.lst [.ref zA]) = H1 at *
    walk_at "rq"
    refine ⟨q0, (pw.length : Int), [.ref zA], rfl, rfl, aq, by omega, by omega, by rw [sizeLine_eq, show ((pw.length : Int)).toNat = pw.length by omega]; show 1 * pw.length ≤ _; omega, fun pr hpr => ?_⟩
    rw [show ((pw.length : Int)).toNat = pw.length by omega, rep_flat]
    have hprN : H pr = none := by
      cases e : H pr with
      | none => rfl
      | some u => rw [s1 _ _ e] at hpr; cases hpr
    have apr : upd H1 pr (.lst (List.replicate pw.length (.ref zA))) pr = some (.lst (List.replicate pw.length (.ref zA))) := upd_same
    have s2 : Same H (upd H1 pr (.lst (List.replicate pw.length (.ref zA)))) := Same.mut s1 hprN
    generalize upd H1 pr (.lst (List.replicate pw.length (.ref zA))) = H2 at *
    have hpg : ∀ k, k < pw.length → pw[k]? = some (pw.getD k 0) := fun k hk => by
      rw [List.getD_eq_getElem?_getD, List.getElem?_eq_getElem hk]; rfl
    have hpb : ∀ (i r : Nat), pw[i]? = some r → (M i r).natAbs ≤ 2 ^ c := fun i r h => hM i (by have := (List.getElem?_eq_some_iff.mp h).1; omega) r (hpw i r h).1
    have hdl : ∀ i, i ≤ pw.length → (rP M pw i).natAbs < 2 ^ F := fun i hi => Nat.lt_of_lt_of_le (rP_lt hpb i hi) (Nat.pow_le_pow_right (by decide) (by
      have : c * i ≤ c * pw.length := Nat.mul_le_mul_left _ hi
      omega))
    have hdn : ∀ i, i ≤ pw.length → rP M pw i ≠ 0 := rP_ne fun i r h => (hpw i r h).2.1
    have hyF : ∀ i, i ≤ pw.length + 1 → yW sz c i ≤ F := fun i hi => by
      have : i * (c + 1001) ≤ (pw.length + 1) * (c + 1001) := Nat.mul_le_mul_right _ hi
      unfold yW at hF1 ⊢
      omega
    have hc1 : ∀ {z : Int}, z.natAbs ≤ 2 ^ c → z.natAbs < 2 ^ (c + 1) := fun {z} h => by
      rw [Nat.pow_succ]
      have : 0 < 2 ^ c := Nat.pow_pos (by decide)
      omega
    walk_at "rq"
    refine r_forRev (n := pw.length) (by with_unfolding_all rfl) (by omega) ?_
    have old : ∀ {H' : Hp}, (∀ b u, b ≠ pr → H2 b = some u → H' b = some u) → Same H H' := fun h b u e => h b u (fun q => by rw [q, hprN] at e; cases e) (s2 _ _ e)
    refine for_rangeC (fun i σ' H' => ∃ (v4 v5 v6 : Option V) (us' : List V) (l : List Rat), σ' = [some (.ref x), some (.ref ta), some (.int (pw.length : Int)), some (.ref pr), v4, v5, v6] ∧ (∀ b u, b ≠ pr → H2 b = some u → H' b = some u) ∧ H' pr = some (.lst us') ∧ FrA K H' us' l ∧ l.length = pw.length ∧
        (∀ k, pw.length - i ≤ k → k < pw.length → sm pw.length (fun j => l.getD j 0 * (M k (pw.getD j 0) : Rat)) = ((t.getD k 0 : Int) : Rat)) ∧ ∀ j, pw.length - i ≤ j → j < pw.length → sc (rP M pw i) (yW sz c i) (l.getD j 0))
      ⟨_, _, _, _, List.replicate pw.length 0, rfl, fun b u _ h => h, apr, All2.rep (hzA' _) _, by rw [List.length_replicate], fun k h1 h2 => by omega, fun j h1 h2 => by omega⟩ ?_ ?_
    · rintro i σ' H3 hi ⟨v4, v5, v6, us', l, rfl, fr3, hp3, hl3, hll, heq, hsc⟩
      have ek : (pw.length : Int) - 1 + (i : Int) * -1 = ((pw.length - 1 - i : Nat) : Int) := by omega
      rw [ek]
      generalize hk : pw.length - 1 - i = k
      have hkl : k < pw.length := by omega
      have hki : k + 1 + i = pw.length := by omega
      obtain ⟨hrm, hrn, hrz⟩ := hpw k _ (hpg k hkl)
      have hul : us'.length = pw.length := by rw [All2.len hl3, hll]
      have hx3 := old fr3 _ _ hx
      have hta3 := old fr3 _ _ hta
      have hM3 := hMm.keep (old fr3)
      have hp3' := old fr3 _ _ hp
      obtain ⟨vt, hvt, tvt⟩ := (hus.keep (old fr3)).get (castL_get (zs := t) (i := k) (by omega))
      walk_at "rq"
      refine r_ixL (SqL.of hta3) hvt ?_
      walk_at "rq"
      refine ⟨by omega, ?_⟩
      rw [show ((pw.length : Int) - ((k : Int) + 1)).toNat = i by omega]
      have htk : (t.getD k 0).natAbs < 2 ^ sz := by
        refine hts _ ?_
        rw [List.getD_eq_getElem?_getD, List.getElem?_eq_getElem (show k < t.length by omega)]
        exact List.getElem_mem _
      have hsc0 : sc (rP M pw i) (yW sz c i + c + 0) ((t.getD k 0 : Int) : Rat) := by
        have e := rP_lt hpb i (by omega)
        have h1 := sc_lift (p := rP M pw i) (c := c * i + 1) (sc_int htk) (Nat.le_of_lt e)
        rw [Int.one_mul] at h1
        refine sc_mono h1 ?_
        have : c * i ≤ i * (c + 1001) := by rw [Nat.mul_comm c i]; exact Nat.mul_le_mul_left _ (by omega)
        unfold yW
        omega
      have hyi : yW sz c (i + 1) = yW sz c i + (c + 1001) := by
        unfold yW
        rw [Nat.succ_mul]
        omega
      have hyFi := hyF (i + 1) (by omega)
      refine for_range (lo := (k : Int) + 1) (n := i) (fun q σ' H' => ∃ (v6 : Option V) (vr : V) (y : Rat), σ' = [some (.ref x), some (.ref ta), some (.int (pw.length : Int)), some (.ref pr), some (.int (k : Int)), some vr, v6] ∧ Same H3 H' ∧ FrV K H' vr y ∧ y = ((t.getD k 0 : Int) : Rat) - sm q (fun j => l.getD (k + 1 + j) 0 * (M k (pw.getD (k + 1 + j) 0) : Rat)) ∧ sc (rP M pw i) (yW sz c i + c + q) y)
        ⟨_, _, _, rfl, fun b o h => h, tvt, by rw [sm_zero']; grind, hsc0⟩ ?_ ?_
      · rintro q σ' H4 hq ⟨v6, vr, y, rfl, s4, tr, hy, hyc⟩
        have hx4 := s4 _ _ hx3
        have hM4 := hM3.keep s4
        have hp4 := s4 _ _ hp3
        have hp4' := s4 _ _ hp3'
        obtain ⟨col, hcol, hcoll, hcolr, _⟩ := hM4.at_ (k := k) (by omega)
        obtain ⟨vy, hvy, tvy⟩ := (hl3.keep s4).get (getD_some (l := l) (j := k + 1 + q) (by omega))
        have hscq := hsc (k + 1 + q) (by omega) (by omega)
        have byi := sc_bd hscq (hdn i (by omega)) (hdl i (by omega)) (hyF i (by omega))
        have by0 : bd F y := sc_bd hyc (hdn i (by omega)) (hdl i (by omega)) (by omega)
        have hrjm : pw.getD (k + 1 + q) 0 < m := (hpw _ _ (hpg (k + 1 + q) (by omega))).1
        have hMb := hM k (by omega) _ hrjm
        walk_at "rq"
        rw [show (k : Int) + 1 + (q : Int) = ((k + 1 + q : Nat) : Int) by omega]
        refine r_ixL (SqL.of hp4) hvy ?_
        walk_at "rq"
        refine r_ixL (SqL.of hM4.l) hcolr ?_
        walk_at "rq"
        refine r_ixL (SqL.of hp4') (v := .int ((pw.getD (k + 1 + q) 0 : Nat) : Int)) (by rw [List.getElem?_map, hpg _ (by omega)]; rfl) ?_
        refine r_ixL (SqL.of hcoll) (rowV_get hrjm) ?_
        walk_at "rq"
        intro q1 hq1
        have t1 : Fr2 K (upd H4 q1 (.tup [.int (M k (pw.getD (k + 1 + q) 0)), .int 1])) (.ref q1) (M k (pw.getD (k + 1 + q) 0)) 1 := ⟨q1, rfl, SqT.of upd_same⟩
        have s5 : Same H4 (upd H4 q1 (.tup [.int (M k (pw.getD (k + 1 + q) 0)), .int 1])) := Same.new hq1
        generalize upd H4 q1 (.tup [.int (M k (pw.getD (k + 1 + q) 0)), .int 1]) = H5 at *
        walk_at "rq"
        refine r_times (tvy.keep s5) (FrV.ofInt t1) byi (bd_int (hc1 hMb) (by omega)) (by omega) fun v H6 s6 tv => ?_
        walk_at "rq"
        refine r_minus ((tr.keep s5).keep s6) tv by0 (bd_mulI byi (hc1 hMb)) (by omega) fun v3 H7 s7 tv3 => ?_
        walk_at "rq"
        refine ⟨_, _, y - l.getD (k + 1 + q) 0 * (M k (pw.getD (k + 1 + q) 0) : Rat), rfl, fun b o h => s7 _ _ (s6 _ _ (s5 _ _ (s4 _ _ h))), tv3, ?_, ?_⟩
        · rw [hy, sm_succ]
          exact sub_sub' _ _ _
        · exact sc_sub (e := yW sz c i + c + q) (e' := yW sz c i) (c := c) hyc hscq (by omega) hMb
      · rintro σ' H4 ⟨v6, vr, y, rfl, s4, tr, hy, hyc⟩
        have hx4 := s4 _ _ hx3
        have hM4 := hM3.keep s4
        have hp4 := s4 _ _ hp3
        have hp4' := s4 _ _ hp3'
        have fr4 : ∀ b u, b ≠ pr → H2 b = some u → H4 b = some u := fun b u h1 h2 => s4 _ _ (fr3 _ _ h1 h2)
        obtain ⟨col, hcol, hcoll, hcolr, _⟩ := hM4.at_ (k := k) (by omega)
        have by0 : bd F y := sc_bd hyc (hdn i (by omega)) (hdl i (by omega)) (by omega)
        have hMb := hM k (by omega) _ hrm
        walk_at "rq"
        refine r_ixL (SqL.of hM4.l) hcolr ?_
        walk_at "rq"
        refine r_ixL (SqL.of hp4') (v := .int ((pw.getD k 0 : Nat) : Int)) (by rw [List.getElem?_map, hpg _ hkl]; rfl) ?_
        refine r_ixL (SqL.of hcoll) (rowV_get hrm) ?_
        walk_at "rq"
        intro q1 hq1
        have t1 : Fr2 K (upd H4 q1 (.tup [.int (M k (pw.getD k 0)), .int 1])) (.ref q1) (M k (pw.getD k 0)) 1 := ⟨q1, rfl, SqT.of upd_same⟩
        have s5 : Same H4 (upd H4 q1 (.tup [.int (M k (pw.getD k 0)), .int 1])) := Same.new hq1
        generalize upd H4 q1 (.tup [.int (M k (pw.getD k 0)), .int 1]) = H5 at *
        walk_at "rq"
        refine r_over (tr.keep s5) t1 hrn by0 (hc1 hMb) (by omega) (by omega) fun v H6 s6 tv => ?_
        have s46 : Same H4 H6 := fun b o h => s6 _ _ (s5 _ _ h)
        have hp6 := s46 _ _ hp4
        have fr6 : ∀ b u, b ≠ pr → H2 b = some u → H6 b = some u := fun b u h1 h2 => s46 _ _ (fr4 _ _ h1 h2)
        have hl6 := (hl3.keep s4).keep s46
        walk_at "rq"
        refine r_gsub ?_
        walk_at "rq"
        refine r_setL hp6 (by omega) ?_
        walk_at "rq"
        have hmut : ∀ b u, b ≠ pr → H6 b = some u → upd H6 pr (.lst (us'.set k v)) b = some u := fun b u hb h => (upd_ne hb).trans h
        have hrp : rP M pw (i + 1) = rP M pw i * M k (pw.getD k 0) := by
          show rP M pw i * M (pw.length - 1 - i) (pw.getD (pw.length - 1 - i) 0) = _
          rw [hk]
        refine ⟨_, _, _, us'.set k v, l.set k (y / (M k (pw.getD k 0) : Rat)), rfl, fun b u h1 h2 => hmut b u h1 (fr6 b u h1 h2), upd_same, All2.set (hl6.fr hp6 hmut) (tv.fr hp6 hmut), by rw [List.length_set, hll], fun k' h1 h2 => ?_, fun j h1 h2 => ?_⟩
        · by_cases e : k' = k
          · subst e
            have e1 : pw.length = (k' + 1) + i := by omega
            rw [show (sm pw.length fun j => (l.set k' (y / (M k' (pw.getD k' 0) : Rat))).getD j 0 * (M k' (pw.getD j 0) : Rat)) = sm ((k' + 1) + i) fun j => (l.set k' (y / (M k' (pw.getD k' 0) : Rat))).getD j 0 * (M k' (pw.getD j 0) : Rat) by rw [← e1], sm_split, sm_succ]
            rw [sm_zeros (n := k') fun j hj => by
              have h3 := (hpw j _ (hpg j (by omega))).2.2 k' hj (by omega)
              rw [h3]
              exact Rat.mul_zero _]
            rw [getD_set _ _ _ _ (by omega), if_pos rfl, div_mul_q hrn]
            rw [show (sm i fun q => (l.set k' (y / (M k' (pw.getD k' 0) : Rat))).getD (k' + 1 + q) 0 * (M k' (pw.getD (k' + 1 + q) 0) : Rat)) = sm i fun j => l.getD (k' + 1 + j) 0 * (M k' (pw.getD (k' + 1 + j) 0) : Rat) from sm_congr fun j hj => by rw [getD_set _ _ _ _ (by omega), if_neg (by omega)], hy]
            exact fin_sub _ _
          · have h3 := (hpw k _ (hpg k (by omega))).2.2 k' (by omega) (by omega)
            rw [← heq k' (by omega) h2]
            refine sm_congr fun j hj => ?_
            rw [getD_set _ _ _ _ (by omega)]
            by_cases e2 : j = k
            · rw [e2, h3]
              show _ * 0 = _ * 0
              rw [Rat.mul_zero, Rat.mul_zero]
            · rw [if_neg e2]
        · rw [getD_set _ _ _ _ (by omega), hrp]
          by_cases e : j = k
          · rw [if_pos e]
            exact sc_mono (sc_div hyc hrn) (by omega)
          · rw [if_neg e]
            exact sc_mono (sc_lift (hsc j (by omega) h2) hMb) (by omega)
    · rintro σ' H3 ⟨v4, v5, v6, us', l, rfl, fr3, hp3, hl3, hll, heq, hsc⟩
      walk_at "rq"
      refine kq pr us' l H3 (old fr3) hprN hp3 hl3 ⟨hll, fun k hk => heq k (by omega) hk⟩ fun y hy => ?_
      obtain ⟨j, hj, rfl⟩ := List.mem_iff_getElem.mp hy
      have := hsc j (by omega) (by omega)
      rw [List.getD_eq_getElem?_getD, List.getElem?_eq_getElem hj] at this
      have this := sc_mono this (hyF pw.length (by omega))
      exact ⟨sc_bd this (hdn _ (Nat.le_refl _)) (hdl _ (Nat.le_refl _)) (Nat.le_refl _), this⟩
end
end Al
namespace Al
open PySem PySem.Spec PyProof.Rows L2 NdefX PySem.W
local macro_rules | `(tactic| walk_at "rd1") => `(tactic| with_reducible first
  | (show tVar _ _ _ _; refine r_var (by with_unfolding_all rfl) ?_) | refine r_c ?_ | refine r_op ?_ | refine r_I0 ?_ | refine r_un ?_ | refine r_U ?_
  | (show rI _ _ _ _ _ _; refine r_I (by with_unfolding_all first | exact ⟨by decide, by decide⟩ | (show (0 : Int) < _; decide)) ?_)
  | refine r_eqI ?_ | refine r_neI ?_ | refine r_eqS ?_ | refine r_neS ?_ | refine r_eqB ?_ | refine r_neB ?_ | refine r_chain ?_
  | refine r_test ?_ | refine r_B ?_ | refine r_bl ?_ | refine r_int ?_ | refine r_and ?_ | refine r_or ?_ | refine r_not ?_ | refine r_andV ?_ | refine r_orV ?_ | refine r_notV ?_
  | refine r_if ?_ | refine r_nil ?_ | refine r_cons ?_ | refine r_cb ?_ | refine r_call ?_ | refine r_callS ?_ | refine r_tup ?_ | refine r_lst ?_ | refine r_seq ?_ | refine r_next ?_ | refine r_asg ?_
  | refine r_name ?_ | refine r_ifS ?_ | refine r_ret ?_ | refine r_retN ?_ | refine r_drop ?_ | refine r_brk ?_ | refine r_ct ?_ | refine r_sl ?_ | refine r_part ?_ | refine r_nopart ?_
  | refine r_bm ?_ | refine r_bm0 ?_ | refine r_raiseX ?_ | refine r_mkO ?_ | refine iteF ?_ | refine iteT ?_ | refine r_int1 ?_ | refine r_int1b ?_ | (show _ ≤ sizeLine ∧ _; refine r_sz (by with_unfolding_all first | omega | (simp only [List.length_cons, List.length_nil]; omega)) ?_)
  | (show ∃ _, _; refine ⟨_, rfl, ?_⟩) | (show ∃ _, _; refine ⟨_, _, rfl, rfl, ?_⟩) | (show ∃ _, _; refine ⟨_, _, rfl, ?_⟩))
local macro_rules | `(tactic| walk_at "rd") => `(tactic| repeat (walk_at "rd1"))
local macro_rules | `(tactic| walk_at "rd2") => `(tactic| with_reducible first
  | (show tFld _ _ _ _ _ _; refine r_fldI (by with_unfolding_all rfl) (by with_unfolding_all assumption) (by with_unfolding_all assumption) (by with_unfolding_all assumption) (by with_unfolding_all rfl) ?_)
  | (show tMetS _ _ _ _ _ _ _ _ _; refine r_rm (by with_unfolding_all assumption) (by with_unfolding_all rfl) (by decide) ?_)
  | refine r_sfl ?_ | refine iteNF ?_ | refine iteNT ?_ | refine r_makS ?_)
local macro_rules | `(tactic| walk_at "rp") => `(tactic| repeat first | walk_at "rd1" | walk_at "rd2")
local macro_rules | `(tactic| walk_at "rq1") => `(tactic| with_reducible first | refine r_rng1 ?_ | refine r_rng2 ?_ | refine r_forL ?_ | refine r_forT ?_ | refine r_dget ?_ | refine r_pnil ?_ | refine r_pcons ?_ | refine r_lcL ?_ | refine r_lcT ?_ | refine r_lcR ?_ | refine r_yes ?_ | refine r_disp ?_)
local macro_rules | `(tactic| walk_at "rq") => `(tactic| repeat first | walk_at "rd1" | walk_at "rd2" | walk_at "rq1")

/-- the weights of the pivots at the pivots' rows -/
def sprd (m : Nat) (pw : List Nat) (l : List Rat) : Nat → List Rat
  | 0 => List.replicate m 0
  | k + 1 => (sprd m pw l k).set (pw.getD k 0) (l.getD k 0)
theorem sprd_len (m : Nat) (pw : List Nat) (l : List Rat) : ∀ k, (sprd m pw l k).length = m
  | 0 => List.length_replicate
  | k + 1 => by show ((sprd m pw l k).set _ _).length = m; rw [List.length_set, sprd_len m pw l k]
theorem sprd_mem {m : Nat} {pw : List Nat} {l : List Rat} {y : Rat} : ∀ {k}, k ≤ l.length → y ∈ sprd m pw l k → y = 0 ∨ y ∈ l
  | 0, _, h => .inl (List.eq_of_mem_replicate h)
  | k + 1, hk, h => by
    rcases List.mem_or_eq_of_mem_set h with q | q
    · exact sprd_mem (by omega) q
    · refine .inr ?_
      rw [q, List.getD_eq_getElem?_getD, List.getElem?_eq_getElem (show k < l.length by omega)]
      exact List.getElem_mem _
theorem sprd_zero {m : Nat} {pw : List Nat} {l : List Rat} {r : Nat} : ∀ k, (∀ j, j < k → pw.getD j 0 < m) → (∀ j, j < k → pw.getD j 0 ≠ r) → (sprd m pw l k).getD r 0 = 0
  | 0, _, _ => by
    show (List.replicate m (0 : Rat)).getD r 0 = 0
    rw [List.getD_eq_getElem?_getD, List.getElem?_replicate]
    split <;> rfl
  | k + 1, hm, h => by
    show ((sprd m pw l k).set _ _).getD r 0 = 0
    rw [getD_set _ _ _ _ (by rw [sprd_len]; exact hm k (by omega)), if_neg (Ne.symm (h k (by omega)))]
    exact sprd_zero k (fun j hj => hm j (by omega)) fun j hj => h j (by omega)
theorem sprd_sum {m : Nat} {pw : List Nat} {l : List Rat} (f : Nat → Rat) : ∀ k, (∀ j, j < k → pw.getD j 0 < m) → (∀ i j, i < j → j < k → pw.getD i 0 ≠ pw.getD j 0) → sm m (fun r => (sprd m pw l k).getD r 0 * f r) = sm k fun j => l.getD j 0 * f (pw.getD j 0)
  | 0, _, _ => by
    rw [sm_zero']
    refine sm_zeros fun r hr => ?_
    rw [sprd_zero 0 (fun j hj => by omega) (fun j hj => by omega), Rat.zero_mul]
  | k + 1, hm, h => by
    have ih := sprd_sum (l := l) f k (fun j hj => hm j (by omega)) fun i j hi hj => h i j hi (by omega)
    have e0 : (sprd m pw l k).getD (pw.getD k 0) 0 = 0 := sprd_zero k (fun j hj => hm j (by omega)) fun j hj => h j k hj (by omega)
    have hk := hm k (by omega)
    rw [sm_upd hk (fun r => (sprd m pw l k).getD r 0 * f r) (fun r => (sprd m pw l (k + 1)).getD r 0 * f r) fun i hi hne => by
      show ((sprd m pw l k).set _ _).getD i 0 * f i = _
      rw [getD_set _ _ _ _ (by rw [sprd_len]; exact hk), if_neg hne]]
    show sm m (fun r => (sprd m pw l k).getD r 0 * f r) - (sprd m pw l k).getD (pw.getD k 0) 0 * f (pw.getD k 0) + ((sprd m pw l k).set (pw.getD k 0) (l.getD k 0)).getD (pw.getD k 0) 0 * f (pw.getD k 0) = _
    rw [e0, getD_set _ _ _ _ (by rw [sprd_len]; exact hk), if_pos rfl, ih, sm_succ, Rat.zero_mul]
    generalize sm k (fun j => l.getD j 0 * f (pw.getD j 0)) = a
    generalize l.getD k 0 * f (pw.getD k 0) = b
    grind
def spSpread (K : Frag) (C : Addr) : Sp := fun vs H Q _ => ∃ (x wa : Addr) (us : List V) (A : Nat → Nat → Int) (n m : Nat) (M T : Nat → Nat → Int) (pw : List Nat) (l : List Rat), vs = [.ref x, .ref wa] ∧ Sy C H x A n m M T pw ∧ (H wa = some (.lst us) ∧ FrA K H us l ∧ l.length = pw.length) ∧
  (∀ k, k < pw.length → pw.getD k 0 < m) ∧ (m ≤ 1000 ∧ pw.length ≤ 1000) ∧ ∀ (a : Addr) (us' : List V) (H' : Hp), Same H H' → H a = none → H' a = some (.lst us') → FrA K H' us' (sprd m pw l pw.length) → Q (.ref a) H'
section
variable {P : Program} {w : World} {K : Frag} {mg : Str → Option Value} {base : Heap} {C : Addr}
abbrev s_System_spread : Stmt := inClass (top 13) 6
theorem sc_System_spread : FnScope ["self", "weights", "result", "k"] ["self", "weights"] (defScope s_System_spread) := ⟨rfl, rfl, rfl, by decide +kernel, rfl, by decide +kernel, by decide +kernel⟩
theorem met_spread (dx : MetAt K C "spread" "System.spread" s_System_spread) (B : Bl mg) (S : SC K C) (hZ : ∃ zA, mg "ZERO" = some (.ref zA) ∧ ∀ H, SqT K H zA [.int 0, .int 1]) :
    MetX P w K mg base 38 C "spread" ["self", "weights"] (spSpread K C) := by
  refine met_mk dx sc_System_spread (fun _ _ _ _ _ _ us hl => match us, hl with | [_, _], _ => rfl) (fun vs H Q E h => ?_) (fun fn cdv AA outer s H vs Q E hr h => ?_)
  · obtain ⟨x, wa, us, A, n, m, M, T, pw, l, rfl, _⟩ := h
    rfl
  · obtain ⟨x, wa, us, A, n, m, M, T, pw, l, rfl, hS, ⟨hwa, hus, hll⟩, hpm, ⟨hm, hpl⟩, kq⟩ := h
    have hcl := S.cls
    have hn3 := S.r
    have hn5 := S.p
    obtain ⟨zA, gZERO, hzA⟩ := hZ
    have hzA' : ∀ H, FrV K H (.ref zA) 0 := fun H => ⟨zA, rfl, hzA H⟩
    obtain ⟨dx, r0, rs, a, as, b, bs, p, hx, hr0, hMm, hT, hp⟩ := hS.ex
    refine ⟨_, (pss_cons (ps_set (i := 2) sc_System_spread.nd rfl (Or.inl rfl) (pe_op op_rep (pe_lst (pa_cons (pe_gref gZERO) pa_nil)) (pe_callB call_len_seq (by rfl) B.len PySem.boot_len (pa_cons (pe_fld (pv 0) rfl) pa_nil))))
      (pss_cons (ps_for (passes_of rfl) rfl (pi_range1 (by rfl) B.range (pa_cons (pe_callB call_len_seq (by rfl) B.len PySem.boot_len (pa_cons (pe_fld (pv 0) rfl) pa_nil)) pa_nil)) (pg_name (i := 3) sc_System_spread.nd rfl (Or.inl rfl))
      (pss_one (ps_asg (pe_ix ix_list (pv 1) (pv 3) (fun _ _ => rfl)) (pg_sub (pv 2) (pe_ix ix_list (pe_fld (pv 0) rfl) (pv 3) (fun _ _ => rfl)) set_list))))
      (pss_one (ps_ret (pv 2))))), ?_⟩
    walk_at "rq"
    intro q0 hq0
    have aq : upd H q0 (.lst [.ref zA]) q0 = some (.lst [.ref zA]) := upd_same
    have s1 : Same H (upd H q0 (.lst [.ref zA])) := Same.new hq0
    generalize upd H q0 (.lst [.ref zA]) = H1 at *
    have hx1 := s1 _ _ hx
    walk_at "rq"
    refine ⟨r0, _, rfl, .inl (SqL.of ((hr0.keep s1).l)), ?_⟩
    walk_at "rq"
    rw [List.length_map, hr0.len]
    refine ⟨q0, (m : Int), [.ref zA], rfl, rfl, aq, by omega, by omega, by rw [sizeLine_eq, show ((m : Int)).toNat = m by omega]; show 1 * m ≤ _; omega, fun pr hpr => ?_⟩
    rw [show ((m : Int)).toNat = m by omega, rep_flat]
    have hprN : H pr = none := by
      cases e : H pr with
      | none => rfl
      | some u => rw [s1 _ _ e] at hpr; cases hpr
    have apr : upd H1 pr (.lst (List.replicate m (.ref zA))) pr = some (.lst (List.replicate m (.ref zA))) := upd_same
    have s2 : Same H (upd H1 pr (.lst (List.replicate m (.ref zA)))) := Same.mut s1 hprN
    generalize upd H1 pr (.lst (List.replicate m (.ref zA))) = H2 at *
    have hpg : ∀ k, k < pw.length → pw[k]? = some (pw.getD k 0) := fun k hk => by
      rw [List.getD_eq_getElem?_getD, List.getElem?_eq_getElem hk]; rfl
    have hx2 := s2 _ _ hx
    have hp2 := s2 _ _ hp
    have old : ∀ {H' : Hp}, (∀ b u, b ≠ pr → H2 b = some u → H' b = some u) → Same H H' := fun h b u e => h b u (fun q => by rw [q, hprN] at e; cases e) (s2 _ _ e)
    walk_at "rq"
    refine ⟨p, _, rfl, .inl (SqL.of hp2), ?_⟩
    walk_at "rq"
    rw [List.length_map]
    refine ⟨by omega, by omega, ?_⟩
    rw [show ((pw.length : Int)).toNat = pw.length by omega]
    refine for_range (lo := 0) (n := pw.length) (fun k σ' H' => ∃ (v3 : Option V) (us' : List V), σ' = [some (.ref x), some (.ref wa), some (.ref pr), v3] ∧ (∀ b u, b ≠ pr → H2 b = some u → H' b = some u) ∧ H' pr = some (.lst us') ∧ FrA K H' us' (sprd m pw l k))
      ⟨_, _, rfl, fun b u _ h => h, apr, All2.rep (hzA' _) _⟩ ?_ ?_
    · rintro k σ' H3 hk ⟨v3, us', rfl, fr3, hp3, hl3⟩
      have hul : us'.length = m := by rw [All2.len hl3, sprd_len]
      have hx3 := old fr3 _ _ hx
      have hwa3 := old fr3 _ _ hwa
      have hp3' := old fr3 _ _ hp
      obtain ⟨vt, hvt, tvt⟩ := (hus.keep (old fr3)).get (getD_some (l := l) (j := k) (by omega))
      walk_at "rq"
      rw [show (0 : Int) + (k : Int) = ((k : Nat) : Int) by omega]
      refine r_ixL (SqL.of hwa3) hvt ?_
      walk_at "rq"
      refine r_gsub ?_
      walk_at "rq"
      refine r_ixL (SqL.of hp3') (v := .int ((pw.getD k 0 : Nat) : Int)) (by rw [List.getElem?_map, hpg _ hk]; rfl) ?_
      have hkm := hpm k hk
      refine r_setL hp3 (by omega) ?_
      have hmut : ∀ b u, b ≠ pr → H3 b = some u → upd H3 pr (.lst (us'.set (pw.getD k 0) vt)) b = some u := fun b u hb h => (upd_ne hb).trans h
      walk_at "rq"
      exact ⟨_, us'.set (pw.getD k 0) vt, rfl, fun b u h1 h2 => hmut b u h1 (fr3 b u h1 h2), upd_same, All2.set (hl3.fr hp3 hmut) (tvt.fr hp3 hmut)⟩
    · rintro σ' H3 ⟨v3, us', rfl, fr3, hp3, hl3⟩
      walk_at "rq"
      exact kq pr us' H3 (old fr3) hprN hp3 hl3
end
end Al
namespace Al
open PySem PySem.Spec PyProof.Rows L2 NdefX PySem.W
/-! ### k03: what shows that there is no solution -/
def Wh (q : Rat) : Prop := ∃ z : Int, q = (z : Rat)
theorem Wh.den {q : Rat} (h : Wh q) : (q.den : Int) = 1 := by
  obtain ⟨z, rfl⟩ := h
  exact whole_den rfl
theorem Wh.of {q : Rat} (h : (q.den : Int) = 1) : Wh q := ⟨q.num, (den_one h).symm⟩
theorem Wh.add {x y : Rat} (h : Wh x) (k : Wh y) : Wh (x + y) := by
  obtain ⟨a, rfl⟩ := h
  obtain ⟨b, rfl⟩ := k
  exact ⟨a + b, (Rat.intCast_add a b).symm⟩
theorem Wh.muli {x : Rat} (h : Wh x) (b : Int) : Wh ((b : Rat) * x) := by
  obtain ⟨a, rfl⟩ := h
  exact ⟨b * a, (icast_mul b a).symm⟩
theorem Wh.sm {n : Nat} {f : Nat → Rat} (h : ∀ i, i < n → Wh (f i)) : Wh (sm n f) := by
  induction n with
  | zero => exact ⟨0, rfl⟩
  | succ n ih => rw [sm_succ]; exact (ih fun i hi => h i (by omega)).add (h n (by omega))
/-- weights of the rows make the rows whole and the right sides not -/
def Shows (A : Nat → Nat → Int) (n m : Nat) (R : Nat → Int) (w : Nat → Rat) : Prop := (∀ c, c < n → ((sm m fun r => w r * (A r c : Rat)).den : Int) = 1) ∧ ¬ ((sm m fun r => w r * (R r : Rat)).den : Int) = 1
section
variable {A M T : Nat → Nat → Int} {n m b : Nat} {pw : List Nat} {R : Nat → Int}
theorem Shows.none {w : Nat → Rat} (h : Shows A n m R w) (X : Nat → Int) : ¬ Sol A n m R X := fun hX => by
  refine h.2 (Wh.den ?_)
  have e : (sm m fun r => w r * (R r : Rat)) = sm n fun c => (X c : Rat) * sm m fun r => w r * (A r c : Rat) := by
    rw [sm_congr (g := fun r => sm n fun c => (X c : Rat) * (w r * (A r c : Rat))) fun r hr => ?_, sm_swap]
    · exact sm_congr fun c _ => sm_mul _ _ _
    · rw [← hX r hr, sm_cast, ← sm_mul]
      refine sm_congr fun c _ => ?_
      rw [icast_mul]
      generalize (X c : Rat) = x
      generalize (A r c : Rat) = y
      grind
  rw [e]
  exact Wh.sm fun c hc => (Wh.of (h.1 c hc)).muli _
/-- what weights make of the columns, by what they make of the steps' columns -/
theorem cols_of (h : Tn A n m M T) {c : Nat} (hc : c < n) : ∃ y : Nat → Int, ∀ w : Nat → Rat, (sm m fun r => w r * (A r c : Rat)) = sm n fun k => (y k : Rat) * sm m fun r => w r * (M k r : Rat) := by
  obtain ⟨y, hy⟩ := h.sur fun j => if j = c then 1 else 0
  refine ⟨y, fun w => ?_⟩
  have e1 : ∀ r, r < m → A r c = sm n fun k => y k * M k r := fun r hr => by
    rw [← apply_comb h (Nat.le_refl _) y r hr]
    have e2 : (sm n fun j => A r j * back T n y j) = sm n fun j => A r j * if j = c then 1 else 0 := sm_congr fun j hj => by rw [show back T n y j = if j = c then 1 else 0 from (hy j hj).symm]
    rw [e2, sm_one hc fun i hi hne => by rw [if_neg hne, Int.mul_zero], if_pos rfl, Int.mul_one]
  rw [sm_congr (g := fun r => sm n fun k => (y k : Rat) * (w r * (M k r : Rat))) fun r hr => ?_, sm_swap]
  · exact sm_congr fun k _ => sm_mul _ _ _
  · rw [e1 r hr, sm_castM, ← sm_mul]
    refine sm_congr fun k _ => ?_
    generalize (y k : Rat) = x
    generalize (M k r : Rat) = z
    grind
section
variable {w : Nat → Rat} {l : List Rat} {t : Nat → Int}
/-- the spread weights make the steps' columns what was aimed at -/
theorem spr_cols (h : Stp A n m b m M T pw) (hl : Wts M pw t l) (hw : ∀ f : Nat → Rat, sm m (fun r => w r * f r) = sm pw.length fun j => l.getD j 0 * f (pw.getD j 0)) {k : Nat} (hk : k < n) : sm m (fun r => w r * (M k r : Rat)) = ((if k < pw.length then t k else 0 : Int) : Rat) := by
  rw [hw fun r => (M k r : Rat)]
  by_cases q : k < pw.length
  · rw [if_pos q]
    exact hl.2 k q
  · rw [if_neg q]
    refine sm_zeros fun j hj => ?_
    have e : pw[j]? = some (pw.getD j 0) := by
      rw [List.getD_eq_getElem?_getD, List.getElem?_eq_getElem hj]; rfl
    have h3 := (h.piv j _ e).2.2 k (by omega) hk
    rw [h3]
    exact Rat.mul_zero _
theorem spr_right (h : Stp A n m b m M T pw) (hl : Wts M pw t l) (hw : ∀ f : Nat → Rat, sm m (fun r => w r * f r) = sm pw.length fun j => l.getD j 0 * f (pw.getD j 0)) {y : Nat → Rat} (hy : ∀ (i r : Nat), pw[i]? = some r → sm (i + 1) (fun j => y j * (M j r : Rat)) = (R r : Rat)) :
    sm m (fun r => w r * (R r : Rat)) = sm pw.length fun q => y q * (t q : Rat) := by
  rw [hw fun r => (R r : Rat)]
  rw [sm_congr (g := fun j => sm pw.length fun q => y q * (l.getD j 0 * (M q (pw.getD j 0) : Rat))) fun j hj => ?_, sm_swap]
  · refine sm_congr fun q hq => ?_
    rw [sm_mul, hl.2 q hq]
  · have e : pw[j]? = some (pw.getD j 0) := by
      rw [List.getD_eq_getElem?_getD, List.getElem?_eq_getElem hj]; rfl
    obtain ⟨h1, h2, h3⟩ := h.piv j _ e
    have hlen := h.len
    rw [← hy j _ e, ← sm_cut (n := pw.length) (m := j + 1) (by omega) fun k k1 k2 => by rw [h3 k (by omega) (by omega)]; exact Rat.mul_zero _, ← sm_mul]
    refine sm_congr fun q _ => ?_
    generalize (M q (pw.getD j 0) : Rat) = z
    generalize l.getD j 0 = x
    grind
end
/-- a step that is not whole -/
theorem shows_one (h : Stp A n m b m M T pw) {l : List Rat} {k : Nat} (hk : k < pw.length) (hl : Wts M pw (fun q => if q = k then 1 else 0) l) {w : Nat → Rat} (hw : ∀ f : Nat → Rat, sm m (fun r => w r * f r) = sm pw.length fun j => l.getD j 0 * f (pw.getD j 0)) {y : Nat → Rat}
    (hy : ∀ (i r : Nat), pw[i]? = some r → sm (i + 1) (fun j => y j * (M j r : Rat)) = (R r : Rat)) (hd : ¬ ((y k).den : Int) = 1) : Shows A n m R w := by
  refine ⟨fun c hc => Wh.den ?_, ?_⟩
  · obtain ⟨z, hz⟩ := cols_of h.tn hc
    rw [hz w]
    exact Wh.sm fun q hq => Wh.muli ⟨_, spr_cols h hl hw hq⟩ _
  · rw [spr_right h hl hw hy, sm_one hk fun i hi hne => by
      rw [if_neg hne]
      exact Rat.mul_zero _]
    rw [if_pos rfl]
    have : y k * ((1 : Int) : Rat) = y k := Rat.mul_one _
    rw [this]
    exact hd
/-- the steps are whole, but a row is not met: the weights ahead of the halving -/
theorem shows_gap (h : Stp A n m b m M T pw) {l : List Rat} {row : Nat} (hrow : row < m) (hl : Wts M pw (fun q => M q row) l) {w v : Nat → Rat} (hw : ∀ f : Nat → Rat, sm m (fun r => w r * f r) = sm pw.length fun j => l.getD j 0 * f (pw.getD j 0))
    (hv : ∀ r, r < m → v r = if r = row then 0 - w r + 1 else 0 - w r) {z : Nat → Int} (hy : ∀ (i r : Nat), pw[i]? = some r → sm (i + 1) (fun j => (z j : Rat) * (M j r : Rat)) = (R r : Rat)) :
    (∀ c, c < n → (sm m fun r => v r * (A r c : Rat)) = 0) ∧ (sm m fun r => v r * (R r : Rat)) = ((R row - sm pw.length (fun q => z q * M q row) : Int) : Rat) := by
  have hvf : ∀ f : Nat → Rat, sm m (fun r => v r * f r) = f row - sm m fun r => w r * f r := fun f => by
    rw [sm_congr (g := fun r => (if r = row then f r else 0) - w r * f r) fun r hr => by
      rw [hv r hr]
      generalize w r = a
      generalize f r = b
      split <;> grind]
    rw [sm_sub, sm_one hrow (f := fun r => if r = row then f r else 0) fun i hi hne => if_neg hne, if_pos rfl]
  refine ⟨fun c hc => ?_, ?_⟩
  · obtain ⟨y, hy⟩ := cols_of h.tn hc
    rw [hy v]
    refine sm_zeros fun k hk => ?_
    rw [hvf fun r => (M k r : Rat), spr_cols h hl hw hk]
    have e : (if k < pw.length then M k row else 0) = M k row := by
      by_cases q : k < pw.length
      · rw [if_pos q]
      · rw [if_neg q, h.zero row hrow k (by omega) hk]
    rw [e, Rat.sub_self]
    exact Rat.mul_zero _
  · rw [hvf fun r => (R r : Rat), spr_right h hl hw hy, Rat.intCast_sub, sm_castM]
theorem half_den : ¬ (((Rat.divInt 1 2).den : Nat) : Int) = 1 := by decide
theorem half_mul {g : Int} (hg : g ≠ 0) : Rat.divInt 1 2 / (g : Rat) * (g : Rat) = Rat.divInt 1 2 := by
  rw [Rat.div_def, Rat.mul_assoc, Rat.inv_mul_cancel _ (cast_ne hg), Rat.mul_one]
theorem shows_half {v : Nat → Rat} {g : Int} (h1 : ∀ c, c < n → (sm m fun r => v r * (A r c : Rat)) = 0) (h2 : (sm m fun r => v r * (R r : Rat)) = (g : Rat)) (hg : g ≠ 0) : Shows A n m R fun r => Rat.divInt 1 2 / (g : Rat) * v r := by
  have hm : ∀ f : Nat → Rat, (sm m fun r => Rat.divInt 1 2 / (g : Rat) * v r * f r) = Rat.divInt 1 2 / (g : Rat) * sm m fun r => v r * f r := fun f => by
    rw [← sm_mul]
    exact sm_congr fun r _ => Rat.mul_assoc _ _ _
  refine ⟨fun c hc => Wh.den ?_, ?_⟩
  · rw [hm fun r => (A r c : Rat), h1 c hc, Rat.mul_zero]
    exact ⟨0, rfl⟩
  · rw [hm fun r => (R r : Rat), h2, half_mul hg]
    exact half_den
end
/-! sizes -/
theorem bd_mul {p q : Nat} {x y : Rat} (h : bd p x) (k : bd q y) : bd (p + q) (x * y) := by
  rw [← q_times' x y]
  refine bd_of (Int.mul_ne_zero (den_ne x) (den_ne y)) (mul_lt2 h.1 (Nat.le_of_lt k.1)) ?_
  exact mul_lt2 (by rw [Int.natAbs_natCast]; exact h.2) (by rw [Int.natAbs_natCast]; exact Nat.le_of_lt k.2)
theorem bd_divI {p q : Nat} {x : Rat} {a : Int} (h : bd p x) (ha : a ≠ 0) (k : a.natAbs < 2 ^ q) : bd (p + q) (x / (a : Rat)) := by
  rw [← q_over x a]
  refine bd_of (Int.mul_ne_zero (den_ne x) ha) ?_ ?_
  · rw [Int.mul_one]
    exact Nat.lt_of_lt_of_le h.1 (Nat.pow_le_pow_right (by decide) (by omega))
  · exact mul_lt2 (by rw [Int.natAbs_natCast]; exact h.2) (Nat.le_of_lt k)
theorem bd_half : bd 2 (Rat.divInt 1 2) := by unfold bd; decide
theorem sc_neg {D : Int} {e : Nat} {y : Rat} (h : sc D e y) : sc D e (0 - y) := by
  obtain ⟨N, h1, h2⟩ := h
  refine ⟨-N, ?_, by rw [Int.natAbs_neg]; exact h2⟩
  rw [Rat.intCast_neg, ← h1]
  grind
theorem sc_add {D : Int} {e f : Nat} {x y : Rat} (h : sc D e x) (k : sc D f y) (hf : f ≤ e) : sc D (e + 1) (x + y) := by
  obtain ⟨N, h1, h2⟩ := h
  obtain ⟨N', h3, h4⟩ := k
  refine ⟨N + N', ?_, ?_⟩
  · rw [Rat.intCast_add, ← h1, ← h3]
    grind
  · have := Nat.pow_le_pow_right (n := 2) (by decide) hf
    rw [Nat.pow_succ]
    omega
theorem sc_one {D : Int} {e : Nat} (h : D.natAbs < 2 ^ e) : sc D e 1 := ⟨D, Rat.one_mul _, h⟩
theorem sc_mulI {D a : Int} {e s : Nat} {y : Rat} (h : sc D e y) (ha : a.natAbs < 2 ^ s) : sc D (e + s) (y * (a : Rat)) := by
  obtain ⟨N, h1, h2⟩ := h
  refine ⟨N * a, ?_, mul_lt2 h2 (Nat.le_of_lt ha)⟩
  rw [icast_mul, ← h1]
  grind
theorem sc_zero {D : Int} {e : Nat} : sc D e 0 := ⟨0, Rat.zero_mul _, Nat.pow_pos (by decide)⟩
end Al
namespace Al
open PySem PySem.Spec PyProof.Rows L2 NdefX PySem.W
local macro_rules | `(tactic| walk_at "rd1") => `(tactic| with_reducible first
  | (show tVar _ _ _ _; refine r_var (by with_unfolding_all rfl) ?_) | refine r_c ?_ | refine r_op ?_ | refine r_I0 ?_ | refine r_un ?_ | refine r_U ?_
  | (show rI _ _ _ _ _ _; refine r_I (by with_unfolding_all first | exact ⟨by decide, by decide⟩ | (show (0 : Int) < _; decide)) ?_)
  | refine r_eqI ?_ | refine r_neI ?_ | refine r_eqS ?_ | refine r_neS ?_ | refine r_eqB ?_ | refine r_neB ?_ | refine r_chain ?_
  | refine r_test ?_ | refine r_B ?_ | refine r_bl ?_ | refine r_int ?_ | refine r_and ?_ | refine r_or ?_ | refine r_not ?_ | refine r_andV ?_ | refine r_orV ?_ | refine r_notV ?_
  | refine r_if ?_ | refine r_nil ?_ | refine r_cons ?_ | refine r_cb ?_ | refine r_call ?_ | refine r_callS ?_ | refine r_tup ?_ | refine r_lst ?_ | refine r_seq ?_ | refine r_next ?_ | refine r_asg ?_
  | refine r_name ?_ | refine r_ifS ?_ | refine r_ret ?_ | refine r_retN ?_ | refine r_drop ?_ | refine r_brk ?_ | refine r_ct ?_ | refine r_sl ?_ | refine r_part ?_ | refine r_nopart ?_
  | refine r_bm ?_ | refine r_bm0 ?_ | refine r_raiseX ?_ | refine r_mkO ?_ | refine iteF ?_ | refine iteT ?_ | refine r_int1 ?_ | refine r_int1b ?_ | (show _ ≤ sizeLine ∧ _; refine r_sz (by with_unfolding_all first | omega | (simp only [List.length_cons, List.length_nil]; omega)) ?_)
  | (show ∃ _, _; refine ⟨_, rfl, ?_⟩) | (show ∃ _, _; refine ⟨_, _, rfl, rfl, ?_⟩) | (show ∃ _, _; refine ⟨_, _, rfl, ?_⟩))
local macro_rules | `(tactic| walk_at "rd") => `(tactic| repeat (walk_at "rd1"))
local macro_rules | `(tactic| walk_at "rd2") => `(tactic| with_reducible first
  | (show tFld _ _ _ _ _ _; refine r_fldI (by with_unfolding_all rfl) (by with_unfolding_all assumption) (by with_unfolding_all assumption) (by with_unfolding_all assumption) (by with_unfolding_all rfl) ?_)
  | (show tMetS _ _ _ _ _ _ _ _ _; refine r_rm (by with_unfolding_all assumption) (by with_unfolding_all rfl) (by decide) ?_)
  | refine r_sfl ?_ | refine iteNF ?_ | refine iteNT ?_ | refine r_makS ?_)
local macro_rules | `(tactic| walk_at "rp") => `(tactic| repeat first | walk_at "rd1" | walk_at "rd2")
local macro_rules | `(tactic| walk_at "rq1") => `(tactic| with_reducible first | refine r_rng1 ?_ | refine r_rng2 ?_ | refine r_forL ?_ | refine r_forT ?_ | refine r_dget ?_ | refine r_pnil ?_ | refine r_pcons ?_ | refine r_lcL ?_ | refine r_lcT ?_ | refine r_lcR ?_ | refine r_yes ?_ | refine r_disp ?_)
local macro_rules | `(tactic| walk_at "rq") => `(tactic| repeat first | walk_at "rd1" | walk_at "rd2" | walk_at "rq1")

theorem Wts.congr {M : Nat → Nat → Int} {pw : List Nat} {t t' : Nat → Int} {l : List Rat} (h : Wts M pw t l) (e : ∀ k, k < pw.length → t k = t' k) : Wts M pw t' l := ⟨h.1, fun k hk => by rw [← e k hk]; exact h.2 k hk⟩
theorem unitT_get {ρ k q : Nat} (hk : k < ρ) : ((List.replicate ρ (0 : Int)).set k 1).getD q 0 = if q = k then 1 else 0 := by
  rw [List.getD_eq_getElem?_getD, List.getElem?_set, List.length_replicate]
  by_cases e : k = q
  · rw [if_pos e, if_pos hk, if_pos e.symm]
    rfl
  · rw [if_neg e, if_neg (Ne.symm e), List.getElem?_replicate]
    split <;> rfl
theorem unitT_cast (ρ k : Nat) : castL ((List.replicate ρ (0 : Int)).set k 1) = (List.replicate ρ (0 : Rat)).set k 1 := by
  unfold castL
  rw [List.map_set, List.map_replicate]
  rfl
theorem unitT_mem {ρ k s : Nat} {z : Int} (h : z ∈ (List.replicate ρ (0 : Int)).set k 1) : z.natAbs < 2 ^ (s + 1) := by
  have h1 : 0 < 2 ^ s := Nat.pow_pos (by decide)
  rw [Nat.pow_succ]
  rcases List.mem_or_eq_of_mem_set h with q | q
  · rw [List.eq_of_mem_replicate q]
    show 0 < _
    omega
  · rw [q]
    show 1 < _
    omega
theorem piv_ne {A M T : Nat → Nat → Int} {n m b i : Nat} {pw : List Nat} (h : Stp A n m b i M T pw) : ∀ i j, i < j → j < pw.length → pw.getD i 0 ≠ pw.getD j 0 := fun i j hi hj e => by
  have g : ∀ k, k < pw.length → pw[k]? = some (pw.getD k 0) := fun k hk => by
    rw [List.getD_eq_getElem?_getD, List.getElem?_eq_getElem hk]; rfl
  have h1 := (h.piv i _ (g i (by omega))).2.2 j hi (by have := h.len; omega)
  rw [e] at h1
  exact (h.piv j _ (g j hj)).2.1 h1
theorem bd_zero {e : Nat} (h : 0 < e) : bd e 0 := ⟨Nat.pow_pos (by decide), Nat.one_lt_two_pow (by omega)⟩
theorem bd_one {e : Nat} (h : 0 < e) : bd e 1 := ⟨Nat.one_lt_two_pow (by omega), Nat.one_lt_two_pow (by omega)⟩
theorem Shows.congr {A : Nat → Nat → Int} {n m : Nat} {R : Nat → Int} {w w' : Nat → Rat} (h : Shows A n m R w) (e : ∀ r, r < m → w' r = w r) : Shows A n m R w' := by
  refine ⟨fun c hc => ?_, ?_⟩
  · rw [sm_congr (g := fun r => w r * (A r c : Rat)) fun r hr => by rw [e r hr]]
    exact h.1 c hc
  · rw [sm_congr (g := fun r => w r * (R r : Rat)) fun r hr => by rw [e r hr]]
    exact h.2
def spPaper (K : Frag) (C : Addr) : Sp := fun vs H Q _ => ∃ (x ra : Addr) (A : Nat → Nat → Int) (n m : Nat) (M T : Nat → Nat → Int) (pw : List Nat) (R : Nat → Int) (b s F : Nat), vs = [.ref x, .ref ra] ∧ Sy C H x A n m M T pw ∧ Stp A n m b m M T pw ∧ H ra = some (.lst (intsV R m)) ∧ (n ≤ 1000 ∧ m ≤ 1000) ∧
  (∀ r, r < m → (R r).natAbs < 2 ^ s) ∧ 0 < s ∧ (s + (pw.length + 1) * (eB b pw.length + 1) ≤ F ∧ yW (eB b pw.length + 1) (eB b pw.length) (pw.length + 1) ≤ F ∧ eB b pw.length * pw.length + 1 ≤ F ∧ 4 * (F + s + eB b pw.length) + 10000 ≤ 120000000) ∧
  (∀ H', Same H H' → (∃ X, Sol A n m R X) → Q .non H') ∧ ∀ (a : Addr) (us : List V) (l : List Rat) (H' : Hp), Same H H' → H a = none → H' a = some (.lst us) → FrA K H' us l → l.length = m → Shows A n m R (fun r => l.getD r 0) → (∀ y ∈ l, bd (2 * F + 2 * s + 3000) y) → Q (.ref a) H'
section
variable {P : Program} {w : World} {K : Frag} {mg : Str → Option Value} {base : Heap} {C : Addr}
abbrev s_System_paper : Stmt := inClass (top 13) 7
theorem sc_System_paper : FnScope ["self", "right", "values", "k", "target", "row", "result", "one", "gap", "half"] ["self", "right"] (defScope s_System_paper) := ⟨rfl, rfl, rfl, by decide +kernel, rfl, by decide +kernel, by decide +kernel⟩
theorem met_paper (dx : MetAt K C "paper" "System.paper" s_System_paper) (B : Bl mg) (S : SC K C) (hZ : ∃ zA, mg "ZERO" = some (.ref zA) ∧ ∀ H, SqT K H zA [.int 0, .int 1]) (hO : ∃ oA, mg "ONE" = some (.ref oA) ∧ ∀ H, SqT K H oA [.int 1, .int 1])
    (G_fraction : Cal P w K mg base 36 "fraction" ["top", "bottom"] spFrac) (G_plus : Cal P w K mg base 37 "plus" ["one", "two"] (spTwo K fPlus)) (G_minus : Cal P w K mg base 37 "minus" ["one", "two"] (spTwo K fMinus)) (G_times : Cal P w K mg base 37 "times" ["one", "two"] (spTwo K fTimes)) (G_over : Cal P w K mg base 37 "over" ["one", "two"] (spTwo K fOver))
    (M_steps : MetX P w K mg base 38 C "steps" ["self", "right"] (spSteps C)) (M_fault : MetX P w K mg base 38 C "fault" ["self", "values", "right"] (spFault K C)) (M_weights : MetX P w K mg base 38 C "weights" ["self", "target"] (spWeights K C)) (M_spread : MetX P w K mg base 38 C "spread" ["self", "weights"] (spSpread K C)) :
    MetX P w K mg base 39 C "paper" ["self", "right"] (spPaper K C) := by
  refine met_mk dx sc_System_paper (fun _ _ _ _ _ _ us hl => match us, hl with | [_, _], _ => rfl) (fun vs H Q E h => ?_) (fun fn cdv AA outer s H vs Q E hr h => ?_)
  · obtain ⟨x, ra, A, n, m, M, T, pw, R, b, sz, F, rfl, _⟩ := h
    rfl
  · obtain ⟨x, ra, A, n, m, M, T, pw, R, b, sz, F, rfl, hS, hst, hra, ⟨hn, hm⟩, hR, hs0, ⟨hF1, hF2, hF3, hF4⟩, kq1, kq2⟩ := h
    have tk : L2N.Takes (cxOf (L2N.CX P w) P w K mg base ["self", "right", "values", "k", "target", "row", "result", "one", "gap", "half"] "System.paper" (defScope s_System_paper) fn cdv AA outer s H E) (fun cls d _ H => E cls d H) := L2N.takes_of rfl rfl rfl rfl
    have hcl := S.cls
    have hn1 := S.r
    have hn2 := S.n
    have hn3 := S.c
    have hn4 := S.t
    obtain ⟨zA, gZERO, hzA⟩ := hZ
    have hzA' : ∀ H, FrV K H (.ref zA) 0 := fun H => ⟨zA, rfl, hzA H⟩
    obtain ⟨oA, gONE, hoA⟩ := hO
    have hoA' : ∀ H, FrV K H (.ref oA) 1 := fun H => ⟨oA, rfl, hoA H⟩
    obtain ⟨dx, r0, rs, a, as, bb, bs, p, hx, hr0, hMm, hT, hp⟩ := hS.ex
    have hpw : ∀ (i r : Nat), pw[i]? = some r → r < m ∧ M i r ≠ 0 := fun i r h => ⟨(hst.piv i r h).1, (hst.piv i r h).2.1⟩
    refine ⟨_, (pss_cons (ps_set (i := 2) sc_System_paper.nd rfl (Or.inl rfl) (pe_metX M_steps (hr.mono (by first | decide | omega)) tk (pv 0) (pa_cons (pv 1) pa_nil)))
      (pss_cons (ps_for (passes_of rfl) rfl (pi_range1 (by rfl) B.range (pa_cons (pe_callB call_len_seq (by rfl) B.len PySem.boot_len (pa_cons (pv 2) pa_nil)) pa_nil)) (pg_name (i := 3) sc_System_paper.nd rfl (Or.inl rfl))
      (pss_one (ps_if (pt_cmpR op_ne (pe_ix ix_tup (pe_ix ix_list (pv 2) (pv 3) (fun _ _ => rfl)) pe_int (fun _ _ => rfl)) pe_int (nomark _))
      (pss_cons (ps_set (i := 4) sc_System_paper.nd rfl (Or.inl rfl) (pe_op op_rep (pe_lst (pa_cons (pe_gref gZERO) pa_nil)) (pe_callB call_len_seq (by rfl) B.len PySem.boot_len (pa_cons (pv 2) pa_nil))))
      (pss_cons (ps_asg (pe_gref gONE) (pg_sub (pv 4) (pv 3) set_list))
      (pss_one (ps_ret (pe_metX M_spread (hr.mono (by first | decide | omega)) tk (pv 0) (pa_cons (pe_metX M_weights (hr.mono (by first | decide | omega)) tk (pv 0) (pa_cons (pv 4) pa_nil)) pa_nil))))))
      pss_nil)))
      (pss_cons (ps_set (i := 5) sc_System_paper.nd rfl (Or.inr rfl) (pe_metX M_fault (hr.mono (by first | decide | omega)) tk (pv 0) (pa_cons (pv 2) (pa_cons (pv 1) pa_nil))))
      (pss_cons (ps_if (pt_cmpR op_isN (pv 5) pe_non (nomark _))
      (pss_one (ps_ret pe_non))
      pss_nil)
      (pss_cons (ps_setLc (i := 4) (own := [("k", 3)]) rfl sc_System_paper.nd rfl rfl (sw_true rfl rfl rfl (by decide +kernel)) (pi_range1 (by rfl) B.range (pa_cons (pe_callB call_len_seq (by rfl) B.len PySem.boot_len (pa_cons (pv 2) pa_nil)) pa_nil)) (blkOk_by (N := ["self", "right", "values", "k", "target", "row", "result", "one", "gap", "half"]) (sc := defScope s_System_paper) (by decide +kernel)) (fun _ _ _ _ _ => (pg_name (i := 3) sc_System_paper.nd rfl (Or.inl rfl))) (fun _ _ _ _ _ => pts_nil) (fun _ _ _ _ _ => (pe_tup (pa_cons (pe_ix (ix_listK (K := K) rfl) (pe_ix (ix_listK (K := K) rfl) (pe_fldK (K := K) rfl (pv 0) rfl) (pv 3) (fun _ _ => rfl)) (pv 5) (fun _ _ => rfl)) (pa_cons pe_int pa_nil)))))
      (pss_cons (ps_setLc (i := 6) (own := [("one", 7)]) rfl sc_System_paper.nd rfl rfl (sw_true rfl rfl rfl (by decide +kernel)) (pi_list (pe_metX M_spread (hr.mono (by first | decide | omega)) tk (pv 0) (pa_cons (pe_metX M_weights (hr.mono (by first | decide | omega)) tk (pv 0) (pa_cons (pv 4) pa_nil)) pa_nil))) (blkOk_by (N := ["self", "right", "values", "k", "target", "row", "result", "one", "gap", "half"]) (sc := defScope s_System_paper) (by decide +kernel)) (fun _ _ _ _ _ => (pg_name (i := 7) sc_System_paper.nd rfl (Or.inl rfl))) (fun _ _ _ _ _ => pts_nil) (fun _ _ _ _ _ => (pe_calN G_minus (hr.mono (by first | decide | omega)) (pa_cons (pe_gref gZERO) (pa_cons (pv 7) pa_nil)))))
      (pss_cons (ps_asg (pe_cal G_plus (hr.mono (by first | decide | omega)) tk (pa_cons (pe_ix ix_list (pv 6) (pv 5) (fun _ _ => rfl)) (pa_cons (pe_gref gONE) pa_nil))) (pg_sub (pv 6) (pv 5) set_list))
      (pss_cons (ps_set (i := 8) sc_System_paper.nd rfl (Or.inl rfl) (pe_gref gZERO))
      (pss_cons (ps_for (passes_of rfl) rfl (pi_range1 (by rfl) B.range (pa_cons (pe_callB call_len_seq (by rfl) B.len PySem.boot_len (pa_cons (pe_fld (pv 0) rfl) pa_nil)) pa_nil)) (pg_name (i := 3) sc_System_paper.nd rfl (Or.inl rfl))
      (pss_one (ps_set (i := 8) sc_System_paper.nd rfl (Or.inl rfl) (pe_cal G_plus (hr.mono (by first | decide | omega)) tk (pa_cons (pv 8) (pa_cons (pe_cal G_times (hr.mono (by first | decide | omega)) tk (pa_cons (pe_ix ix_list (pv 6) (pv 3) (fun _ _ => rfl)) (pa_cons (pe_tup (pa_cons (pe_ix ix_list (pv 1) (pv 3) (fun _ _ => rfl)) (pa_cons pe_int pa_nil))) pa_nil))) pa_nil))))))
      (pss_cons (ps_set (i := 9) sc_System_paper.nd rfl (Or.inr rfl) (pe_cal G_over (hr.mono (by first | decide | omega)) tk (pa_cons (pe_cal G_fraction (hr.mono (by first | decide | omega)) tk (pa_cons pe_int (pa_cons pe_int pa_nil))) (pa_cons (pv 8) pa_nil))))
      (pss_one (ps_ret (pe_lc (own := [("one", 7)]) rfl sc_System_paper.nd (pi_list (pv 6)) (blkOk_by (N := ["self", "right", "values", "k", "target", "row", "result", "one", "gap", "half"]) (sc := defScope s_System_paper) (by decide +kernel)) (fun _ _ _ _ _ => (pg_name (i := 7) sc_System_paper.nd rfl (Or.inl rfl))) (fun _ _ _ _ _ => pts_nil) (fun _ _ _ _ _ => (pe_calN G_times (hr.mono (by first | decide | omega)) (pa_cons (pv 9) (pa_cons (pv 7) pa_nil))))))))))))))))), ?_⟩
    walk_at "rq"
    refine r_metI (by with_unfolding_all rfl) hx rfl ?_
    walk_at "rq"
    refine ⟨x, ra, A, n, m, M, T, pw, R, sz, eB b pw.length, F, rfl, hS, hra, hpw, ⟨hst.len, hn⟩, hst.bm, hR, ⟨hF1, hF3, by omega⟩, fun va us l H1 s1 hva hu1 htl hll heq hbd => ?_⟩
    have hus := FrA.of (K := K) htl
    have hul : us.length = pw.length := by rw [All2.len hus, hll]
    have hra1 := s1 _ _ hra
    have hx1 := s1 _ _ hx
    have hpn := hst.len
    walk_at "rq"
    refine ⟨va, us, rfl, .inl (SqL.of hu1), ?_⟩
    walk_at "rq"
    rw [hul]
    refine ⟨by omega, by omega, ?_⟩
    rw [show ((pw.length : Int)).toNat = pw.length by omega]
    have hpg : ∀ k, k < pw.length → pw[k]? = some (pw.getD k 0) := fun k hk => by
      rw [List.getD_eq_getElem?_getD, List.getElem?_eq_getElem hk]; rfl
    have hpm : ∀ k, k < pw.length → pw.getD k 0 < m := fun k hk => (hst.piv k _ (hpg k hk)).1
    have hpw3 : ∀ (i r : Nat), pw[i]? = some r → r < m ∧ M i r ≠ 0 ∧ ∀ k, i < k → k < n → M k r = 0 := hst.piv
    have hspr : ∀ {l' : List Rat} (f : Nat → Rat), sm m (fun r => (sprd m pw l' pw.length).getD r 0 * f r) = sm pw.length fun j => l'.getD j 0 * f (pw.getD j 0) := fun f => sprd_sum f pw.length hpm (piv_ne hst)
    refine for_range (lo := 0) (n := pw.length) (fun k σ' H' => ∃ (v3 : Option V), σ' = [some (.ref x), some (.ref ra), some (.ref va), v3, none, none, none, none, none, none] ∧ H1 = H' ∧ ∀ j, j < k → ((l.getD j 0).den : Int) = 1)
      ⟨_, rfl, rfl, fun j hj => by omega⟩ ?_ ?_
    · rintro k σ' H2 hk ⟨v3, rfl, rfl, hden⟩
      obtain ⟨vt, hvt, pf, rfl, hsq⟩ := hus.get (getD_some (l := l) (j := k) (by omega))
      walk_at "rq"
      rw [show (0 : Int) + (k : Int) = ((k : Nat) : Int) by omega]
      refine r_ixL (SqL.of hu1) hvt ?_
      walk_at "rq"
      refine r_ixT (n := 1) hsq rfl ?_
      walk_at "rq"
      refine r_ite (fun h1 => ?_) (fun h1 => ?_)
      · have h1 := of_decide_eq_false (Bool.not_eq_true' _ ▸ h1)
        walk_at "rq"
        intro q0 hq0
        have aq : upd H1 q0 (.lst [.ref zA]) q0 = some (.lst [.ref zA]) := upd_same
        have s2 : Same H1 (upd H1 q0 (.lst [.ref zA])) := Same.new hq0
        generalize upd H1 q0 (.lst [.ref zA]) = H2 at *
        have hu2 := s2 _ _ hu1
        walk_at "rq"
        refine ⟨va, us, rfl, .inl (SqL.of hu2), ?_⟩
        walk_at "rq"
        rw [hul]
        refine ⟨q0, (pw.length : Int), [.ref zA], rfl, rfl, aq, by omega, by omega, by rw [sizeLine_eq, show ((pw.length : Int)).toNat = pw.length by omega]; show 1 * pw.length ≤ _; omega, fun pr hpr => ?_⟩
        rw [show ((pw.length : Int)).toNat = pw.length by omega, rep_flat]
        have s12 : Same H H2 := fun b o h => s2 _ _ (s1 _ _ h)
        have hprN : H pr = none := by
          cases e : H pr with
          | none => rfl
          | some u => rw [s12 _ _ e] at hpr; cases hpr
        have apr : upd H2 pr (.lst (List.replicate pw.length (.ref zA))) pr = some (.lst (List.replicate pw.length (.ref zA))) := upd_same
        have s3 : Same H (upd H2 pr (.lst (List.replicate pw.length (.ref zA)))) := Same.mut s12 hprN
        generalize upd H2 pr (.lst (List.replicate pw.length (.ref zA))) = H3 at *
        walk_at "rq"
        refine r_gsub ?_
        walk_at "rq"
        refine r_setL apr (by rw [List.length_replicate]; exact hk) ?_
        have a4 : upd H3 pr (.lst ((List.replicate pw.length (.ref zA)).set k (.ref oA))) pr = some (.lst ((List.replicate pw.length (.ref zA)).set k (.ref oA))) := upd_same
        have s4 : Same H (upd H3 pr (.lst ((List.replicate pw.length (.ref zA)).set k (.ref oA)))) := Same.mut s3 hprN
        generalize upd H3 pr (.lst ((List.replicate pw.length (.ref zA)).set k (.ref oA))) = H4 at *
        have hx4 := s4 _ _ hx
        walk_at "rq"
        refine r_metI (by with_unfolding_all rfl) hx4 rfl ?_
        walk_at "rq"
        refine r_metI (by with_unfolding_all rfl) hx4 rfl ?_
        walk_at "rq"
        refine ⟨x, pr, _, A, n, m, M, T, pw, (List.replicate pw.length (0 : Int)).set k 1, eB b pw.length + 1, eB b pw.length, F, rfl, hS.keep s4, ⟨a4, ?_, by rw [List.length_set, List.length_replicate]⟩, hpw3, ⟨hpn, hn⟩, hst.bm, fun z hz => unitT_mem hz, ⟨hF2, hF3, by omega⟩, fun wa us2 l2 H5 s5 _ hw5 hl5 hw2 hb2 => ?_⟩
        · rw [unitT_cast]
          exact All2.set (All2.rep (hzA' _) _) (hoA' _)
        have hx5 := s5 _ _ hx4
        have s05 : Same H H5 := fun b o h => s5 _ _ (s4 _ _ h)
        walk_at "rq"
        refine ⟨x, wa, us2, A, n, m, M, T, pw, l2, rfl, hS.keep s05, ⟨hw5, hl5, hw2.1⟩, hpm, ⟨hm, by omega⟩, fun ww us3 H6 s6 n6 hw6 hl6 => ?_⟩
        walk_at "rq"
        have n0 : H ww = none := by
          cases e : H ww with
          | none => rfl
          | some u => rw [s05 _ _ e] at n6; cases n6
        refine kq2 ww us3 _ H6 (fun b o h => s6 _ _ (s05 _ _ h)) n0 hw6 hl6 (sprd_len _ _ _ _) (shows_one hst hk (hw2.congr fun q hq => unitT_get hk) hspr heq h1) fun y hy => ?_
        rcases sprd_mem (by have := hw2.1; omega) hy with q | q
        · rw [q]
          exact bd_zero (by omega)
        · exact bd_mono (hb2 y q).1 (by omega)
      · have h1 := of_decide_eq_true (Bool.not_eq_false' _ ▸ h1)
        walk_at "rq"
        refine ⟨rfl, fun j hj => ?_⟩
        by_cases e : j = k
        · rw [e]; exact h1
        · exact hden j (by omega)
    · rintro σ' H2 ⟨v3, rfl, rfl, hden⟩
      have hden' : ∀ y ∈ l, (y.den : Int) = 1 := fun y hy => by
        obtain ⟨j, hj, rfl⟩ := List.mem_iff_getElem.mp hy
        have := hden j (by omega)
        rwa [List.getD_eq_getElem?_getD, List.getElem?_eq_getElem hj] at this
      have hcl2 := castL_num hden'
      generalize hzs : l.map Rat.num = zs at *
      have hzl : zs.length = pw.length := by rw [← hzs, List.length_map, hll]
      have hlz : ∀ i, i < pw.length → l.getD i 0 = ((zs.getD i 0 : Int) : Rat) := fun i hi => by
        have := castL_get (zs := zs) (i := i) (by omega)
        rw [hcl2] at this
        rw [List.getD_eq_getElem?_getD, this]
        rfl
      have hzb : ∀ z ∈ zs, z.natAbs < 2 ^ F := fun z hz => by
        rw [← hzs] at hz
        obtain ⟨y, hy, rfl⟩ := List.mem_map.mp hz
        exact (hbd y hy).1
      have hus2 : FrA K H1 us (castL zs) := by rw [hcl2]; exact hus
      have hF0 : 0 < F := by omega
      walk_at "rq"
      refine r_metI (by with_unfolding_all rfl) hx1 rfl ?_
      walk_at "rq"
      refine ⟨x, va, ra, us, A, n, m, M, T, pw, zs, R, F, eB b pw.length, rfl, hS.keep s1, ⟨hu1, hus2, hzl⟩, hra1, ⟨hst.len, hn, hm⟩, hst.bm, hzb, hF0, by omega, fun H3 s3 => ⟨fun r hr hne => ?_, fun hall => ?_⟩⟩
      · have s03 : Same H H3 := fun b o h => s3 _ _ (s1 _ _ h)
        have hu3 := s3 _ _ hu1
        walk_at "rq"
        refine ⟨rfl, ?_⟩
        rw [decide_eq_false (fun h => by cases h)]
        walk_at "rq"
        refine ⟨va, us, rfl, .inl (SqL.of hu3), ?_⟩
        walk_at "rq"
        rw [hul]
        refine ⟨by omega, by omega, fun D hD => ?_⟩
        rw [show ((pw.length : Int)).toNat = pw.length by omega]
        have hDN : H D = none := by
          cases e : H D with
          | none => rfl
          | some u => rw [s03 _ _ e] at hD; cases hD
        refine lcw_range (lo := 0) (n := pw.length) (fun i H' => Same H3 H' ∧ ∃ us4, H' D = some (.lst us4) ∧ FrA K H' us4 (castL ((List.range i).map fun k => M k r))) ⟨Same.new hD, [], upd_same, .nil⟩ ?_ ?_
        · rintro i H4 hi ⟨s4, us4, h4, hl4⟩
          have hul4 : us4.length = i := by rw [All2.len hl4]; unfold castL; rw [List.length_map, List.length_map, List.length_range]
          have hx4 := s4 _ _ (s03 _ _ hx)
          have hM4 := (hMm.keep s03).keep s4
          obtain ⟨col, hcol, hcoll, hcolr, _⟩ := hM4.at_ (k := i) (by omega)
          walk_at "rq"
          rw [show (0 : Int) + (i : Int) = ((i : Nat) : Int) by omega]
          refine r_ixL (SqL.of hM4.l) hcolr ?_
          walk_at "rq"
          refine r_ixL (SqL.of hcoll) (rowV_get hr) ?_
          walk_at "rq"
          intro q1 hq1
          have t1 : Fr2 K (upd H4 q1 (.tup [.int (M i r), .int 1])) (.ref q1) (M i r) 1 := ⟨q1, rfl, SqT.of upd_same⟩
          have s5 : Same H4 (upd H4 q1 (.tup [.int (M i r), .int 1])) := Same.new hq1
          generalize upd H4 q1 (.tup [.int (M i r), .int 1]) = H5 at *
          have hmut : ∀ b u, b ≠ D → H5 b = some u → upd H5 D (.lst (us4 ++ [.ref q1])) b = some u := fun b u hb h => (upd_ne hb).trans h
          refine ⟨us4, s5 _ _ h4, by rw [sizeLine_eq]; omega, Same.mut (fun b o h => s5 _ _ (s4 _ _ h)) hD, us4 ++ [.ref q1], upd_same, ?_⟩
          have e : castL ((List.range (i + 1)).map fun k => M k r) = castL ((List.range i).map fun k => M k r) ++ [(M i r : Rat)] := by
            unfold castL
            rw [List.range_succ, List.map_append, List.map_append]
            rfl
          rw [e]
          exact All2.app ((hl4.keep s5).fr (s5 _ _ h4) hmut) (.cons ((FrV.ofInt t1).fr (s5 _ _ h4) hmut) .nil)
        · rintro H4 ⟨s4, us4, h4, hl4⟩
          have s04 : Same H H4 := fun b o h => s4 _ _ (s03 _ _ h)
          have hx4 := s04 _ _ hx
          have hrng : ∀ q, q < pw.length → ((List.range pw.length).map fun k => M k r).getD q 0 = M q r := fun q hq => by
            rw [List.getD_eq_getElem?_getD, List.getElem?_map, List.getElem?_range hq]
            rfl
          walk_at "rq"
          refine r_metI (by with_unfolding_all rfl) hx4 rfl ?_
          walk_at "rq"
          refine r_metI (by with_unfolding_all rfl) hx4 rfl ?_
          walk_at "rq"
          refine ⟨x, D, us4, A, n, m, M, T, pw, _, eB b pw.length + 1, eB b pw.length, F, rfl, hS.keep s04, ⟨h4, hl4, by rw [List.length_map, List.length_range]⟩, hpw3, ⟨hpn, hn⟩, hst.bm, fun z hz => ?_, ⟨hF2, hF3, by omega⟩, fun wa us2 l2 H5 s5 _ hw5 hl5 hw2 hb2 => ?_⟩
          · obtain ⟨q, hq, rfl⟩ := List.mem_map.mp hz
            have := hst.bm q (by have := List.mem_range.mp hq; omega) r hr
            have h0 : 0 < 2 ^ eB b pw.length := Nat.pow_pos (by decide)
            rw [Nat.pow_succ]
            omega
          have hw2' := hw2.congr hrng
          have hx5 := s5 _ _ hx4
          have s05 : Same H H5 := fun b o h => s5 _ _ (s04 _ _ h)
          walk_at "rq"
          refine ⟨x, wa, us2, A, n, m, M, T, pw, l2, rfl, hS.keep s05, ⟨hw5, hl5, hw2.1⟩, hpm, ⟨hm, by omega⟩, fun ww us3 H6 s6 n6 hw6 hl6 => ?_⟩
          have s06 : Same H H6 := fun b o h => s6 _ _ (s05 _ _ h)
          generalize hWl : sprd m pw l2 pw.length = W at *
          have hWlen : W.length = m := by rw [← hWl]; exact sprd_len ..
          have hWs : ∀ f : Nat → Rat, sm m (fun r => W.getD r 0 * f r) = sm pw.length fun j => l2.getD j 0 * f (pw.getD j 0) := fun f => by rw [← hWl]; exact hspr f
          have hpb : ∀ (i r : Nat), pw[i]? = some r → (M i r).natAbs ≤ 2 ^ eB b pw.length := fun i r h => hst.bm i (by have := (List.getElem?_eq_some_iff.mp h).1; omega) r (hpw3 i r h).1
          have hDd := rP_ne (M := M) (pw := pw) (fun i r h => (hpw3 i r h).2.1) _ (Nat.le_refl _)
          have hDl := Nat.lt_of_lt_of_le (rP_lt hpb _ (Nat.le_refl _)) (Nat.pow_le_pow_right (by decide) hF3)
          have hWb : ∀ y ∈ W, sc (rP M pw pw.length) F y := fun y hy => by
            rw [← hWl] at hy
            rcases sprd_mem (by have := hw2.1; omega) hy with q | q
            · rw [q]
              exact sc_zero
            · exact (hb2 y q).2
          generalize rP M pw pw.length = Dd at *
          have hus3 : us3.length = m := by rw [All2.len hl6, hWlen]
          walk_at "rq"
          refine ⟨⟨_, SqL.of hw6⟩, fun D2 hD2 => ?_⟩
          have hD2N : H D2 = none := by
            cases e : H D2 with
            | none => rfl
            | some u => rw [s06 _ _ e] at hD2; cases hD2
          have hgW : ∀ q, q < m → sc Dd F (W.getD q 0) := fun q hq => hWb _ (by
            rw [List.getD_eq_getElem?_getD, List.getElem?_eq_getElem (show q < W.length by omega)]
            exact List.getElem_mem _)
          refine lcw_list (fun i H' => Same H6 H' ∧ ∃ us5, H' D2 = some (.lst us5) ∧ FrA K H' us5 ((W.take i).map fun y => 0 - y)) ⟨Same.new hD2, [], upd_same, .nil⟩ (fun i H' _ h => SqL.of (h.1 _ _ hw6)) ?_ ?_
          · rintro i v H7 hv ⟨s7, us5, h7, hl7⟩
            have hi : i < m := by rw [← hus3]; exact (List.getElem?_eq_some_iff.mp hv).1
            obtain ⟨v', hv', tv⟩ := (hl6.keep s7).get (getD_some (l := W) (j := i) (by omega))
            rw [hv] at hv'
            cases hv'
            have hle : us5.length ≤ 1000 := by
              rw [All2.len hl7, List.length_map, List.length_take]
              omega
            walk_at "rq"
            refine r_minus (hzA' _) tv (bd_zero (e := 1) (by omega)) (sc_bd (hgW i hi) hDd hDl (Nat.le_refl _)) (by omega) fun v8 H8 s8 tv8 => ?_
            have hmut : ∀ b u, b ≠ D2 → H8 b = some u → upd H8 D2 (.lst (us5 ++ [v8])) b = some u := fun b u hb h => (upd_ne hb).trans h
            have h8 := s8 _ _ h7
            refine ⟨us5, h8, by rw [sizeLine_eq]; omega, Same.mut (fun b o h => s8 _ _ (s7 _ _ h)) hD2, us5 ++ [v8], upd_same, ?_⟩
            rw [List.take_succ, getD_some (l := W) (j := i) (by omega), List.map_append]
            exact All2.app ((hl7.keep s8).fr h8 hmut) (.cons (tv8.fr h8 hmut) .nil)
          · rintro H7 ⟨s7, us5, h7, hl7⟩
            rw [hus3, ← hWlen, List.take_length] at hl7
            have s07 : Same H H7 := fun b o h => s7 _ _ (s06 _ _ h)
            have hu5 : us5.length = m := by rw [All2.len hl7, List.length_map, hWlen]
            have hg0 : (W.map fun y => 0 - y)[r]? = some (0 - W.getD r 0) := by
              rw [List.getElem?_map, getD_some (l := W) (j := r) (by omega)]
              rfl
            obtain ⟨v0, hv0, tv0⟩ := hl7.get hg0
            walk_at "rq"
            refine r_ixL (SqL.of h7) hv0 ?_
            walk_at "rq"
            refine r_plus tv0 (hoA' _) (sc_bd (sc_neg (hgW r hr)) hDd hDl (Nat.le_refl _)) (bd_one (e := 1) (by omega)) (by omega) fun v8 H8 s8 tv8 => ?_
            walk_at "rq"
            refine r_gsub ?_
            walk_at "rq"
            have h8 := s8 _ _ h7
            refine r_setL h8 (by omega) ?_
            have s08 : Same H H8 := fun b o h => s8 _ _ (s07 _ _ h)
            have hmut : ∀ b u, b ≠ D2 → H8 b = some u → upd H8 D2 (.lst (us5.set r v8)) b = some u := fun b u hb h => (upd_ne hb).trans h
            have h9 : upd H8 D2 (.lst (us5.set r v8)) D2 = some (.lst (us5.set r v8)) := upd_same
            have hl9 : FrA K (upd H8 D2 (.lst (us5.set r v8))) (us5.set r v8) ((W.map fun y => 0 - y).set r (0 - W.getD r 0 + 1)) := All2.set ((hl7.keep s8).fr h8 hmut) (tv8.fr h8 hmut)
            have s09 : Same H (upd H8 D2 (.lst (us5.set r v8))) := Same.mut s08 hD2N
            generalize upd H8 D2 (.lst (us5.set r v8)) = H9 at *
            generalize us5.set r v8 = us6 at *
            generalize hV : (W.map fun y => 0 - y).set r (0 - W.getD r 0 + 1) = V at *
            have hVlen : V.length = m := by rw [← hV, List.length_set, List.length_map, hWlen]
            have hVr : ∀ q, q < m → V.getD q 0 = if q = r then 0 - W.getD q 0 + 1 else 0 - W.getD q 0 := fun q hq => by
              rw [← hV, getD_set _ _ _ _ (by rw [List.length_map]; omega)]
              by_cases e : q = r
              · rw [if_pos e, if_pos e, e]
              · rw [if_neg e, if_neg e, List.getD_eq_getElem?_getD, List.getElem?_map, getD_some (l := W) (j := q) (by omega)]
                rfl
            have hVb : ∀ q, q < m → sc Dd (F + 1) (V.getD q 0) := fun q hq => by
              rw [hVr q hq]
              by_cases e : q = r
              · rw [if_pos e]
                exact sc_add (sc_neg (hgW q hq)) (sc_one hDl) (Nat.le_refl _)
              · rw [if_neg e]
                exact sc_mono (sc_neg (hgW q hq)) (by omega)
            have hu6 : us6.length = m := by rw [All2.len hl9, hVlen]
            have hDl2 : ∀ {e : Nat}, F ≤ e → Dd.natAbs < 2 ^ e := fun h => Nat.lt_of_lt_of_le hDl (Nat.pow_le_pow_right (by decide) h)
            obtain ⟨hcol0, hgap⟩ := shows_gap hst hr hw2' hWs hVr (z := fun k => zs.getD k 0) (fun i q hiq => by
              rw [← heq i q hiq]
              have := (List.getElem?_eq_some_iff.mp hiq).1
              exact sm_congr fun j hj => by rw [hlz j (by omega)])
            generalize hg : R r - (sm pw.length fun q => zs.getD q 0 * M q r) = g at *
            have hg0 : g ≠ 0 := fun e => hne (by omega)
            have hx9 := s09 _ _ hx
            have hr9 := hr0.keep s09
            walk_at "rq"
            refine ⟨r0, _, rfl, .inl (SqL.of hr9.l), ?_⟩
            walk_at "rq"
            rw [List.length_map, hr0.len]
            refine ⟨by omega, by omega, ?_⟩
            rw [show ((m : Int)).toNat = m by omega]
            have hra9 := s09 _ _ hra
            refine for_range (lo := 0) (n := m) (fun i σ' H' => ∃ (v3 : Option L2.V) (vg : L2.V), σ' = [some (.ref x), some (.ref ra), some (.ref va), v3, some (.ref D), some (.int (r : Int)), some (.ref D2), none, some vg, none] ∧ Same H9 H' ∧ FrV K H' vg (sm i fun q => V.getD q 0 * (R q : Rat)) ∧ sc Dd (F + 1 + sz + i) (sm i fun q => V.getD q 0 * (R q : Rat)))
              ⟨_, _, rfl, fun b o h => h, hzA' _, sc_zero⟩ ?_ ?_
            · rintro i σ' H10 hi ⟨v3, vg, rfl, s10, tg, hgc⟩
              have hra10 := s10 _ _ hra9
              have h10 := s10 _ _ h9
              obtain ⟨vy, hvy, tvy⟩ := (hl9.keep s10).get (getD_some (l := V) (j := i) (by omega))
              walk_at "rq"
              rw [show (0 : Int) + (i : Int) = ((i : Nat) : Int) by omega]
              refine r_ixL (SqL.of h10) hvy ?_
              walk_at "rq"
              refine r_ixL (SqL.of hra10) (intsV_get hi) ?_
              walk_at "rq"
              intro q1 hq1
              have t1 : Fr2 K (upd H10 q1 (.tup [.int (R i), .int 1])) (.ref q1) (R i) 1 := ⟨q1, rfl, SqT.of upd_same⟩
              have s11 : Same H10 (upd H10 q1 (.tup [.int (R i), .int 1])) := Same.new hq1
              generalize upd H10 q1 (.tup [.int (R i), .int 1]) = H11 at *
              walk_at "rq"
              have hvi := hVb i hi
              have hp1 := sc_mulI hvi (hR i hi)
              refine r_times (tvy.keep s11) (FrV.ofInt t1) (sc_bd hvi hDd (hDl2 (by omega)) (Nat.le_refl _)) (bd_int (hR i hi) hs0) (by omega) fun v12 H12 s12 tv12 => ?_
              walk_at "rq"
              refine r_plus ((tg.keep s11).keep s12) tv12 (sc_bd (f := F + sz + 1001) hgc hDd (hDl2 (by omega)) (by omega)) (sc_bd (f := F + sz + 1001) hp1 hDd (hDl2 (by omega)) (by omega)) (by omega) fun v13 H13 s13 tv13 => ?_
              walk_at "rq"
              refine ⟨fun b o h => s13 _ _ (s12 _ _ (s11 _ _ (s10 _ _ h))), by rw [sm_succ]; exact tv13, ?_⟩
              rw [sm_succ]
              exact sc_add (e := F + 1 + sz + i) (f := F + 1 + sz) hgc hp1 (by omega)
            · rintro σ' H10 ⟨v3, vg, rfl, s10, tg, hgc⟩
              rw [hgap] at tg hgc
              have h10 := s10 _ _ h9
              have bg : bd (F + sz + 1001) (g : Rat) := sc_bd hgc hDd (hDl2 (by omega)) (by omega)
              have bg1 : g.natAbs < 2 ^ (F + sz + 1001) := by have := bg.1; rwa [Rat.num_intCast] at this
              walk_at "rq"
              refine ⟨1, 2, rfl, by omega, fun v11 H11 s11 tv11 => ?_⟩
              walk_at "rq"
              refine r_over (x := Rat.divInt 1 2) (.of tv11) (tg.keep s11).int hg0 bd_half bg1 (by omega) (by omega) fun v12 H12 s12 tv12 => ?_
              have bh := bd_divI bd_half hg0 bg1
              have hsh := shows_half hcol0 hgap hg0
              generalize Rat.divInt 1 2 / (g : Rat) = half at *
              have h12 := s12 _ _ (s11 _ _ h10)
              walk_at "rq"
              refine ⟨⟨_, SqL.of h12⟩, fun D3 hD3 => ?_⟩
              have s012 : Same H H12 := fun b o h => s12 _ _ (s11 _ _ (s10 _ _ (s09 _ _ h)))
              have hD3N : H D3 = none := by
                cases e : H D3 with
                | none => rfl
                | some u => rw [s012 _ _ e] at hD3; cases hD3
              have hl12 := (hl9.keep s10).keep (fun b o h => s12 _ _ (s11 _ _ h))
              refine lcw_list (fun i H' => Same H12 H' ∧ ∃ us7, H' D3 = some (.lst us7) ∧ FrA K H' us7 ((V.take i).map fun y => half * y)) ⟨Same.new hD3, [], upd_same, .nil⟩ (fun i H' _ h => SqL.of (h.1 _ _ h12)) ?_ ?_
              · rintro i v H13 hv ⟨s13, us7, h13, hl13⟩
                have hi : i < m := by rw [← hu6]; exact (List.getElem?_eq_some_iff.mp hv).1
                obtain ⟨v', hv', tv⟩ := (hl12.keep s13).get (getD_some (l := V) (j := i) (by omega))
                rw [hv] at hv'
                cases hv'
                have hle : us7.length ≤ 1000 := by
                  rw [All2.len hl13, List.length_map, List.length_take]
                  omega
                walk_at "rq"
                refine r_times (tv12.keep s13) tv bh (sc_bd (hVb i hi) hDd (hDl2 (by omega)) (Nat.le_refl _)) (by omega) fun v14 H14 s14 tv14 => ?_
                have hmut : ∀ b u, b ≠ D3 → H14 b = some u → upd H14 D3 (.lst (us7 ++ [v14])) b = some u := fun b u hb h => (upd_ne hb).trans h
                have h14 := s14 _ _ h13
                refine ⟨us7, h14, by rw [sizeLine_eq]; omega, Same.mut (fun b o h => s14 _ _ (s13 _ _ h)) hD3, us7 ++ [v14], upd_same, ?_⟩
                rw [List.take_succ, getD_some (l := V) (j := i) (by omega), List.map_append]
                exact All2.app ((hl13.keep s14).fr h14 hmut) (.cons (tv14.fr h14 hmut) .nil)
              · rintro H13 ⟨s13, us7, h13, hl13⟩
                rw [hu6, ← hVlen, List.take_length] at hl13
                refine kq2 D3 us7 _ H13 (fun b o h => s13 _ _ (s012 _ _ h)) hD3N h13 hl13 (by rw [List.length_map, hVlen]) ?_ fun y hy => ?_
                · refine hsh.congr fun q hq => ?_
                  rw [List.getD_eq_getElem?_getD, List.getElem?_map, getD_some (l := V) (j := q) (by omega)]
                  rfl
                · obtain ⟨y0, hy0, rfl⟩ := List.mem_map.mp hy
                  obtain ⟨q, hq, rfl⟩ := List.mem_iff_getElem.mp hy0
                  have h1 := hVb q (by omega)
                  rw [List.getD_eq_getElem?_getD, List.getElem?_eq_getElem hq] at h1
                  exact bd_mono (bd_mul bh (sc_bd h1 hDd (hDl2 (by omega)) (Nat.le_refl _))) (by omega)
      · walk_at "rq"
        refine ⟨rfl, ?_⟩
        rw [decide_eq_true rfl]
        walk_at "rq"
        exact kq1 H3 (fun b o h => s3 _ _ (s1 _ _ h)) ⟨_, hst.sol hall⟩
end
end Al
namespace Al
open PySem PySem.Spec PyProof.Rows L2 NdefX PySem.W
local macro_rules | `(tactic| walk_at "rd1") => `(tactic| with_reducible first
  | (show tVar _ _ _ _; refine r_var (by with_unfolding_all rfl) ?_) | refine r_c ?_ | refine r_op ?_ | refine r_I0 ?_ | refine r_un ?_ | refine r_U ?_
  | (show rI _ _ _ _ _ _; refine r_I (by with_unfolding_all first | exact ⟨by decide, by decide⟩ | (show (0 : Int) < _; decide)) ?_)
  | refine r_eqI ?_ | refine r_neI ?_ | refine r_eqS ?_ | refine r_neS ?_ | refine r_eqB ?_ | refine r_neB ?_ | refine r_chain ?_
  | refine r_test ?_ | refine r_B ?_ | refine r_bl ?_ | refine r_int ?_ | refine r_and ?_ | refine r_or ?_ | refine r_not ?_ | refine r_andV ?_ | refine r_orV ?_ | refine r_notV ?_
  | refine r_if ?_ | refine r_nil ?_ | refine r_cons ?_ | refine r_cb ?_ | refine r_call ?_ | refine r_callS ?_ | refine r_tup ?_ | refine r_lst ?_ | refine r_seq ?_ | refine r_next ?_ | refine r_asg ?_
  | refine r_name ?_ | refine r_ifS ?_ | refine r_ret ?_ | refine r_retN ?_ | refine r_drop ?_ | refine r_brk ?_ | refine r_ct ?_ | refine r_sl ?_ | refine r_part ?_ | refine r_nopart ?_
  | refine r_bm ?_ | refine r_bm0 ?_ | refine r_raiseX ?_ | refine r_mkO ?_ | refine iteF ?_ | refine iteT ?_ | refine r_int1 ?_ | refine r_int1b ?_ | (show _ ≤ sizeLine ∧ _; refine r_sz (by with_unfolding_all first | omega | (simp only [List.length_cons, List.length_nil]; omega)) ?_)
  | (show ∃ _, _; refine ⟨_, rfl, ?_⟩) | (show ∃ _, _; refine ⟨_, _, rfl, rfl, ?_⟩) | (show ∃ _, _; refine ⟨_, _, rfl, ?_⟩))
local macro_rules | `(tactic| walk_at "rd") => `(tactic| repeat (walk_at "rd1"))
local macro_rules | `(tactic| walk_at "rd2") => `(tactic| with_reducible first
  | (show tFld _ _ _ _ _ _; refine r_fldI (by with_unfolding_all rfl) (by with_unfolding_all assumption) (by with_unfolding_all assumption) (by with_unfolding_all assumption) (by with_unfolding_all rfl) ?_)
  | (show tMetS _ _ _ _ _ _ _ _ _; refine r_rm (by with_unfolding_all assumption) (by with_unfolding_all rfl) (by decide) ?_)
  | refine r_sfl ?_ | refine iteNF ?_ | refine iteNT ?_ | refine r_makS ?_)
local macro_rules | `(tactic| walk_at "rp") => `(tactic| repeat first | walk_at "rd1" | walk_at "rd2")
local macro_rules | `(tactic| walk_at "rq1") => `(tactic| with_reducible first | refine r_rng1 ?_ | refine r_rng2 ?_ | refine r_forL ?_ | refine r_forT ?_ | refine r_dget ?_ | refine r_pnil ?_ | refine r_pcons ?_ | refine r_lcL ?_ | refine r_lcT ?_ | refine r_lcR ?_ | refine r_yes ?_ | refine r_disp ?_)
local macro_rules | `(tactic| walk_at "rq") => `(tactic| repeat first | walk_at "rd1" | walk_at "rd2" | walk_at "rq1")

/-- weights as pairs, not in lowest terms -/
def qw (ws : List (Int × Int)) (r : Nat) : Rat := Rat.divInt (ws.getD r (0, 1)).1 (ws.getD r (0, 1)).2
def Fr2P (K : Frag) (H : Hp) (v : V) (w : Int × Int) : Prop := Fr2 K H v w.1 w.2
theorem Fr2P.keepA {K : Frag} {H H' : Hp} {us : List V} {ws : List (Int × Int)} (h : All2 (Fr2P K H) us ws) (s : Same H H') : All2 (Fr2P K H') us ws := All2.mono (fun _ _ q => Fr2.keep q s) h
theorem bd_add {e f : Nat} {x y : Rat} (h : bd e x) (k : bd f y) : bd (e + f + 1) (x + y) := by
  rw [← q_plus x y]
  have h1 : (x.num * (y.den : Int)).natAbs < 2 ^ (e + f) := mul_lt2 h.1 (by rw [Int.natAbs_natCast]; exact Nat.le_of_lt k.2)
  have h2 : (y.num * (x.den : Int)).natAbs < 2 ^ (f + e) := mul_lt2 k.1 (by rw [Int.natAbs_natCast]; exact Nat.le_of_lt h.2)
  have h3 : ((x.den : Int) * (y.den : Int)).natAbs < 2 ^ (e + f) := mul_lt2 (by rw [Int.natAbs_natCast]; exact h.2) (by rw [Int.natAbs_natCast]; exact Nat.le_of_lt k.2)
  rw [Nat.add_comm f e] at h2
  refine bd_of (Int.mul_ne_zero (den_ne x) (den_ne y)) ?_ ?_
  · rw [Nat.pow_succ]
    omega
  · rw [Nat.pow_succ]
    omega
theorem r_timesP {K : Frag} {H : Hp} {v1 v2 : V} {w : Int × Int} {c : Int} {p q : Nat} {Q : VK} {E : XK} (h1 : Fr2P K H v1 w) (hw : w.2 ≠ 0) (h2 : Fr2 K H v2 c 1) (b1 : w.1.natAbs < 2 ^ p ∧ w.2.natAbs < 2 ^ p) (b2 : c.natAbs < 2 ^ q) (hq : 0 < q) (hl : p + q ≤ 129999000) (k : ∀ v H', Same H H' → FrV K H' v (Rat.divInt w.1 w.2 * (c : Rat)) → Q v H') : spTwo K fTimes [v1, v2] H Q E :=
  ⟨v1, v2, _, _, _, _, p, q, rfl, h1, h2, by show w.2 * 1 ≠ 0; rwa [Int.mul_one], ⟨b1.1, b1.2, b2, Nat.one_lt_two_pow (by omega), hl⟩, fun v H' s t => k v H' s (by
    have e : Rat.divInt (w.1 * c) (w.2 * 1) = Rat.divInt w.1 w.2 * (c : Rat) := by rw [times_eq, divInt_1]
    rw [← e]; exact .of t)⟩
def spShows (K : Frag) : Sp := fun vs H Q _ => ∃ (rw ra wa : Addr) (rs : List Addr) (A : Nat → Nat → Int) (n m : Nat) (R : Nat → Int) (us : List V) (ws : List (Int × Int)) (p c : Nat), vs = [.ref rw, .ref ra, .ref wa] ∧ Mat H rw rs A m n ∧ H ra = some (.lst (intsV R m)) ∧ (H wa = some (.lst us) ∧ All2 (Fr2P K H) us ws) ∧ (n ≤ 1000 ∧ m ≤ 1000) ∧
  (∀ r, r < m → ∀ k, k < n → (A r k).natAbs < 2 ^ c) ∧ (∀ r, r < m → (R r).natAbs < 2 ^ c) ∧ (∀ w ∈ ws, w.2 ≠ 0 ∧ w.1.natAbs < 2 ^ p ∧ w.2.natAbs < 2 ^ p) ∧ 0 < c ∧ (m + 1) * (p + c + 5) ≤ 60000000 ∧
  ∀ H' (b : Bool), Same H H' → (b = true ↔ ws.length = m ∧ Shows A n m R (qw ws)) → Q (.bl b) H'
section
variable {P : Program} {w : World} {K : Frag} {mg : Str → Option Value} {base : Heap} {C : Addr}
abbrev s_shows_none : Stmt := top 14
theorem sc_shows_none : FnScope ["rows", "right", "weights", "k", "total", "j"] ["rows", "right", "weights"] (defScope s_shows_none) := ⟨rfl, rfl, rfl, by decide +kernel, rfl, by decide +kernel, by decide +kernel⟩
theorem cal_shows (dx : DefAt K mg "shows_none" s_shows_none) (B : Bl mg) (hZ : ∃ zA, mg "ZERO" = some (.ref zA) ∧ ∀ H, SqT K H zA [.int 0, .int 1])
    (G_plus : Cal P w K mg base 37 "plus" ["one", "two"] (spTwo K fPlus)) (G_times : Cal P w K mg base 37 "times" ["one", "two"] (spTwo K fTimes)) :
    Cal P w K mg base 38 "shows_none" ["rows", "right", "weights"] (spShows K) := by
  refine cal_mk dx sc_shows_none (fun _ _ _ _ _ _ us hl => match us, hl with | [_, _, _], _ => rfl) (fun vs H Q E h => ?_) (fun fn cdv AA outer s H vs Q E hr h => ?_)
  · obtain ⟨rw, ra, wa, rs, A, n, m, R, us, ws, p, c, rfl, _⟩ := h
    rfl
  · obtain ⟨rw, ra, wa, rs, A, n, m, R, us, ws, p, c, rfl, hA, hra, ⟨hwa, hus⟩, ⟨hn, hm⟩, hAb, hRb, hwb, hc, hsz, kq⟩ := h
    have tk : L2N.Takes (cxOf (L2N.CX P w) P w K mg base ["rows", "right", "weights", "k", "total", "j"] "shows_none" (defScope s_shows_none) fn cdv AA outer s H E) (fun cls d _ H => E cls d H) := L2N.takes_of rfl rfl rfl rfl
    obtain ⟨zA, gZERO, hzA⟩ := hZ
    have hzA' : ∀ H, FrV K H (.ref zA) 0 := fun H => ⟨zA, rfl, hzA H⟩
    refine ⟨_, (pss_cons (ps_if (pt_cmpR op_ne (pe_callB call_len_seq (by rfl) B.len PySem.boot_len (pa_cons (pv 2) pa_nil)) (pe_callB call_len_seq (by rfl) B.len PySem.boot_len (pa_cons (pv 0) pa_nil)) (nomark _))
      (pss_one (ps_ret pe_bl))
      pss_nil)
      (pss_cons (ps_if (pt_truth (pv 0) (by intro _; rfl))
      (pss_one (ps_for (passes_of rfl) rfl (pi_range1 (by rfl) B.range (pa_cons (pe_callB call_len_seq (by rfl) B.len PySem.boot_len (pa_cons (pe_ix ix_list (pv 0) pe_int (fun _ _ => rfl)) pa_nil)) pa_nil)) (pg_name (i := 3) sc_shows_none.nd rfl (Or.inl rfl))
      (pss_cons (ps_set (i := 4) sc_shows_none.nd rfl (Or.inl rfl) (pe_gref gZERO))
      (pss_cons (ps_for (passes_of rfl) rfl (pi_range1 (by rfl) B.range (pa_cons (pe_callB call_len_seq (by rfl) B.len PySem.boot_len (pa_cons (pv 0) pa_nil)) pa_nil)) (pg_name (i := 5) sc_shows_none.nd rfl (Or.inl rfl))
      (pss_one (ps_set (i := 4) sc_shows_none.nd rfl (Or.inl rfl) (pe_cal G_plus (hr.mono (by first | decide | omega)) tk (pa_cons (pv 4) (pa_cons (pe_cal G_times (hr.mono (by first | decide | omega)) tk (pa_cons (pe_ix ix_list (pv 2) (pv 5) (fun _ _ => rfl)) (pa_cons (pe_tup (pa_cons (pe_ix ix_list (pe_ix ix_list (pv 0) (pv 5) (fun _ _ => rfl)) (pv 3) (fun _ _ => rfl)) (pa_cons pe_int pa_nil))) pa_nil))) pa_nil))))))
      (pss_one (ps_if (pt_cmpR op_ne (pe_ix ix_tup (pv 4) pe_int (fun _ _ => rfl)) pe_int (nomark _))
      (pss_one (ps_ret pe_bl))
      pss_nil))))))
      pss_nil)
      (pss_cons (ps_set (i := 4) sc_shows_none.nd rfl (Or.inl rfl) (pe_gref gZERO))
      (pss_cons (ps_for (passes_of rfl) rfl (pi_range1 (by rfl) B.range (pa_cons (pe_callB call_len_seq (by rfl) B.len PySem.boot_len (pa_cons (pv 0) pa_nil)) pa_nil)) (pg_name (i := 5) sc_shows_none.nd rfl (Or.inl rfl))
      (pss_one (ps_set (i := 4) sc_shows_none.nd rfl (Or.inl rfl) (pe_cal G_plus (hr.mono (by first | decide | omega)) tk (pa_cons (pv 4) (pa_cons (pe_cal G_times (hr.mono (by first | decide | omega)) tk (pa_cons (pe_ix ix_list (pv 2) (pv 5) (fun _ _ => rfl)) (pa_cons (pe_tup (pa_cons (pe_ix ix_list (pv 1) (pv 5) (fun _ _ => rfl)) (pa_cons pe_int pa_nil))) pa_nil))) pa_nil))))))
      (pss_one (ps_ret (pe_cmpR op_ne (pe_ix ix_tup (pv 4) pe_int (fun _ _ => rfl)) pe_int (nomark _)))))))), ?_⟩
    walk_at "rq"
    have hul := All2.len hus
    refine ⟨wa, us, rfl, .inl (SqL.of hwa), ?_⟩
    walk_at "rq"
    refine ⟨rw, _, rfl, .inl (SqL.of hA.l), ?_⟩
    walk_at "rq"
    rw [List.length_map, hA.len, hul]
    refine r_ite (fun h1 => ?_) (fun h1 => ?_)
    · have h1 := of_decide_eq_false (Bool.not_eq_true' _ ▸ h1)
      walk_at "rq"
      exact kq H false (fun b o h => h) ⟨fun h => Bool.noConfusion h, fun h => absurd (congrArg (fun n : Nat => (n : Int)) h.1) h1⟩
    · have h1 : ws.length = m := Int.ofNat.inj (of_decide_eq_true (Bool.not_eq_false' _ ▸ h1))
      walk_at "rq"
      rcases Nat.eq_zero_or_pos m with hm0 | hm0
      · have hcols : ∀ c, c < n → ((sm m fun r => qw ws r * (A r c : Rat)).den : Int) = 1 := fun c _ => by rw [hm0, sm_zero']; rfl
        have hrs : rs = [] := List.eq_nil_of_length_eq_zero (by rw [hA.len]; exact hm0)
        walk_at "rq"
        refine ⟨false, .inl ⟨_, SqL.of hA.l, by rw [hrs]; rfl⟩, ?_⟩
        walk_at "rq"
        have s00 : Same H H := fun b o h => h
        walk_at "rq"
        refine ⟨rw, _, rfl, .inl (SqL.of (s00 _ _ hA.l)), ?_⟩
        walk_at "rq"
        rw [List.length_map, hA.len]
        refine ⟨by omega, by omega, ?_⟩
        rw [show ((m : Int)).toNat = m by omega]
        refine for_range (lo := 0) (n := m) (fun j σ' H' => ∃ (v5 : Option V) (vt : V), σ' = [some (.ref rw), some (.ref ra), some (.ref wa), none, some vt, v5] ∧ Same H H' ∧ FrV K H' vt (sm j fun r => qw ws r * (R r : Rat)) ∧ bd (1 + j * (p + c + 3)) (sm j fun r => qw ws r * (R r : Rat)))
          ⟨_, _, rfl, fun b o h => h, hzA' _, bd_zero (by omega)⟩ ?_ ?_
        · rintro j σ' H5 hj ⟨v5, vt, rfl, s5, tt, bt⟩
          have s05 : Same H H5 := fun b o h => s5 _ _ (s00 _ _ h)
          have hgw : ws[j]? = some (ws.getD j (0, 1)) := by
            rw [List.getD_eq_getElem?_getD, List.getElem?_eq_getElem (show j < ws.length by omega)]; rfl
          obtain ⟨vy, hvy, tvy⟩ := All2.get (Fr2P.keepA hus s05) hgw
          have hwj := hwb (ws.getD j (0, 1)) (List.mem_of_getElem? hgw)
          have hjm : (j + 1) * (p + c + 3) ≤ (m + 1) * (p + c + 5) := Nat.le_trans (Nat.mul_le_mul_right _ (by omega)) (Nat.mul_le_mul_left _ (by omega))
          have e1 : (j + 1) * (p + c + 3) = j * (p + c + 3) + (p + c + 3) := Nat.succ_mul _ _
          walk_at "rq"
          rw [show (0 : Int) + (j : Int) = ((j : Nat) : Int) by omega]
          refine r_ixL (SqL.of (s05 _ _ hwa)) hvy ?_
          walk_at "rq"
          refine r_ixL (SqL.of (s05 _ _ hra)) (intsV_get hj) ?_
          walk_at "rq"
          intro q1 hq1
          have t1 : Fr2 K (upd H5 q1 (.tup [.int (R j), .int 1])) (.ref q1) (R j) 1 := ⟨q1, rfl, SqT.of upd_same⟩
          have s6 : Same H5 (upd H5 q1 (.tup [.int (R j), .int 1])) := Same.new hq1
          generalize upd H5 q1 (.tup [.int (R j), .int 1]) = H6 at *
          walk_at "rq"
          refine r_timesP (w := ws.getD j (0, 1)) (Fr2.keep tvy s6) hwj.1 t1 hwj.2 (hRb j hj) hc (by omega) fun v7 H7 s7 tv7 => ?_
          have b7 : bd (p + c) (Rat.divInt (ws.getD j (0, 1)).1 (ws.getD j (0, 1)).2 * ((R j : Int) : Rat)) := bd_mulI (bd_of hwj.1 hwj.2.1 hwj.2.2) (hRb j hj)
          walk_at "rq"
          refine r_plus ((tt.keep s6).keep s7) tv7 bt b7 (by omega) fun v8 H8 s8 tv8 => ?_
          walk_at "rq"
          refine ⟨fun b o h => s8 _ _ (s7 _ _ (s6 _ _ (s5 _ _ h))), by rw [sm_succ]; exact tv8, ?_⟩
          rw [sm_succ]
          exact bd_mono (bd_add bt b7) (by omega)
        · rintro σ' H5 ⟨v5, vt, rfl, s5, ⟨pt, rfl, hpt⟩, bt⟩
          walk_at "rq"
          refine r_ixT (n := 1) hpt rfl ?_
          walk_at "rq"
          refine kq H5 _ (fun b o h => s5 _ _ (s00 _ _ h)) ⟨fun h => ⟨h1, hcols, fun e => ?_⟩, fun h => ?_⟩
          · rw [decide_eq_true e] at h
            cases h
          · rw [decide_eq_false h.2.2]
            rfl
      · walk_at "rq"
        refine ⟨true, .inl ⟨_, SqL.of hA.l, by
          have := hA.len
          cases rs with
          | nil => exact absurd this (Nat.ne_of_lt hm0)
          | cons _ _ => rfl⟩, ?_⟩
        walk_at "rq"
        obtain ⟨col0, hcol0, hcoll0, hcolr0, _⟩ := hA.at_ (k := 0) (by omega)
        refine r_ixL (n := 0) (SqL.of hA.l) hcolr0 ?_
        walk_at "rq"
        refine ⟨col0, _, rfl, .inl (SqL.of hcoll0), ?_⟩
        walk_at "rq"
        rw [rowV_len]
        refine ⟨by omega, by omega, ?_⟩
        rw [show ((n : Int)).toNat = n by omega]
        refine for_range (lo := 0) (n := n) (fun k σ' H' => ∃ (v3 v4 v5 : Option V), σ' = [some (.ref rw), some (.ref ra), some (.ref wa), v3, v4, v5] ∧ Same H H' ∧ ∀ q, q < k → ((sm m fun r => qw ws r * (A r q : Rat)).den : Int) = 1)
          ⟨_, _, _, rfl, fun b o h => h, fun q hq => by omega⟩ ?_ ?_
        · rintro k σ' H4 hk ⟨v3, v4, v5, rfl, s4, hden⟩
          walk_at "rq"
          refine ⟨rw, _, rfl, .inl (SqL.of (s4 _ _ hA.l)), ?_⟩
          walk_at "rq"
          rw [List.length_map, hA.len]
          refine ⟨by omega, by omega, ?_⟩
          rw [show ((m : Int)).toNat = m by omega]
          refine for_range (lo := 0) (n := m) (fun j σ' H' => ∃ (v5 : Option V) (vt : V), σ' = [some (.ref rw), some (.ref ra), some (.ref wa), some (.int (0 + (k : Int))), some vt, v5] ∧ Same H4 H' ∧ FrV K H' vt (sm j fun r => qw ws r * (A r k : Rat)) ∧ bd (1 + j * (p + c + 3)) (sm j fun r => qw ws r * (A r k : Rat)))
            ⟨_, _, rfl, fun b o h => h, hzA' _, bd_zero (by omega)⟩ ?_ ?_
          · rintro j σ' H5 hj ⟨v5, vt, rfl, s5, tt, bt⟩
            have s05 : Same H H5 := fun b o h => s5 _ _ (s4 _ _ h)
            have hgw : ws[j]? = some (ws.getD j (0, 1)) := by
              rw [List.getD_eq_getElem?_getD, List.getElem?_eq_getElem (show j < ws.length by omega)]; rfl
            obtain ⟨vy, hvy, tvy⟩ := All2.get (Fr2P.keepA hus s05) hgw
            have hwj := hwb (ws.getD j (0, 1)) (List.mem_of_getElem? hgw)
            have hjm : (j + 1) * (p + c + 3) ≤ (m + 1) * (p + c + 5) := Nat.le_trans (Nat.mul_le_mul_right _ (by omega)) (Nat.mul_le_mul_left _ (by omega))
            have e1 : (j + 1) * (p + c + 3) = j * (p + c + 3) + (p + c + 3) := Nat.succ_mul _ _
            walk_at "rq"
            rw [show (0 : Int) + (j : Int) = ((j : Nat) : Int) by omega]
            refine r_ixL (SqL.of (s05 _ _ hwa)) hvy ?_
            walk_at "rq"
            obtain ⟨col, hcol, hcoll, hcolr, _⟩ := (hA.keep s05).at_ (k := j) hj
            refine r_ixL (SqL.of (hA.keep s05).l) hcolr ?_
            walk_at "rq"
            rw [show (0 : Int) + (k : Int) = ((k : Nat) : Int) by omega]
            refine r_ixL (SqL.of hcoll) (rowV_get hk) ?_
            walk_at "rq"
            intro q1 hq1
            have t1 : Fr2 K (upd H5 q1 (.tup [.int (A j k), .int 1])) (.ref q1) (A j k) 1 := ⟨q1, rfl, SqT.of upd_same⟩
            have s6 : Same H5 (upd H5 q1 (.tup [.int (A j k), .int 1])) := Same.new hq1
            generalize upd H5 q1 (.tup [.int (A j k), .int 1]) = H6 at *
            walk_at "rq"
            refine r_timesP (w := ws.getD j (0, 1)) (Fr2.keep tvy s6) hwj.1 t1 hwj.2 (hAb j hj k hk) hc (by omega) fun v7 H7 s7 tv7 => ?_
            have b7 : bd (p + c) (Rat.divInt (ws.getD j (0, 1)).1 (ws.getD j (0, 1)).2 * ((A j k : Int) : Rat)) := bd_mulI (bd_of hwj.1 hwj.2.1 hwj.2.2) (hAb j hj k hk)
            walk_at "rq"
            refine r_plus ((tt.keep s6).keep s7) tv7 bt b7 (by omega) fun v8 H8 s8 tv8 => ?_
            walk_at "rq"
            refine ⟨fun b o h => s8 _ _ (s7 _ _ (s6 _ _ (s5 _ _ h))), by rw [sm_succ]; exact tv8, ?_⟩
            rw [sm_succ]
            exact bd_mono (bd_add bt b7) (by omega)
          · rintro σ' H5 ⟨v5, vt, rfl, s5, ⟨pt, rfl, hpt⟩, bt⟩
            walk_at "rq"
            refine r_ixT (n := 1) hpt rfl ?_
            walk_at "rq"
            refine r_ite (fun h2 => ?_) (fun h2 => ?_)
            · have h2 := of_decide_eq_false (Bool.not_eq_true' _ ▸ h2)
              walk_at "rq"
              exact kq H5 false (fun b o h => s5 _ _ (s4 _ _ h)) ⟨fun h => Bool.noConfusion h, fun h => absurd (h.2.1 k hk) h2⟩
            · have h2 := of_decide_eq_true (Bool.not_eq_false' _ ▸ h2)
              walk_at "rq"
              refine ⟨_, _, _, rfl, fun b o h => s5 _ _ (s4 _ _ h), fun q hq => ?_⟩
              by_cases e : q = k
              · rw [e]; exact h2
              · exact hden q (by omega)
        · rintro σ' H4 ⟨v3, v4, v5, rfl, s4, hcols⟩
          walk_at "rq"
          refine ⟨rw, _, rfl, .inl (SqL.of (s4 _ _ hA.l)), ?_⟩
          walk_at "rq"
          rw [List.length_map, hA.len]
          refine ⟨by omega, by omega, ?_⟩
          rw [show ((m : Int)).toNat = m by omega]
          refine for_range (lo := 0) (n := m) (fun j σ' H' => ∃ (v5 : Option V) (vt : V), σ' = [some (.ref rw), some (.ref ra), some (.ref wa), v3, some vt, v5] ∧ Same H4 H' ∧ FrV K H' vt (sm j fun r => qw ws r * (R r : Rat)) ∧ bd (1 + j * (p + c + 3)) (sm j fun r => qw ws r * (R r : Rat)))
            ⟨_, _, rfl, fun b o h => h, hzA' _, bd_zero (by omega)⟩ ?_ ?_
          · rintro j σ' H5 hj ⟨v5, vt, rfl, s5, tt, bt⟩
            have s05 : Same H H5 := fun b o h => s5 _ _ (s4 _ _ h)
            have hgw : ws[j]? = some (ws.getD j (0, 1)) := by
              rw [List.getD_eq_getElem?_getD, List.getElem?_eq_getElem (show j < ws.length by omega)]; rfl
            obtain ⟨vy, hvy, tvy⟩ := All2.get (Fr2P.keepA hus s05) hgw
            have hwj := hwb (ws.getD j (0, 1)) (List.mem_of_getElem? hgw)
            have hjm : (j + 1) * (p + c + 3) ≤ (m + 1) * (p + c + 5) := Nat.le_trans (Nat.mul_le_mul_right _ (by omega)) (Nat.mul_le_mul_left _ (by omega))
            have e1 : (j + 1) * (p + c + 3) = j * (p + c + 3) + (p + c + 3) := Nat.succ_mul _ _
            walk_at "rq"
            rw [show (0 : Int) + (j : Int) = ((j : Nat) : Int) by omega]
            refine r_ixL (SqL.of (s05 _ _ hwa)) hvy ?_
            walk_at "rq"
            refine r_ixL (SqL.of (s05 _ _ hra)) (intsV_get hj) ?_
            walk_at "rq"
            intro q1 hq1
            have t1 : Fr2 K (upd H5 q1 (.tup [.int (R j), .int 1])) (.ref q1) (R j) 1 := ⟨q1, rfl, SqT.of upd_same⟩
            have s6 : Same H5 (upd H5 q1 (.tup [.int (R j), .int 1])) := Same.new hq1
            generalize upd H5 q1 (.tup [.int (R j), .int 1]) = H6 at *
            walk_at "rq"
            refine r_timesP (w := ws.getD j (0, 1)) (Fr2.keep tvy s6) hwj.1 t1 hwj.2 (hRb j hj) hc (by omega) fun v7 H7 s7 tv7 => ?_
            have b7 : bd (p + c) (Rat.divInt (ws.getD j (0, 1)).1 (ws.getD j (0, 1)).2 * ((R j : Int) : Rat)) := bd_mulI (bd_of hwj.1 hwj.2.1 hwj.2.2) (hRb j hj)
            walk_at "rq"
            refine r_plus ((tt.keep s6).keep s7) tv7 bt b7 (by omega) fun v8 H8 s8 tv8 => ?_
            walk_at "rq"
            refine ⟨fun b o h => s8 _ _ (s7 _ _ (s6 _ _ (s5 _ _ h))), by rw [sm_succ]; exact tv8, ?_⟩
            rw [sm_succ]
            exact bd_mono (bd_add bt b7) (by omega)
          · rintro σ' H5 ⟨v5, vt, rfl, s5, ⟨pt, rfl, hpt⟩, bt⟩
            walk_at "rq"
            refine r_ixT (n := 1) hpt rfl ?_
            walk_at "rq"
            refine kq H5 _ (fun b o h => s5 _ _ (s4 _ _ h)) ⟨fun h => ⟨h1, hcols, fun e => ?_⟩, fun h => ?_⟩
            · rw [decide_eq_true e] at h
              cases h
            · rw [decide_eq_false h.2.2]
              rfl
end
end Al
namespace Al
open PySem PySem.Spec PyProof.Rows L2 NdefX PySem.W
local macro_rules | `(tactic| walk_at "rd1") => `(tactic| with_reducible first
  | (show tVar _ _ _ _; refine r_var (by with_unfolding_all rfl) ?_) | refine r_c ?_ | refine r_op ?_ | refine r_I0 ?_ | refine r_un ?_ | refine r_U ?_
  | (show rI _ _ _ _ _ _; refine r_I (by with_unfolding_all first | exact ⟨by decide, by decide⟩ | (show (0 : Int) < _; decide)) ?_)
  | refine r_eqI ?_ | refine r_neI ?_ | refine r_eqS ?_ | refine r_neS ?_ | refine r_eqB ?_ | refine r_neB ?_ | refine r_chain ?_
  | refine r_test ?_ | refine r_B ?_ | refine r_bl ?_ | refine r_int ?_ | refine r_and ?_ | refine r_or ?_ | refine r_not ?_ | refine r_andV ?_ | refine r_orV ?_ | refine r_notV ?_
  | refine r_if ?_ | refine r_nil ?_ | refine r_cons ?_ | refine r_cb ?_ | refine r_call ?_ | refine r_callS ?_ | refine r_tup ?_ | refine r_lst ?_ | refine r_seq ?_ | refine r_next ?_ | refine r_asg ?_
  | refine r_name ?_ | refine r_ifS ?_ | refine r_ret ?_ | refine r_retN ?_ | refine r_drop ?_ | refine r_brk ?_ | refine r_ct ?_ | refine r_sl ?_ | refine r_part ?_ | refine r_nopart ?_
  | refine r_bm ?_ | refine r_bm0 ?_ | refine r_raiseX ?_ | refine r_mkO ?_ | refine iteF ?_ | refine iteT ?_ | refine r_int1 ?_ | refine r_int1b ?_ | (show _ ≤ sizeLine ∧ _; refine r_sz (by with_unfolding_all first | omega | (simp only [List.length_cons, List.length_nil]; omega)) ?_)
  | (show ∃ _, _; refine ⟨_, rfl, ?_⟩) | (show ∃ _, _; refine ⟨_, _, rfl, rfl, ?_⟩) | (show ∃ _, _; refine ⟨_, _, rfl, ?_⟩))
local macro_rules | `(tactic| walk_at "rd") => `(tactic| repeat (walk_at "rd1"))
local macro_rules | `(tactic| walk_at "rd2") => `(tactic| with_reducible first
  | (show tFld _ _ _ _ _ _; refine r_fldI (by with_unfolding_all rfl) (by with_unfolding_all assumption) (by with_unfolding_all assumption) (by with_unfolding_all assumption) (by with_unfolding_all rfl) ?_)
  | (show tMetS _ _ _ _ _ _ _ _ _; refine r_rm (by with_unfolding_all assumption) (by with_unfolding_all rfl) (by decide) ?_)
  | refine r_sfl ?_ | refine iteNF ?_ | refine iteNT ?_ | refine r_makS ?_)
local macro_rules | `(tactic| walk_at "rp") => `(tactic| repeat first | walk_at "rd1" | walk_at "rd2")
local macro_rules | `(tactic| walk_at "rq1") => `(tactic| with_reducible first | refine r_rng1 ?_ | refine r_rng2 ?_ | refine r_forL ?_ | refine r_forT ?_ | refine r_dget ?_ | refine r_pnil ?_ | refine r_pcons ?_ | refine r_lcL ?_ | refine r_lcT ?_ | refine r_lcR ?_ | refine r_yes ?_ | refine r_disp ?_)
local macro_rules | `(tactic| walk_at "rq") => `(tactic| repeat first | walk_at "rd1" | walk_at "rd2" | walk_at "rq1")

/-! ### k03: the law's own defs -/
def spNumbers : Sp := fun vs H Q _ => ∃ (c : Int) (m : Nat), vs = [.int c, .int (m : Int)] ∧ 0 < m ∧ m ≤ 1000 ∧ ∀ (p : Addr) (N : List Nat) (H' : Hp), Same H H' → H' p = some (.lst (N.map fun (n : Nat) => V.int (n : Int))) → N.length = m → (∀ n ∈ N, n < 1048576) → Q (.ref p) H'
def spLawCell (K : Frag) : Sp := fun vs H Q _ => ∃ (a : Addr) (ns : List Int) (k : Nat), vs = [.ref a, .int (k : Int)] ∧ SqL K H a (ns.map V.int) ∧ Q (.int (ns.getD k 0)) H
theorem cr_sumK {X : Cx} {K : Frag} (hK : X.K = K) (hc : X.calm = true) : CallR X (.builtin "sum") (rSum K) := by
  subst hK
  exact cr_sum hc
theorem sum_range (n : Nat) (f : Nat → Int) : ((List.range n).map f).sum = sm n f := by
  induction n with
  | zero => rfl
  | succ n ih =>
    rw [List.range_succ, List.map_append, List.sum_append, ih, sm_succ]
    show _ + (f n + 0) = _
    rw [Int.add_zero]
theorem intsV_succ (f : Nat → Int) (n : Nat) : intsV f (n + 1) = intsV f n ++ [.int (f n)] := by
  unfold intsV
  rw [List.range_succ, List.map_append]
  rfl
def spDot : Sp := fun vs H Q _ => ∃ (a b : Addr) (f g : Nat → Int) (n m p q : Nat), vs = [.ref a, .ref b] ∧ H a = some (.lst (intsV f n)) ∧ H b = some (.lst (intsV g m)) ∧ n ≤ m ∧ n ≤ 1000 ∧ (∀ i, i < n → (f i).natAbs < 2 ^ p) ∧ (∀ i, i < n → (g i).natAbs < 2 ^ q) ∧ p + q ≤ 129000000 ∧ ∀ H', Same H H' → Q (.int (sm n fun i => f i * g i)) H'
section
variable {P : Program} {w : World} {K : Frag} {mg : Str → Option Value} {base : Heap}
abbrev s_law_cell : Stmt := top 16
theorem sc_law_cell : FnScope ["_law_script", "_law_k"] ["_law_script", "_law_k"] (defScope s_law_cell) := ⟨rfl, rfl, rfl, by decide +kernel, rfl, by decide +kernel, by decide +kernel⟩
theorem cal_law_cell (dx : DefAt K mg "_law_cell" s_law_cell) (B : Bl mg) : Cal P w K mg base 1 "_law_cell" ["_law_script", "_law_k"] (spLawCell K) := by
  refine cal_mk dx sc_law_cell (fun _ _ _ _ _ _ us hl => match us, hl with | [_, _], _ => rfl) (fun vs H Q E h => ?_) (fun f cdv A outer s H vs Q E hr h => ?_)
  · obtain ⟨a, ns, k, rfl, _⟩ := h
    rfl
  · obtain ⟨a, ns, k, rfl, hS, kq⟩ := h
    refine ⟨_, (pss_cons (ps_if (pt_cmpR op_lt (pv 1) (pe_callB call_len_seq (by rfl) B.len PySem.boot_len (pa_cons (pv 0) pa_nil)) (nomark _))
      (pss_one (ps_ret (pe_callTy call_int1 (by rfl) B.int (by decide +kernel) (pa_cons (pe_ix ix_list (pv 0) (pv 1) (fun _ _ => rfl)) pa_nil))))
      pss_nil)
      (pss_one (ps_ret pe_int))), ?_⟩
    walk_at "rq"
    refine ⟨_, _, rfl, .inl hS, ?_⟩
    walk_at "rq"
    rw [List.length_map]
    refine r_ite (fun h1 => ?_) (fun h1 => ?_) <;> walk_at "rq"
    · have h1' := of_decide_eq_true h1
      have hk : k < ns.length := by omega
      refine r_ixL hS (v := .int ns[k]) (by rw [List.getElem?_map, List.getElem?_eq_getElem hk] <;> rfl) ?_
      walk_at "rq"
      rw [List.getD_eq_getElem?_getD, List.getElem?_eq_getElem hk] at kq
      exact kq
    · have h1' := of_decide_eq_false h1
      rw [List.getD_eq_getElem?_getD, List.getElem?_eq_none (by omega)] at kq
      exact kq
abbrev s_law_numbers : Stmt := top 17
theorem sc_law_numbers : FnScope ["_law_cell_here", "_law_many", "_law_found", "_law_rest", "_law_k"] ["_law_cell_here", "_law_many"] (defScope s_law_numbers) := ⟨rfl, rfl, rfl, by decide +kernel, rfl, by decide +kernel, by decide +kernel⟩
theorem cal_law_numbers (dx : DefAt K mg "_law_numbers" s_law_numbers) (B : Bl mg) : Cal P w K mg base 1 "_law_numbers" ["_law_cell_here", "_law_many"] spNumbers := by
  refine cal_mk dx sc_law_numbers (fun _ _ _ _ _ _ us hl => match us, hl with | [_, _], _ => rfl) (fun vs H Q E h => ?_) (fun f cdv A outer s H vs Q E hr h => ?_)
  · obtain ⟨c, m, rfl, _⟩ := h
    rfl
  · obtain ⟨c, m, rfl, hm, hm2, kq⟩ := h
    refine ⟨_, (pss_cons (ps_set (i := 2) sc_law_numbers.nd rfl (Or.inl rfl) (pe_lst pa_nil))
      (pss_cons (ps_set (i := 3) sc_law_numbers.nd rfl (Or.inl rfl) (pe_callB call_abs (by rfl) B.abs (by decide +kernel) (pa_cons (pv 0) pa_nil)))
      (pss_cons (ps_if (pt_cmpR op_ge (pv 3) pe_int (nomark _))
      (pss_cons (ps_for (passes_of rfl) rfl (pi_range1 (by rfl) B.range (pa_cons (pv 1) pa_nil)) (pg_name (i := 4) sc_law_numbers.nd rfl (Or.inl rfl))
      (pss_cons (ps_expr (pe_bm PySem.F.plainAttrs_list PySem.F.slot_list_append PySem.F.type_list_append mt_append (pv 2) (pa_cons (pe_op op_mod (pe_callTy call_int1 (by rfl) B.int (by decide +kernel) (pa_cons (pv 3) pa_nil)) pe_int) pa_nil)))
      (pss_one (ps_set (i := 3) sc_law_numbers.nd rfl (Or.inl rfl) (pe_op op_fdiv (pv 3) pe_int)))))
      (pss_one (ps_ret (pv 2))))
      pss_nil)
      (pss_cons (ps_for (passes_of rfl) rfl (pi_range1 (by rfl) B.range (pa_cons (pv 1) pa_nil)) (pg_name (i := 4) sc_law_numbers.nd rfl (Or.inl rfl))
      (pss_cons (ps_set (i := 3) sc_law_numbers.nd rfl (Or.inl rfl) (pe_op op_mod (pe_callTy call_int1 (by rfl) B.int (by decide +kernel) (pa_cons (pe_op op_add (pe_op op_add (pe_op op_mulA (pv 3) pe_int) (pe_op op_mulA (pv 4) pe_int)) pe_int) pa_nil)) pe_int))
      (pss_one (ps_expr (pe_bm PySem.F.plainAttrs_list PySem.F.slot_list_append PySem.F.type_list_append mt_append (pv 2) (pa_cons (pe_op op_mod (pe_op op_mod (pe_callTy call_int1 (by rfl) B.int (by decide +kernel) (pa_cons (pe_op op_mulA (pv 3) pe_int) pa_nil)) pe_int) pe_int) pa_nil))))))
      (pss_one (ps_ret (pv 2))))))), ?_⟩
    walk_at "rq"
    intro p hp
    have a1 : upd H p (.lst []) p = some (.lst []) := upd_same
    have s1 : Same H (upd H p (.lst [])) := Same.new hp
    generalize upd H p (.lst []) = H1 at *
    walk_at "rq"
    have hc : ∃ n : Nat, (if c < 0 then -c else c) = (n : Int) := ⟨c.natAbs, by split <;> omega⟩
    obtain ⟨n, hc⟩ := hc
    rw [hc]
    refine r_ite (fun h1 => ?_) (fun h1 => ?_)
    · walk_at "rq"
      refine ⟨by omega, by omega, ?_⟩
      rw [show ((m : Int)).toNat = m by omega]
      refine for_range (lo := 0) (n := m) (fun k σ' H' => ∃ (N : List Nat) (r : Nat) (v4 : Option V), σ' = [some (.int c), some (.int (m : Int)), some (.ref p), some (.int (r : Int)), v4] ∧ Same H H' ∧ H' p = some (.lst (N.map fun (n : Nat) => V.int (n : Int))) ∧ N.length = k ∧ ∀ n ∈ N, n < 1048576) ⟨[], n, none, rfl, s1, a1, rfl, (fun n h => by cases h)⟩ ?_ ?_
      · rintro k σ' H' hk ⟨N, r, v4, rfl, hs, hpl, hN, hlt⟩
        walk_at "rq"
        refine ⟨.inl ⟨rfl, _, SqL.of hpl⟩, ?_⟩
        walk_at "rq"
        rw [show (r : Int) % 1048576 = ((r % 1048576 : Nat) : Int) by omega]
        refine ⟨p, _, .int ((r % 1048576 : Nat) : Int), rfl, rfl, hpl, by rw [sizeLine_eq, List.length_map]; omega, ?_⟩
        walk_at "rq"
        rw [show (r : Int) / 1048576 = ((r / 1048576 : Nat) : Int) by omega]
        refine ⟨N ++ [r % 1048576], r / 1048576, _, rfl, Same.mut hs hp, ?_, by rw [List.length_append, hN]; rfl, ?_⟩
        · rw [upd_same, List.map_append]; rfl
        · intro x hx
          rcases List.mem_append.mp hx with hx | hx
          · exact hlt x hx
          · rw [List.mem_singleton] at hx
            omega
      · rintro σ' H' ⟨N, r, v4, rfl, hs, hpl, hN, hlt⟩
        walk_at "rq"
        exact kq p N H' hs hpl hN hlt
    · have h1 := of_decide_eq_false h1
      walk_at "rq"
      refine ⟨by omega, by omega, ?_⟩
      rw [show ((m : Int)).toNat = m by omega]
      refine for_range (lo := 0) (n := m) (fun k σ' H' => ∃ (N : List Nat) (r : Nat) (v4 : Option V), σ' = [some (.int c), some (.int (m : Int)), some (.ref p), some (.int (r : Int)), v4] ∧ Same H H' ∧ H' p = some (.lst (N.map fun (n : Nat) => V.int (n : Int))) ∧ N.length = k ∧ (∀ n ∈ N, n < 1048576) ∧ r < 1000000000000000000) ⟨[], n, none, rfl, s1, a1, rfl, (fun n h => by cases h), by omega⟩ ?_ ?_
      · rintro k σ' H' hk ⟨N, r, v4, rfl, hs, hpl, hN, hlt, hr1⟩
        walk_at "rq"
        refine r_I (mulA (a := 64) (b := 64) (by omega) (by omega) (by decide)) ?_
        walk_at "rq"
        refine r_I (mulA (a := 64) (b := 64) (by omega) (by omega) (by decide)) ?_
        walk_at "rq"
        rw [show ((r : Int) * 48271 + (0 + (k : Int)) * 7919 + 11) % 2147483647 = (((r * 48271 + k * 7919 + 11) % 2147483647 : Nat) : Int) by omega]
        have hr2 : (r * 48271 + k * 7919 + 11) % 2147483647 < 2147483647 := Nat.mod_lt _ (by decide)
        generalize (r * 48271 + k * 7919 + 11) % 2147483647 = r2 at *
        refine ⟨.inl ⟨rfl, _, SqL.of hpl⟩, ?_⟩
        walk_at "rq"
        refine r_I (mulA (a := 64) (b := 64) (by omega) (by omega) (by decide)) ?_
        walk_at "rq"
        rw [show ((r2 : Int) * 69621) % 2147483629 % 1048576 = ((r2 * 69621 % 2147483629 % 1048576 : Nat) : Int) from by rw [Int.natCast_emod, Int.natCast_emod, Int.natCast_mul] <;> rfl]
        refine ⟨p, _, .int ((r2 * 69621 % 2147483629 % 1048576 : Nat) : Int), rfl, rfl, hpl, by rw [sizeLine_eq, List.length_map]; omega, ?_⟩
        walk_at "rq"
        refine ⟨N ++ [r2 * 69621 % 2147483629 % 1048576], r2, _, rfl, Same.mut hs hp, ?_, by rw [List.length_append, hN]; rfl, ?_, by omega⟩
        · rw [upd_same, List.map_append]; rfl
        · intro x hx
          rcases List.mem_append.mp hx with hx | hx
          · exact hlt x hx
          · rw [List.mem_singleton] at hx
            omega
      · rintro σ' H' ⟨N, r, v4, rfl, hs, hpl, hN, hlt, _⟩
        walk_at "rq"
        exact kq p N H' hs hpl hN hlt
abbrev s_law_dot : Stmt := top 18
theorem sc_law_dot : FnScope ["_law_one", "_law_two", "_law_k"] ["_law_one", "_law_two"] (defScope s_law_dot) := ⟨rfl, rfl, rfl, by decide +kernel, rfl, by decide +kernel, by decide +kernel⟩
theorem cal_law_dot (dx : DefAt K mg "_law_dot" s_law_dot) (B : Bl mg) : Cal P w K mg base 1 "_law_dot" ["_law_one", "_law_two"] spDot := by
  refine cal_mk dx sc_law_dot (fun _ _ _ _ _ _ us hl => match us, hl with | [_, _], _ => rfl) (fun vs H Q E h => ?_) (fun fn cdv AA outer s H vs Q E hr h => ?_)
  · obtain ⟨a, b, f, g, n, m, p, q, rfl, _⟩ := h
    rfl
  · obtain ⟨a, b, f, g, n, m, p, q, rfl, ha, hb, hnm, hn, hf, hg, hpq, kq⟩ := h
    refine ⟨_, (pss_one (ps_ret (pe_callB (cr_sumK (K := K) rfl rfl) (by rfl) B.sum (by decide +kernel) (pa_cons (pe_lc (own := [("_law_k", 2)]) rfl sc_law_dot.nd (pi_range1 (by rfl) B.range (pa_cons (pe_callB call_len_seq (by rfl) B.len PySem.boot_len (pa_cons (pv 0) pa_nil)) pa_nil)) (blkOk_by (N := ["_law_one", "_law_two", "_law_k"]) (sc := defScope s_law_dot) (by decide +kernel)) (fun _ _ _ _ _ => (pg_name (i := 2) sc_law_dot.nd rfl (Or.inl rfl))) (fun _ _ _ _ _ => pts_nil) (fun _ _ _ _ _ => (pe_op op_mulA (pe_ix (ix_listK (K := K) rfl) (pv 0) (pv 2) (fun _ _ => rfl)) (pe_ix (ix_listK (K := K) rfl) (pv 1) (pv 2) (fun _ _ => rfl))))) pa_nil)))), ?_⟩
    walk_at "rq"
    refine ⟨a, _, rfl, .inl (SqL.of ha), ?_⟩
    walk_at "rq"
    rw [intsV_len]
    refine ⟨by omega, by omega, fun D hD => ?_⟩
    rw [show ((n : Int)).toNat = n by omega]
    refine lcw_range (lo := 0) (n := n) (fun i H' => Same H H' ∧ H' D = some (.lst (intsV (fun i => f i * g i) i))) ⟨Same.new hD, upd_same⟩ ?_ ?_
    · rintro i H1 hi ⟨s1, h1⟩
      walk_at "rq"
      rw [show (0 : Int) + (i : Int) = ((i : Nat) : Int) by omega]
      refine r_ixL (SqL.of (s1 _ _ ha)) (intsV_get hi) ?_
      walk_at "rq"
      refine r_ixL (SqL.of (s1 _ _ hb)) (intsV_get (by omega)) ?_
      refine r_I (mulA (hf i hi) (hg i hi) (by omega)) ?_
      refine ⟨_, h1, by rw [sizeLine_eq, intsV_len]; omega, Same.mut s1 hD, ?_⟩
      rw [upd_same, intsV_succ]
    · rintro H1 ⟨s1, h1⟩
      walk_at "rq"
      refine ⟨D, (List.range n).map fun i => f i * g i, rfl, SqL.of (by rw [List.map_map]; exact h1), ?_⟩
      rw [sum_range]
      walk_at "rq"
      exact kq H1 s1
end
end Al
namespace Al
open PySem PySem.Spec PyProof.Rows L2 NdefX PySem.W
local macro_rules | `(tactic| walk_at "rd1") => `(tactic| with_reducible first
  | (show tVar _ _ _ _; refine r_var (by with_unfolding_all rfl) ?_) | refine r_c ?_ | refine r_op ?_ | refine r_I0 ?_ | refine r_un ?_ | refine r_U ?_
  | (show rI _ _ _ _ _ _; refine r_I (by with_unfolding_all first | exact ⟨by decide, by decide⟩ | (show (0 : Int) < _; decide)) ?_)
  | refine r_eqI ?_ | refine r_neI ?_ | refine r_eqS ?_ | refine r_neS ?_ | refine r_eqB ?_ | refine r_neB ?_ | refine r_chain ?_
  | refine r_test ?_ | refine r_B ?_ | refine r_bl ?_ | refine r_int ?_ | refine r_and ?_ | refine r_or ?_ | refine r_not ?_ | refine r_andV ?_ | refine r_orV ?_ | refine r_notV ?_
  | refine r_if ?_ | refine r_nil ?_ | refine r_cons ?_ | refine r_cb ?_ | refine r_call ?_ | refine r_callS ?_ | refine r_tup ?_ | refine r_lst ?_ | refine r_seq ?_ | refine r_next ?_ | refine r_asg ?_
  | refine r_name ?_ | refine r_ifS ?_ | refine r_ret ?_ | refine r_retN ?_ | refine r_drop ?_ | refine r_brk ?_ | refine r_ct ?_ | refine r_sl ?_ | refine r_part ?_ | refine r_nopart ?_
  | refine r_bm ?_ | refine r_bm0 ?_ | refine r_raiseX ?_ | refine r_mkO ?_ | refine iteF ?_ | refine iteT ?_ | refine r_int1 ?_ | refine r_int1b ?_ | (show _ ≤ sizeLine ∧ _; refine r_sz (by with_unfolding_all first | omega | (simp only [List.length_cons, List.length_nil]; omega)) ?_)
  | (show ∃ _, _; refine ⟨_, rfl, ?_⟩) | (show ∃ _, _; refine ⟨_, _, rfl, rfl, ?_⟩) | (show ∃ _, _; refine ⟨_, _, rfl, ?_⟩))
local macro_rules | `(tactic| walk_at "rd") => `(tactic| repeat (walk_at "rd1"))
local macro_rules | `(tactic| walk_at "rd2") => `(tactic| with_reducible first
  | (show tFld _ _ _ _ _ _; refine r_fldI (by with_unfolding_all rfl) (by with_unfolding_all assumption) (by with_unfolding_all assumption) (by with_unfolding_all assumption) (by with_unfolding_all rfl) ?_)
  | (show tMetS _ _ _ _ _ _ _ _ _; refine r_rm (by with_unfolding_all assumption) (by with_unfolding_all rfl) (by decide) ?_)
  | refine r_sfl ?_ | refine iteNF ?_ | refine iteNT ?_ | refine r_makS ?_)
local macro_rules | `(tactic| walk_at "rp") => `(tactic| repeat first | walk_at "rd1" | walk_at "rd2")
local macro_rules | `(tactic| walk_at "rq1") => `(tactic| with_reducible first | refine r_rng1 ?_ | refine r_rng2 ?_ | refine r_forL ?_ | refine r_forT ?_ | refine r_dget ?_ | refine r_pnil ?_ | refine r_pcons ?_ | refine r_lcL ?_ | refine r_lcT ?_ | refine r_lcR ?_ | refine r_yes ?_ | refine r_disp ?_)
local macro_rules | `(tactic| walk_at "rq") => `(tactic| repeat first | walk_at "rd1" | walk_at "rd2" | walk_at "rq1")

def natsV (N : List Nat) : List V := N.map fun (n : Nat) => V.int (n : Int)
theorem natsV_get {N : List Nat} {i : Nat} (h : i < N.length) : (natsV N)[i]? = some (.int ((N.getD i 0 : Nat) : Int)) := by
  unfold natsV
  rw [List.getElem?_map, List.getD_eq_getElem?_getD, List.getElem?_eq_getElem h]
  rfl
theorem nums_lt {N : List Nat} (h : ∀ n ∈ N, n < 1048576) (i : Nat) : N.getD i 0 < 1048576 := by
  rw [List.getD_eq_getElem?_getD]
  cases e : N[i]? with
  | none => decide
  | some y => exact h y (List.mem_of_getElem? e)
theorem Mat.snoc' {H : Hp} {a : Addr} {as : List Addr} {M : Nat → Nat → Int} {m i : Nat} {D2 : Addr} {g : Nat → Int} (h : Mat H a as M i m) (h2 : H D2 = some (.lst (intsV g m))) (h3 : D2 ∉ as) (h4 : D2 ≠ a) :
    Mat (upd H a (.lst (as.map V.ref ++ [.ref D2]))) a (as ++ [D2]) (fun r k => if r = i then g k else M r k) (i + 1) m := by
  refine Mat.snoc (h.congr fun k hk r _ => by rw [if_neg (by omega)]) ?_ h3 h4
  rw [h2]
  refine congrArg (fun l => some (HO.lst l)) ?_
  unfold intsV rowV
  exact List.map_congr_left fun q _ => by show V.int (g q) = V.int (if i = i then g q else M i q); rw [if_pos rfl]
def spRows : Sp := fun vs H Q _ => ∃ (na : Addr) (N : List Nat) (n : Nat), vs = [.ref na, .int (n : Int)] ∧ H na = some (.lst (natsV N)) ∧ N.length = 50 ∧ (∀ x ∈ N, x < 1048576) ∧ n ≤ 8 ∧
  ∀ (a : Addr) (rs : List Addr) (A : Nat → Nat → Int) (m : Nat) (H' : Hp), Same H H' → m ≤ 10 → Mat H' a rs A m n → (∀ r, r < m → ∀ k, k < n → (A r k).natAbs ≤ 2 ^ 19) → Q (.ref a) H'
section
variable {P : Program} {w : World} {K : Frag} {mg : Str → Option Value} {base : Heap}
abbrev s_law_rows : Stmt := top 19
theorem sc_law_rows : FnScope ["_law_numbers_here", "_law_count", "_law_rows_here", "_law_k", "_law_factor", "_law_j", "_law_great", "_law_table"] ["_law_numbers_here", "_law_count"] (defScope s_law_rows) := ⟨rfl, rfl, rfl, by decide +kernel, rfl, by decide +kernel, by decide +kernel⟩
theorem cal_law_rows (dx : DefAt K mg "_law_rows" s_law_rows) (B : Bl mg) : Cal P w K mg base 1 "_law_rows" ["_law_numbers_here", "_law_count"] spRows := by
  refine cal_mk dx sc_law_rows (fun _ _ _ _ _ _ us hl => match us, hl with | [_, _], _ => rfl) (fun vs H Q E h => ?_) (fun fn cdv AA outer s H vs Q E hr h => ?_)
  · obtain ⟨na, N, n, rfl, _⟩ := h
    rfl
  · obtain ⟨na, N, n, rfl, hna, hNl, hN, hn, kq⟩ := h
    refine ⟨_, (pss_cons (ps_set (i := 2) sc_law_rows.nd rfl (Or.inr rfl) (pe_lst pa_nil))
      (pss_cons (ps_for (passes_of rfl) rfl (pi_range1 (by rfl) B.range (pa_cons (pe_op op_mod (pe_callTy call_int1 (by rfl) B.int (by decide +kernel) (pa_cons (pe_ix ix_list (pv 0) pe_int (fun _ _ => rfl)) pa_nil)) pe_int) pa_nil)) (pg_name (i := 3) sc_law_rows.nd rfl (by first | exact Or.inl rfl | exact Or.inr rfl))
      (pss_one (ps_if (PW.pt (pw_and (pt_cmpR op_gt (pv 3) pe_int (nomark _)) (pw_and1 (pt_cmpR op_eq (pe_op op_mod (pe_callTy call_int1 (by rfl) B.int (by decide +kernel) (pa_cons (pe_op op_fdiv (pe_ix ix_list (pv 0) (pv 3) (fun _ _ => rfl)) pe_int) pa_nil)) pe_int) pe_int (nomark _)))))
      (pss_cons (ps_set (i := 4) sc_law_rows.nd rfl (Or.inr rfl) (pe_op op_sub (pe_op op_mod (pe_callTy call_int1 (by rfl) B.int (by decide +kernel) (pa_cons (pe_op op_fdiv (pe_ix ix_list (pv 0) (pv 3) (fun _ _ => rfl)) pe_int) pa_nil)) pe_int) pe_int))
      (pss_one (ps_expr (pe_bm PySem.F.plainAttrs_list PySem.F.slot_list_append PySem.F.type_list_append mt_append (pv 2) (pa_cons (pe_lc (own := [("_law_j", 5)]) rfl sc_law_rows.nd (pi_range1 (by rfl) B.range (pa_cons (pv 1) pa_nil)) (blkOk_by (N := ["_law_numbers_here", "_law_count", "_law_rows_here", "_law_k", "_law_factor", "_law_j", "_law_great", "_law_table"]) (sc := defScope s_law_rows) (by decide +kernel)) (fun _ _ _ _ _ => (pg_name (i := 5) sc_law_rows.nd rfl (Or.inl rfl))) (fun _ _ _ _ _ => pts_nil) (fun _ _ _ _ _ => (pe_op op_add (pe_ix (ix_listK (K := K) rfl) (pe_ix (ix_listK (K := K) rfl) (pv 2) pe_int (fun _ _ => rfl)) (pv 5) (fun _ _ => rfl)) (pe_op op_mulA (pv 4) (pe_ix (ix_listK (K := K) rfl) (pe_ix (ix_listK (K := K) rfl) (pv 2) pe_int (fun _ _ => rfl)) (pv 5) (fun _ _ => rfl)))))) pa_nil)))))
      (pss_cons (ps_set (i := 6) sc_law_rows.nd rfl (Or.inl rfl) (pe_cmpR op_eq (pe_op op_mod (pe_callTy call_int1 (by rfl) B.int (by decide +kernel) (pa_cons (pe_ix ix_list (pv 0) pe_int (fun _ _ => rfl)) pa_nil)) pe_int) pe_int (nomark _)))
      (pss_cons (ps_set (i := 7) sc_law_rows.nd rfl (Or.inr rfl) (pe_ix ix_list (pe_lst (pa_cons (pe_lst (pa_cons pe_int (pa_cons pe_int (pa_cons pe_int (pa_cons (pe_op op_sub pe_int pe_int) (pa_cons pe_int (pa_cons pe_int (pa_cons pe_int (pa_cons (pe_op op_sub pe_int pe_int) pa_nil))))))))) (pa_cons (pe_lst (pa_cons pe_int (pa_cons pe_int (pa_cons pe_int (pa_cons (pe_op op_sub pe_int pe_int) (pa_cons pe_int (pa_cons pe_int (pa_cons (pe_op op_sub pe_int pe_int) (pa_cons pe_int pa_nil))))))))) pa_nil))) (pe_callTy call_int1 (by rfl) B.int (by decide +kernel) (pa_cons (pv 6) pa_nil)) (fun _ _ => rfl)))
      (pss_one (ps_expr (pe_bm PySem.F.plainAttrs_list PySem.F.slot_list_append PySem.F.type_list_append mt_append (pv 2) (pa_cons (pe_lc (own := [("_law_j", 5)]) rfl sc_law_rows.nd (pi_range1 (by rfl) B.range (pa_cons (pv 1) pa_nil)) (blkOk_by (N := ["_law_numbers_here", "_law_count", "_law_rows_here", "_law_k", "_law_factor", "_law_j", "_law_great", "_law_table"]) (sc := defScope s_law_rows) (by decide +kernel)) (fun _ _ _ _ _ => (pg_name (i := 5) sc_law_rows.nd rfl (Or.inl rfl))) (fun _ _ _ _ _ => pts_nil) (fun _ _ _ _ _ => (pe_ix (ix_listK (K := K) rfl) (pv 7) (pe_op op_mod (pe_callTy call_int1 (by rfl) B.int (by decide +kernel) (pa_cons (pe_op op_fdiv (pe_ix (ix_listK (K := K) rfl) (pv 0) (pe_op op_mod (pe_op op_add (pe_op op_add (pe_op op_mulA pe_int (pv 3)) (pv 5)) pe_int) pe_int) (fun _ _ => rfl)) (pe_op op_add pe_int (pv 3))) pa_nil)) pe_int) (fun _ _ => rfl)))) pa_nil)))))))))
      (pss_one (ps_ret (pv 2))))), ?_⟩
    walk_at "rq"
    intro a ha
    have s1 : Same H (upd H a (.lst [])) := Same.new ha
    have m1 : Mat (upd H a (.lst [])) a [] (fun _ _ => 0) 0 n := Mat.empty a
    generalize upd H a (.lst []) = H1 at *
    walk_at "rq"
    refine r_ixL (n := 0) (SqL.of (s1 _ _ hna)) (natsV_get (by omega)) ?_
    walk_at "rq"
    have hN0 := nums_lt hN
    rw [show ((N.getD 0 0 : Nat) : Int) % 11 = ((N.getD 0 0 % 11 : Nat) : Int) by omega]
    refine ⟨by omega, by omega, ?_⟩
    rw [show (((N.getD 0 0 % 11 : Nat) : Int)).toNat = N.getD 0 0 % 11 by omega]
    have hm10 : N.getD 0 0 % 11 ≤ 10 := by omega
    generalize N.getD 0 0 % 11 = m at *
    refine for_range (lo := 0) (n := m) (fun k σ' H' => ∃ (v3 v4 v5 v6 v7 : Option V) (rs : List Addr) (A : Nat → Nat → Int), σ' = [some (.ref na), some (.int (n : Int)), some (.ref a), v3, v4, v5, v6, v7] ∧ Same H H' ∧ Mat H' a rs A k n ∧ (∀ r, r < k → ∀ q, q < n → (A r q).natAbs ≤ 2 ^ 19) ∧ ∀ r, r < 2 → r < k → ∀ q, q < n → (A r q).natAbs ≤ 90000)
      ⟨_, _, _, _, _, _, _, rfl, s1, m1, fun r h => by omega, fun r _ h => by omega⟩ ?_ ?_
    · rintro k σ' H2 hk ⟨v3, v4, v5, v6, v7, rs, A, rfl, s2, hA, hb, hb2⟩
      have hk10 : k < 10 := by omega
      have hNk := hN0 k
      walk_at "rq"
      rw [show (0 : Int) + (k : Int) = ((k : Nat) : Int) by omega]
      have hN2 : SqL K H2 na (natsV N) := SqL.of (s2 _ _ hna)
      refine r_ite ?gA ?gB
      case' gA =>
        intro h1
        have h1 := of_decide_eq_true h1
        walk_at "rq"
        refine r_ixL hN2 (natsV_get (by omega)) ?_
        walk_at "rq"
        refine r_ite ?gC ?gD
      case gC =>
        intro h2
        have hk2 : 2 ≤ k := by omega
        walk_at "rq"
        refine r_ixL hN2 (natsV_get (by omega)) ?_
        walk_at "rq"
        have hf : ∃ f : Int, ((N.getD k 0 : Nat) : Int) / 21 % 5 - 2 = f ∧ f.natAbs ≤ 2 := ⟨_, rfl, by omega⟩
        obtain ⟨f, ef, hf⟩ := hf
        rw [ef]
        refine ⟨.inl ⟨rfl, _, SqL.of hA.l⟩, ?_⟩
        walk_at "rq"
        refine ⟨by omega, by omega, fun D hD => ?_⟩
        rw [show ((n : Int)).toNat = n by omega]
        refine lcw_range (lo := 0) (n := n) (fun i H' => Same H2 H' ∧ H' D = some (.lst (intsV (fun j => A 0 j + f * A 1 j) i))) ⟨Same.new hD, upd_same⟩ ?_ ?_
        · rintro i H3 hi ⟨s3, h3⟩
          have hA3 := hA.keep s3
          obtain ⟨b0, _, hb0, hr0, _⟩ := hA3.at_ (k := 0) (by omega)
          obtain ⟨b1, _, hb1, hr1, _⟩ := hA3.at_ (k := 1) (by omega)
          have hA1 := hb2 1 (by omega) (by omega) i hi
          walk_at "rq"
          rw [show (0 : Int) + (i : Int) = ((i : Nat) : Int) by omega]
          refine r_ixL (n := 0) (SqL.of hA3.l) hr0 ?_
          walk_at "rq"
          refine r_ixL (SqL.of hb0) (rowV_get hi) ?_
          walk_at "rq"
          refine r_ixL (n := 1) (SqL.of hA3.l) hr1 ?_
          walk_at "rq"
          refine r_ixL (SqL.of hb1) (rowV_get hi) ?_
          refine r_I (mulA (a := 64) (b := 64) (by omega) (by omega) (by decide)) ?_
          walk_at "rq"
          refine ⟨_, h3, by rw [sizeLine_eq, intsV_len]; omega, Same.mut s3 hD, ?_⟩
          rw [upd_same, intsV_succ]
        · rintro H3 ⟨s3, h3⟩
          have hA3 := hA.keep s3
          obtain ⟨f1, f2⟩ := hA.fresh hD
          walk_at "rq"
          refine ⟨a, _, .ref D, rfl, rfl, hA3.l, by rw [sizeLine_eq, List.length_map, hA3.len]; omega, ?_⟩
          walk_at "rq"
          refine ⟨_, _, _, _, _, _, _, rfl, Same.mut (fun b o h => s3 _ _ (s2 _ _ h)) ha, hA3.snoc' h3 f1 f2, fun r hr q hq => ?_, fun r hr2 hr q hq => ?_⟩
          · by_cases e : r = k
            · rw [if_pos e]
              have e0 := hb2 0 (by omega) (by omega) q hq
              have e1 := hb2 1 (by omega) (by omega) q hq
              have e2 : (f * A 1 q).natAbs ≤ 2 * 90000 := by rw [Int.natAbs_mul]; exact Nat.mul_le_mul hf e1
              omega
            · rw [if_neg e]
              exact hb r (by omega) q hq
          · rw [if_neg (by omega)]
            exact hb2 r hr2 (by omega) q hq
      all_goals
        intro _
        walk_at "rq"
        refine r_ixL (n := 46) hN2 (natsV_get (by omega)) ?_
        walk_at "rq"
        intro t0 ht0
        have a0 : upd H2 t0 (.lst [.int 0, .int 0, .int 1, .int (0 - 1), .int 2, .int 3, .int 6, .int (0 - 4)]) t0 = some (.lst [.int 0, .int 0, .int 1, .int (0 - 1), .int 2, .int 3, .int 6, .int (0 - 4)]) := upd_same
        have s3 : Same H2 (upd H2 t0 (.lst [.int 0, .int 0, .int 1, .int (0 - 1), .int 2, .int 3, .int 6, .int (0 - 4)])) := Same.new ht0
        generalize upd H2 t0 (.lst [.int 0, .int 0, .int 1, .int (0 - 1), .int 2, .int 3, .int 6, .int (0 - 4)]) = H3 at *
        walk_at "rq"
        intro t1 ht1
        have a1 : upd H3 t1 (.lst [.int 0, .int 60, .int 7001, .int (0 - 45), .int 128, .int 1, .int (0 - 90000), .int 35]) t1 = some (.lst [.int 0, .int 60, .int 7001, .int (0 - 45), .int 128, .int 1, .int (0 - 90000), .int 35]) := upd_same
        have s4 : Same H3 (upd H3 t1 (.lst [.int 0, .int 60, .int 7001, .int (0 - 45), .int 128, .int 1, .int (0 - 90000), .int 35])) := Same.new ht1
        generalize upd H3 t1 (.lst [.int 0, .int 60, .int 7001, .int (0 - 45), .int 128, .int 1, .int (0 - 90000), .int 35]) = H4 at *
        walk_at "rq"
        intro t2 ht2
        have a2 : upd H4 t2 (.lst [.ref t0, .ref t1]) t2 = some (.lst [.ref t0, .ref t1]) := upd_same
        have s5 : Same H4 (upd H4 t2 (.lst [.ref t0, .ref t1])) := Same.new ht2
        generalize upd H4 t2 (.lst [.ref t0, .ref t1]) = H5 at *
        have s25 : Same H2 H5 := fun b o h => s5 _ _ (s4 _ _ (s3 _ _ h))
        walk_at "rq"
        generalize decide (((N.getD 46 0 : Nat) : Int) % 5 = 0) = g at *
        have hT : ∃ (i : Nat) (t : Addr) (L : List Int), (if g = true then (1 : Int) else 0) = (i : Int) ∧ ([V.ref t0, .ref t1])[i]? = some (.ref t) ∧ H5 t = some (.lst (L.map V.int)) ∧ L.length = 8 ∧ ∀ x ∈ L, x.natAbs ≤ 90000 := by
          cases g with
          | true => exact ⟨1, t1, [0, 60, 7001, 0 - 45, 128, 1, 0 - 90000, 35], rfl, rfl, s5 _ _ a1, rfl, by decide⟩
          | false => exact ⟨0, t0, [0, 0, 1, 0 - 1, 2, 3, 6, 0 - 4], rfl, rfl, s5 _ _ (s4 _ _ a0), rfl, by decide⟩
        obtain ⟨i, t, L, ei, hi, hL, hL8, hLb⟩ := hT
        rw [ei]
        refine r_ixL (SqL.of a2) hi ?_
        have hA5 := hA.keep s25
        walk_at "rq"
        refine ⟨.inl ⟨rfl, _, SqL.of hA5.l⟩, ?_⟩
        walk_at "rq"
        refine ⟨by omega, by omega, fun D hD => ?_⟩
        rw [show ((n : Int)).toNat = n by omega]
        refine lcw_range (lo := 0) (n := n) (fun i H' => Same H5 H' ∧ ∃ f : Nat → Int, H' D = some (.lst (intsV f i)) ∧ ∀ q, q < i → (f q).natAbs ≤ 90000) ⟨Same.new hD, fun _ => 0, upd_same, fun q h => by omega⟩ ?_ ?_
        · rintro j H6 hj ⟨s6, f, h6, hf⟩
          walk_at "rq"
          refine r_I (mulA (a := 64) (b := 64) (by omega) (by omega) (by decide)) ?_
          walk_at "rq"
          rw [show (5 * (k : Int) + (0 + (j : Int)) + 1) % 45 = (((5 * k + j + 1) % 45 : Nat) : Int) by omega]
          refine r_ixL (SqL.of (s6 _ _ (s25 _ _ (s2 _ _ hna)))) (natsV_get (by omega)) ?_
          have hd1 : ∃ d : Nat, 1 + (k : Int) = (d : Int) ∧ 0 < d ∧ d < 100 := ⟨1 + k, by omega, by omega, by omega⟩
          obtain ⟨d, ed, hd0, hd1⟩ := hd1
          walk_at "rq"
          rw [ed]
          refine r_I ⟨by omega, by omega⟩ ?_
          walk_at "rq"
          generalize N.getD ((5 * k + j + 1) % 45) 0 = z at *
          rw [show (z : Int) / (d : Int) % 8 = ((z / d % 8 : Nat) : Int) by rw [Int.natCast_emod, Int.natCast_ediv] <;> rfl]
          have hz8 : z / d % 8 < 8 := Nat.mod_lt _ (by decide)
          generalize z / d % 8 = u at *
          have hLu : L[u]? = some (L.getD u 0) := by rw [List.getD_eq_getElem?_getD, List.getElem?_eq_getElem (show u < L.length by omega)]; rfl
          refine r_ixL (SqL.of (s6 _ _ hL)) (v := .int (L.getD u 0)) (by rw [List.getElem?_map, hLu]; rfl) ?_
          refine ⟨_, h6, by rw [sizeLine_eq, intsV_len]; omega, Same.mut s6 hD, fun q => if q = j then L.getD u 0 else f q, ?_, fun q hq => ?_⟩
          · rw [upd_same, intsV_succ, if_pos rfl]
            refine congrArg (fun l => some (HO.lst (l ++ [V.int (L.getD u 0)]))) ?_
            unfold intsV
            exact List.map_congr_left fun q hq => by dsimp only; rw [if_neg (by have := List.mem_range.mp hq; omega)]
          · dsimp only
            by_cases e : q = j
            · rw [if_pos e]
              exact hLb _ (List.mem_of_getElem? hLu)
            · rw [if_neg e]
              exact hf q (by omega)
        · rintro H6 ⟨s6, f, h6, hf⟩
          have hA6 := hA5.keep s6
          obtain ⟨f1, f2⟩ := hA5.fresh hD
          walk_at "rq"
          refine ⟨a, _, .ref D, rfl, rfl, hA6.l, by rw [sizeLine_eq, List.length_map, hA6.len]; omega, ?_⟩
          walk_at "rq"
          refine ⟨_, _, _, _, _, _, _, rfl, Same.mut (fun b o h => s6 _ _ (s25 _ _ (s2 _ _ h))) ha, hA6.snoc' h6 f1 f2, fun r hr q hq => ?_, fun r hr2 hr q hq => ?_⟩
          · by_cases e : r = k
            · rw [if_pos e]
              exact Nat.le_trans (hf q hq) (by decide)
            · rw [if_neg e]
              exact hb r (by omega) q hq
          · by_cases e : r = k
            · rw [if_pos e]
              exact hf q hq
            · rw [if_neg e]
              exact hb2 r hr2 (by omega) q hq
    · rintro σ' H2 ⟨v3, v4, v5, v6, v7, rs, A, rfl, s2, hA, hb, hb2⟩
      walk_at "rq"
      exact kq a rs A m H2 s2 hm10 hA hb
end
end Al
namespace Al
open PySem PySem.Spec PyProof.Rows L2 NdefX PySem.W
local macro_rules | `(tactic| walk_at "rd1") => `(tactic| with_reducible first
  | (show tVar _ _ _ _; refine r_var (by with_unfolding_all rfl) ?_) | refine r_c ?_ | refine r_op ?_ | refine r_I0 ?_ | refine r_un ?_ | refine r_U ?_
  | (show rI _ _ _ _ _ _; refine r_I (by with_unfolding_all first | exact ⟨by decide, by decide⟩ | (show (0 : Int) < _; decide)) ?_)
  | refine r_eqI ?_ | refine r_neI ?_ | refine r_eqS ?_ | refine r_neS ?_ | refine r_eqB ?_ | refine r_neB ?_ | refine r_chain ?_
  | refine r_test ?_ | refine r_B ?_ | refine r_bl ?_ | refine r_int ?_ | refine r_and ?_ | refine r_or ?_ | refine r_not ?_ | refine r_andV ?_ | refine r_orV ?_ | refine r_notV ?_
  | refine r_if ?_ | refine r_nil ?_ | refine r_cons ?_ | refine r_cb ?_ | refine r_call ?_ | refine r_callS ?_ | refine r_tup ?_ | refine r_lst ?_ | refine r_seq ?_ | refine r_next ?_ | refine r_asg ?_
  | refine r_name ?_ | refine r_ifS ?_ | refine r_ret ?_ | refine r_retN ?_ | refine r_drop ?_ | refine r_brk ?_ | refine r_ct ?_ | refine r_sl ?_ | refine r_part ?_ | refine r_nopart ?_
  | refine r_bm ?_ | refine r_bm0 ?_ | refine r_raiseX ?_ | refine r_mkO ?_ | refine iteF ?_ | refine iteT ?_ | refine r_int1 ?_ | refine r_int1b ?_ | (show _ ≤ sizeLine ∧ _; refine r_sz (by with_unfolding_all first | omega | (simp only [List.length_cons, List.length_nil]; omega)) ?_)
  | (show ∃ _, _; refine ⟨_, rfl, ?_⟩) | (show ∃ _, _; refine ⟨_, _, rfl, rfl, ?_⟩) | (show ∃ _, _; refine ⟨_, _, rfl, ?_⟩))
local macro_rules | `(tactic| walk_at "rd") => `(tactic| repeat (walk_at "rd1"))
local macro_rules | `(tactic| walk_at "rd2") => `(tactic| with_reducible first
  | (show tFld _ _ _ _ _ _; refine r_fldI (by with_unfolding_all rfl) (by with_unfolding_all assumption) (by with_unfolding_all assumption) (by with_unfolding_all assumption) (by with_unfolding_all rfl) ?_)
  | (show tMetS _ _ _ _ _ _ _ _ _; refine r_rm (by with_unfolding_all assumption) (by with_unfolding_all rfl) (by decide) ?_)
  | refine r_sfl ?_ | refine iteNF ?_ | refine iteNT ?_ | refine r_makS ?_)
local macro_rules | `(tactic| walk_at "rp") => `(tactic| repeat first | walk_at "rd1" | walk_at "rd2")
local macro_rules | `(tactic| walk_at "rq1") => `(tactic| with_reducible first | refine r_rng1 ?_ | refine r_rng2 ?_ | refine r_forL ?_ | refine r_forT ?_ | refine r_dget ?_ | refine r_pnil ?_ | refine r_pcons ?_ | refine r_lcL ?_ | refine r_lcT ?_ | refine r_lcR ?_ | refine r_yes ?_ | refine r_disp ?_)
local macro_rules | `(tactic| walk_at "rq") => `(tactic| repeat first | walk_at "rd1" | walk_at "rd2" | walk_at "rq1")

theorem op_fdivB {X : Cx} {K : Frag} {P : Program} (Z : Seer K P) {e0 : Env} {l : List Env} (hK : X.K = K) (hP : X.prog = P) (hst : X.stack = e0 :: l) (hg : e0.scope.isGenerator = false) (hc : e0.scope.isCoroutine = false) (hb : e0.builtins = builtinsNs) (hgl : e0.globals = mainGlobals) (hd : X.A.depth + 105 < recursionLimit) :
    OpR X (binaryOp .FloorDiv) (rI (fun _ j => j ≠ 0) fun i j => .int (i.fdiv j)) := by
  subst hK hP
  intro pins s σ H x y v u Q I rx ry h
  obtain ⟨i, j, rfl, rfl, c, q⟩ := h
  obtain ⟨t, rfl⟩ := rx
  obtain ⟨t2, rfl⟩ := ry
  refine floordiv_int c ⟨.int (i.fdiv j), H, I.tok _, ⟨_, rfl⟩, q⟩ (.inr ?_)
  refine PylongRoom.of I.nolimit (Nat.lt_of_le_of_lt (Nat.add_le_add_left (by decide) _) hd) ?_
  exact SeerAt.of (Z.no I) Z.g (by rw [I.ok.frames, hst]) hg hc hb hgl
/-- the product of the bottoms -/
def bT (ws : List (Int × Int)) : Nat → Int
  | 0 => 1
  | i + 1 => bT ws i * (ws.getD i (0, 1)).2
section
variable {ws : List (Int × Int)} {p : Nat}
theorem ws_mem {i : Nat} (h : i < ws.length) : ws.getD i (0, 1) ∈ ws := by
  rw [List.getD_eq_getElem?_getD, List.getElem?_eq_getElem h]
  exact List.getElem_mem _
theorem bT_pos (h : ∀ w ∈ ws, 0 < w.2) : ∀ i, i ≤ ws.length → 0 < bT ws i
  | 0, _ => by show (0 : Int) < 1; decide
  | i + 1, hi => Int.mul_pos (bT_pos h i (by omega)) (h _ (ws_mem hi))
theorem bT_lt (h : ∀ w ∈ ws, w.2.natAbs < 2 ^ p) : ∀ i, i ≤ ws.length → (bT ws i).natAbs < 2 ^ (i * p + 1)
  | 0, _ => by show (1 : Int).natAbs < 2 ^ (0 * p + 1); rw [Nat.zero_mul]; decide
  | i + 1, hi => by
    have h1 := bT_lt h i (by omega)
    have e1 : (i + 1) * p + 1 = i * p + 1 + p := by rw [Nat.succ_mul]; omega
    rw [e1]
    exact mul_lt2 h1 (Nat.le_of_lt (h _ (ws_mem hi)))
theorem bT_dvd {k : Nat} : ∀ i, k < i → (ws.getD k (0, 1)).2 ∣ bT ws i
  | 0, h => by omega
  | i + 1, h => by
    by_cases e : k = i
    · rw [e]
      exact Int.dvd_mul_left _ _
    · exact Int.dvd_trans (bT_dvd i (by omega)) (Int.dvd_mul_right _ _)
/-- a sum over the common bottom is whole when the bottom divides it -/
theorem whole_iff {R : Nat → Int} {m : Nat} (hm : m ≤ ws.length) (h : ∀ w ∈ ws, 0 < w.2) : (sm m fun k => (ws.getD k (0, 1)).1 * (bT ws ws.length).fdiv (ws.getD k (0, 1)).2 * R k) % bT ws ws.length = 0 ↔ ((sm m fun k => qw ws k * (R k : Rat)).den : Int) = 1 := by
  have hD := bT_pos h _ (Nat.le_refl _)
  have key : ((sm m fun k => (ws.getD k (0, 1)).1 * (bT ws ws.length).fdiv (ws.getD k (0, 1)).2 * R k : Int) : Rat) = (bT ws ws.length : Rat) * sm m fun k => qw ws k * (R k : Rat) := by
    rw [sm_cast, ← sm_mul]
    refine sm_congr fun k hk => ?_
    have hb := h _ (ws_mem (ws := ws) (i := k) (by omega))
    have e1 : (bT ws ws.length).fdiv (ws.getD k (0, 1)).2 * (ws.getD k (0, 1)).2 = bT ws ws.length := by
      rw [Int.fdiv_eq_ediv_of_nonneg _ (Int.le_of_lt hb)]
      exact Int.ediv_mul_cancel (bT_dvd ws.length (by omega))
    generalize (bT ws ws.length).fdiv (ws.getD k (0, 1)).2 = q at *
    rw [← e1]
    unfold qw
    generalize ws.getD k (0, 1) = w at *
    have hb' := cast_ne (Int.ne_of_gt hb)
    have e2 : Rat.divInt w.1 w.2 = (w.1 : Rat) / (w.2 : Rat) := by
      have := over_eq' w.1 w.2 1 1
      rw [Int.mul_one, Int.one_mul, divInt_1, divInt_1] at this
      exact this
    rw [e2, Rat.div_def, icast_mul, icast_mul, icast_mul]
    have e3 : (w.2 : Rat) * (w.2 : Rat)⁻¹ = 1 := Rat.mul_inv_cancel _ hb'
    generalize (w.2 : Rat)⁻¹ = i at *
    generalize (w.2 : Rat) = b at *
    generalize (w.1 : Rat) = a at *
    generalize (R k : Rat) = r at *
    generalize (q : Rat) = q at *
    grind
  generalize (sm m fun k => (ws.getD k (0, 1)).1 * (bT ws ws.length).fdiv (ws.getD k (0, 1)).2 * R k) = S at *
  generalize (sm m fun k => qw ws k * (R k : Rat)) = x at *
  generalize bT ws ws.length = D at *
  have hD' := cast_ne (Int.ne_of_gt hD)
  have inv : (D : Rat)⁻¹ * (D : Rat) = 1 := Rat.inv_mul_cancel _ hD'
  constructor
  · intro hs
    obtain ⟨z, rfl⟩ := Int.dvd_of_emod_eq_zero hs
    rw [icast_mul] at key
    have : x = (z : Rat) := by
      have e : (D : Rat)⁻¹ * ((D : Rat) * (z : Rat)) = (D : Rat)⁻¹ * ((D : Rat) * x) := by rw [key]
      rw [← Rat.mul_assoc, ← Rat.mul_assoc, inv, Rat.one_mul, Rat.one_mul] at e
      exact e.symm
    exact whole_den this
  · intro hx
    have e := den_one hx
    rw [← e, ← icast_mul] at key
    have := congrArg Rat.num key
    rw [Rat.num_intCast, Rat.num_intCast] at this
    rw [this]
    exact Int.mul_emod_right _ _
end
def spWhole (K : Frag) : Sp := fun vs H Q _ => ∃ (wa va : Addr) (us : List V) (ws : List (Int × Int)) (R : Nat → Int) (m p c : Nat), vs = [.ref wa, .ref va] ∧ (H wa = some (.lst us) ∧ All2 (Fr2P K H) us ws ∧ ws.length = m) ∧ H va = some (.lst (intsV R m)) ∧ m ≤ 1000 ∧ (∀ w ∈ ws, 0 < w.2 ∧ w.1.natAbs < 2 ^ p ∧ w.2.natAbs < 2 ^ p) ∧ (∀ r, r < m → (R r).natAbs < 2 ^ c) ∧ (m + 2) * p + c + 10 ≤ 120000000 ∧
  ∀ H', Same H H' → Q (.bl (decide (((sm m fun k => qw ws k * (R k : Rat)).den : Int) = 1))) H'
section
variable {P : Program} {w : World} {K : Frag} {mg : Str → Option Value} {base : Heap}
abbrev s_law_whole : Stmt := top 20
theorem sc_law_whole : FnScope ["_law_weights", "_law_values", "_law_bottom", "_law_top", "_law_one", "_law_k"] ["_law_weights", "_law_values"] (defScope s_law_whole) := ⟨rfl, rfl, rfl, by decide +kernel, rfl, by decide +kernel, by decide +kernel⟩
theorem cal_law_whole (Z : Seer K P) (dx : DefAt K mg "_law_whole" s_law_whole) (B : Bl mg) : Cal P w K mg base 36 "_law_whole" ["_law_weights", "_law_values"] (spWhole K) := by
  refine cal_mk dx sc_law_whole (fun _ _ _ _ _ _ us hl => match us, hl with | [_, _], _ => rfl) (fun vs H Q E h => ?_) (fun fn cdv AA outer s H vs Q E hr h => ?_)
  · obtain ⟨wa, va, us, ws, R, m, p, c, rfl, _⟩ := h
    rfl
  · obtain ⟨wa, va, us, ws, R, m, p, c, rfl, ⟨hwa, hus, hwl⟩, hva, hm, hwb, hRb, hsz, kq⟩ := h
    have hdp : (cxOf (L2N.CX P w) P w K mg base ["_law_weights", "_law_values", "_law_bottom", "_law_top", "_law_one", "_law_k"] "_law_whole" (defScope s_law_whole) fn cdv AA outer s H E).A.depth + 105 < recursionLimit := by
      have := hr.dp
      show (AA.deeper _).depth + 105 < _
      omega
    have hul := All2.len hus
    refine ⟨_, (pss_cons (ps_set (i := 2) sc_law_whole.nd rfl (Or.inr rfl) pe_int)
      (pss_cons (ps_for (passes_of rfl) rfl (pi_list (pv 0)) (pg_tup rfl (pgs_cons (pg_name (i := 3) sc_law_whole.nd rfl (Or.inl rfl)) (pgs_cons (pg_name (i := 4) sc_law_whole.nd rfl (Or.inl rfl)) pgs_nil)))
      (pss_one (ps_set (i := 2) sc_law_whole.nd rfl (Or.inr rfl) (pe_op op_mulA (pv 2) (pv 4)))))
      (pss_one (ps_ret (pe_cmpR op_eq (pe_op op_mod (pe_callTy call_int1 (by rfl) B.int (by decide +kernel) (pa_cons (pe_callB (cr_sumK (K := K) rfl rfl) (by rfl) B.sum (by decide +kernel) (pa_cons (pe_lc (own := [("_law_k", 5)]) rfl sc_law_whole.nd (pi_range1 (by rfl) B.range (pa_cons (pe_callB call_len_seq (by rfl) B.len PySem.boot_len (pa_cons (pv 1) pa_nil)) pa_nil)) (blkOk_by (N := ["_law_weights", "_law_values", "_law_bottom", "_law_top", "_law_one", "_law_k"]) (sc := defScope s_law_whole) (by decide +kernel)) (fun _ _ _ _ _ => (pg_name (i := 5) sc_law_whole.nd rfl (Or.inl rfl))) (fun _ _ _ _ _ => pts_nil) (fun _ _ _ _ _ => (pe_op op_mulA (pe_op op_mulA (pe_ix (ix_tupK (K := K) rfl) (pe_ix (ix_listK (K := K) rfl) (pv 0) (pv 5) (fun _ _ => rfl)) pe_int (fun _ _ => rfl)) (pe_op (op_fdivB Z rfl rfl rfl rfl rfl rfl rfl hdp) (pv 2) (pe_ix (ix_tupK (K := K) rfl) (pe_ix (ix_listK (K := K) rfl) (pv 0) (pv 5) (fun _ _ => rfl)) pe_int (fun _ _ => rfl)))) (pe_ix (ix_listK (K := K) rfl) (pv 1) (pv 5) (fun _ _ => rfl))))) pa_nil)) pa_nil)) (pv 2)) pe_int (nomark _)))))), ?_⟩
    walk_at "rq"
    have hgw : ∀ j, j < m → ws[j]? = some (ws.getD j (0, 1)) := fun j hj => by
      rw [List.getD_eq_getElem?_getD, List.getElem?_eq_getElem (show j < ws.length by omega)]; rfl
    have hlt : ∀ i, i ≤ m → (bT ws i).natAbs < 2 ^ (m * p + 1) := fun i hi => Nat.lt_of_lt_of_le (bT_lt (fun w hw => (hwb w hw).2.2) i (by omega)) (Nat.pow_le_pow_right (by decide) (by
      have : i * p ≤ m * p := Nat.mul_le_mul_right _ hi
      omega))
    have e1 : (m + 2) * p = m * p + p + p := by rw [Nat.add_mul]; omega
    refine ⟨⟨_, SqL.of hwa⟩, ?_⟩
    refine for_list (fun i σ' H' => ∃ (v3 v4 : Option V), σ' = [some (.ref wa), some (.ref va), some (.int (bT ws i)), v3, v4, none] ∧ H = H') ⟨_, _, rfl, rfl⟩ (fun i σ' H' _ h => by obtain ⟨_, _, _, rfl⟩ := h; exact SqL.of hwa) ?_ ?_
    · rintro i v σ' H' hv ⟨v3, v4, rfl, rfl⟩
      have hi : i < m := by rw [← hwl, ← hul]; exact (List.getElem?_eq_some_iff.mp hv).1
      obtain ⟨v', hv', pt, rfl, hpt⟩ := All2.get hus (hgw i hi)
      rw [hv] at hv'
      cases hv'
      refine r_gtup hpt rfl ?_
      refine r_gcons ?_
      walk_at "rq"
      refine r_gcons ?_
      walk_at "rq"
      refine r_gnil ?_
      walk_at "rq"
      refine r_I (mulA (hlt i (by omega)) (hwb _ (ws_mem (by omega))).2.2 (by omega)) ?_
      walk_at "rq"
      rfl
    · rintro σ' H' ⟨v3, v4, rfl, rfl⟩
      rw [hul, hwl]
      have hD := bT_pos (fun w hw => (hwb w hw).1) m (by omega)
      walk_at "rq"
      refine ⟨va, _, rfl, .inl (SqL.of hva), ?_⟩
      rw [intsV_len]
      walk_at "rq"
      refine ⟨by omega, by omega, fun D hD2 => ?_⟩
      rw [show ((m : Int)).toNat = m by omega]
      refine lcw_range (lo := 0) (n := m) (fun i H' => Same H H' ∧ H' D = some (.lst (intsV (fun k => (ws.getD k (0, 1)).1 * (bT ws m).fdiv (ws.getD k (0, 1)).2 * R k) i))) ⟨Same.new hD2, upd_same⟩ ?_ ?_
      · rintro i H1 hi ⟨s1, h1⟩
        obtain ⟨vw, hvw, pt, rfl, hpt⟩ := All2.get (Fr2P.keepA hus s1) (hgw i hi)
        obtain ⟨hb0, hab, hbb⟩ := hwb _ (ws_mem (ws := ws) (i := i) (by omega))
        have hq : ((bT ws m).fdiv (ws.getD i (0, 1)).2).natAbs < 2 ^ (m * p + 1) := by
          have e1 : (bT ws m).fdiv (ws.getD i (0, 1)).2 * (ws.getD i (0, 1)).2 = bT ws m := by
            rw [Int.fdiv_eq_ediv_of_nonneg _ (Int.le_of_lt hb0)]
            exact Int.ediv_mul_cancel (bT_dvd m hi)
          refine Nat.lt_of_le_of_lt ?_ (hlt m (Nat.le_refl _))
          rw [← e1, Int.natAbs_mul, e1]
          exact Nat.le_mul_of_pos_right _ (by omega)
        walk_at "rq"
        rw [show (0 : Int) + (i : Int) = ((i : Nat) : Int) by omega]
        refine r_ixL (SqL.of (s1 _ _ hwa)) hvw ?_
        walk_at "rq"
        refine r_ixT (n := 0) hpt rfl ?_
        walk_at "rq"
        refine r_ixL (SqL.of (s1 _ _ hwa)) hvw ?_
        walk_at "rq"
        refine r_ixT (n := 1) hpt rfl ?_
        refine r_I (Int.ne_of_gt hb0) ?_
        refine r_I (mulA hab hq (by omega)) ?_
        walk_at "rq"
        refine r_ixL (SqL.of (s1 _ _ hva)) (intsV_get hi) ?_
        refine r_I (mulA (mul_lt2 hab (Nat.le_of_lt hq)) (hRb i hi) (by omega)) ?_
        refine ⟨_, h1, by rw [sizeLine_eq, intsV_len]; omega, Same.mut s1 hD2, ?_⟩
        rw [upd_same, intsV_succ]
      · rintro H1 ⟨s1, h1⟩
        walk_at "rq"
        refine ⟨D, (List.range m).map fun k => (ws.getD k (0, 1)).1 * (bT ws m).fdiv (ws.getD k (0, 1)).2 * R k, rfl, SqL.of (by rw [List.map_map]; exact h1), ?_⟩
        rw [sum_range]
        walk_at "rq"
        have e := whole_iff (R := R) (m := m) (ws := ws) (by omega) (fun w hw => (hwb w hw).1)
        rw [hwl] at e
        refine r_I hD ?_
        walk_at "rq"
        rw [decide_eq_decide.mpr e]
        exact kq H1 s1
end
end Al
namespace Al
open PySem PySem.Spec PyProof.Rows L2 NdefX PySem.W
local macro_rules | `(tactic| walk_at "rd1") => `(tactic| with_reducible first
  | (show tVar _ _ _ _; refine r_var (by with_unfolding_all rfl) ?_) | refine r_c ?_ | refine r_op ?_ | refine r_I0 ?_ | refine r_un ?_ | refine r_U ?_
  | (show rI _ _ _ _ _ _; refine r_I (by with_unfolding_all first | exact ⟨by decide, by decide⟩ | (show (0 : Int) < _; decide)) ?_)
  | refine r_eqI ?_ | refine r_neI ?_ | refine r_eqS ?_ | refine r_neS ?_ | refine r_eqB ?_ | refine r_neB ?_ | refine r_chain ?_
  | refine r_test ?_ | refine r_B ?_ | refine r_bl ?_ | refine r_int ?_ | refine r_and ?_ | refine r_or ?_ | refine r_not ?_ | refine r_andV ?_ | refine r_orV ?_ | refine r_notV ?_
  | refine r_if ?_ | refine r_nil ?_ | refine r_cons ?_ | refine r_cb ?_ | refine r_call ?_ | refine r_callS ?_ | refine r_tup ?_ | refine r_lst ?_ | refine r_seq ?_ | refine r_next ?_ | refine r_asg ?_
  | refine r_name ?_ | refine r_ifS ?_ | refine r_ret ?_ | refine r_retN ?_ | refine r_drop ?_ | refine r_brk ?_ | refine r_ct ?_ | refine r_sl ?_ | refine r_part ?_ | refine r_nopart ?_
  | refine r_bm ?_ | refine r_bm0 ?_ | refine r_raiseX ?_ | refine r_mkO ?_ | refine iteF ?_ | refine iteT ?_ | refine r_int1 ?_ | refine r_int1b ?_ | (show _ ≤ sizeLine ∧ _; refine r_sz (by with_unfolding_all first | omega | (simp only [List.length_cons, List.length_nil]; omega)) ?_)
  | (show ∃ _, _; refine ⟨_, rfl, ?_⟩) | (show ∃ _, _; refine ⟨_, _, rfl, rfl, ?_⟩) | (show ∃ _, _; refine ⟨_, _, rfl, ?_⟩))
local macro_rules | `(tactic| walk_at "rd") => `(tactic| repeat (walk_at "rd1"))
local macro_rules | `(tactic| walk_at "rd2") => `(tactic| with_reducible first
  | (show tFld _ _ _ _ _ _; refine r_fldI (by with_unfolding_all rfl) (by with_unfolding_all assumption) (by with_unfolding_all assumption) (by with_unfolding_all assumption) (by with_unfolding_all rfl) ?_)
  | (show tMetS _ _ _ _ _ _ _ _ _; refine r_rm (by with_unfolding_all assumption) (by with_unfolding_all rfl) (by decide) ?_)
  | refine r_sfl ?_ | refine iteNF ?_ | refine iteNT ?_ | refine r_makS ?_)
local macro_rules | `(tactic| walk_at "rp") => `(tactic| repeat first | walk_at "rd1" | walk_at "rd2")
local macro_rules | `(tactic| walk_at "rq1") => `(tactic| with_reducible first | refine r_rng1 ?_ | refine r_rng2 ?_ | refine r_forL ?_ | refine r_forT ?_ | refine r_dget ?_ | refine r_pnil ?_ | refine r_pcons ?_ | refine r_lcL ?_ | refine r_lcT ?_ | refine r_lcR ?_ | refine r_yes ?_ | refine r_disp ?_)
local macro_rules | `(tactic| walk_at "rq") => `(tactic| repeat first | walk_at "rd1" | walk_at "rd2" | walk_at "rq1")

def spLShows (K : Frag) : Sp := fun vs H Q _ => ∃ (rw ra wa : Addr) (rs : List Addr) (A : Nat → Nat → Int) (n m : Nat) (R : Nat → Int) (us : List V) (ws : List (Int × Int)) (p c : Nat), vs = [.ref rw, .int (n : Int), .ref ra, .ref wa] ∧ Mat H rw rs A m n ∧ H ra = some (.lst (intsV R m)) ∧ (H wa = some (.lst us) ∧ All2 (Fr2P K H) us ws) ∧ (n ≤ 1000 ∧ m ≤ 1000) ∧
  (∀ r, r < m → ∀ k, k < n → (A r k).natAbs < 2 ^ c) ∧ (∀ r, r < m → (R r).natAbs < 2 ^ c) ∧ (∀ w ∈ ws, 0 < w.2 ∧ w.1.natAbs < 2 ^ p ∧ w.2.natAbs < 2 ^ p) ∧ (m + 2) * p + c + 10 ≤ 120000000 ∧
  ∀ H' (b : Bool), Same H H' → (b = true ↔ ws.length = m ∧ Shows A n m R (qw ws)) → Q (.bl b) H'
section
variable {P : Program} {w : World} {K : Frag} {mg : Str → Option Value} {base : Heap}
abbrev s_law_shows : Stmt := top 21
theorem sc_law_shows : FnScope ["_law_rows_here", "_law_count", "_law_right", "_law_weights", "_law_j", "_law_row"] ["_law_rows_here", "_law_count", "_law_right", "_law_weights"] (defScope s_law_shows) := ⟨rfl, rfl, rfl, by decide +kernel, rfl, by decide +kernel, by decide +kernel⟩
theorem cal_law_shows (dx : DefAt K mg "_law_shows" s_law_shows) (B : Bl mg) (G_law_whole : Cal P w K mg base 36 "_law_whole" ["_law_weights", "_law_values"] (spWhole K)) : Cal P w K mg base 37 "_law_shows" ["_law_rows_here", "_law_count", "_law_right", "_law_weights"] (spLShows K) := by
  refine cal_mk dx sc_law_shows (fun _ _ _ _ _ _ us hl => match us, hl with | [_, _, _, _], _ => rfl) (fun vs H Q E h => ?_) (fun fn cdv AA outer s H vs Q E hr h => ?_)
  · obtain ⟨rw, ra, wa, rs, A, n, m, R, us, ws, p, c, rfl, _⟩ := h
    rfl
  · obtain ⟨rw, ra, wa, rs, A, n, m, R, us, ws, p, c, rfl, hA, hra, ⟨hwa, hus⟩, ⟨hn, hm⟩, hAb, hRb, hwb, hsz, kq⟩ := h
    have tk : L2N.Takes (cxOf (L2N.CX P w) P w K mg base ["_law_rows_here", "_law_count", "_law_right", "_law_weights", "_law_j", "_law_row"] "_law_shows" (defScope s_law_shows) fn cdv AA outer s H E) (fun cls d _ H => E cls d H) := L2N.takes_of rfl rfl rfl rfl
    have hul := All2.len hus
    refine ⟨_, (pss_cons (ps_if (pt_cmpR op_ne (pe_callB call_len_seq (by rfl) B.len PySem.boot_len (pa_cons (pv 3) pa_nil)) (pe_callB call_len_seq (by rfl) B.len PySem.boot_len (pa_cons (pv 0) pa_nil)) (nomark _))
      (pss_one (ps_ret pe_bl))
      pss_nil)
      (pss_cons (ps_for (passes_of rfl) rfl (pi_range1 (by rfl) B.range (pa_cons (pv 1) pa_nil)) (pg_name (i := 4) sc_law_shows.nd rfl (by first | exact Or.inl rfl | exact Or.inr rfl))
      (pss_one (ps_if (pt_not (pt_val (pe_cal G_law_whole (hr.mono (by first | decide | omega)) tk (pa_cons (pv 3) (pa_cons (pe_lc (own := [("_law_row", 5)]) rfl sc_law_shows.nd (pi_list (pv 0)) (blkOk_by (N := ["_law_rows_here", "_law_count", "_law_right", "_law_weights", "_law_j", "_law_row"]) (sc := defScope s_law_shows) (by decide +kernel)) (fun _ _ _ _ _ => (pg_name (i := 5) sc_law_shows.nd rfl (Or.inl rfl))) (fun _ _ _ _ _ => pts_nil) (fun _ _ _ _ _ => (pe_ix (ix_listK (K := K) rfl) (pv 5) (pv 4) (fun _ _ => rfl)))) pa_nil)))))
      (pss_one (ps_ret pe_bl))
      pss_nil)))
      (pss_one (ps_ret (pe_not (pe_cal G_law_whole (hr.mono (by first | decide | omega)) tk (pa_cons (pv 3) (pa_cons (pv 2) pa_nil)))))))), ?_⟩
    walk_at "rq"
    refine ⟨wa, us, rfl, .inl (SqL.of hwa), ?_⟩
    walk_at "rq"
    refine ⟨rw, _, rfl, .inl (SqL.of hA.l), ?_⟩
    walk_at "rq"
    rw [List.length_map, hA.len, hul]
    refine r_ite (fun h1 => ?_) (fun h1 => ?_)
    · have h1 := of_decide_eq_false (Bool.not_eq_true' _ ▸ h1)
      walk_at "rq"
      exact kq H false (fun b o h => h) ⟨fun h => Bool.noConfusion h, fun h => absurd (congrArg (fun n : Nat => (n : Int)) h.1) h1⟩
    · have h1 : ws.length = m := Int.ofNat.inj (of_decide_eq_true (Bool.not_eq_false' _ ▸ h1))
      walk_at "rq"
      refine ⟨by omega, by omega, ?_⟩
      rw [show ((n : Int)).toNat = n by omega]
      refine for_range (lo := 0) (n := n) (fun k σ' H' => ∃ (v4 : Option V), σ' = [some (.ref rw), some (.int (n : Int)), some (.ref ra), some (.ref wa), v4, none] ∧ Same H H' ∧ ∀ q, q < k → ((sm m fun r => qw ws r * (A r q : Rat)).den : Int) = 1)
        ⟨_, rfl, fun b o h => h, fun q hq => by omega⟩ ?_ ?_
      · rintro k σ' H1 hk ⟨v4, rfl, s1, hden⟩
        have hA1 := hA.keep s1
        walk_at "rq"
        refine ⟨⟨_, SqL.of hA1.l⟩, fun D hD => ?_⟩
        refine lcw_list (fun i H' => Same H1 H' ∧ H' D = some (.lst (intsV (fun r => A r k) i))) ⟨Same.new hD, upd_same⟩ (fun i H' _ h => SqL.of (hA1.keep h.1).l) ?_ ?_
        · rintro i v H2 hv ⟨s2, h2⟩
          have hi : i < m := by rw [← hA.len, ← List.length_map (f := V.ref)]; exact (List.getElem?_eq_some_iff.mp hv).1
          obtain ⟨b, _, hb, hbr, _⟩ := (hA1.keep s2).at_ (k := i) hi
          rw [hv] at hbr
          cases hbr
          walk_at "rq"
          rw [show (0 : Int) + (k : Int) = ((k : Nat) : Int) by omega]
          refine r_ixL (SqL.of hb) (rowV_get hk) ?_
          walk_at "rq"
          refine ⟨_, h2, by rw [sizeLine_eq, intsV_len]; omega, Same.mut s2 hD, ?_⟩
          rw [upd_same, intsV_succ]
        · rintro H2 ⟨s2, h2⟩
          rw [List.length_map, hA.len] at h2
          have s02 : Same H H2 := fun b o h => s2 _ _ (s1 _ _ h)
          walk_at "rq"
          refine ⟨wa, D, us, ws, fun r => A r k, m, p, c, rfl, ⟨s02 _ _ hwa, Fr2P.keepA hus s02, h1⟩, h2, hm, hwb, fun r hr => hAb r hr k hk, hsz, fun H3 s3 => ?_⟩
          walk_at "rq"
          refine r_ite (fun h3 => ?_) (fun h3 => ?_)
          · have h3 := of_decide_eq_false (Bool.not_eq_true' _ ▸ h3)
            walk_at "rq"
            exact kq H3 false (fun b o h => s3 _ _ (s02 _ _ h)) ⟨fun h => Bool.noConfusion h, fun h => absurd (h.2.1 k hk) h3⟩
          · have h3 := of_decide_eq_true (Bool.not_eq_false' _ ▸ h3)
            walk_at "rq"
            refine ⟨fun b o h => s3 _ _ (s02 _ _ h), fun q hq => ?_⟩
            by_cases e : q = k
            · rw [e]; exact h3
            · exact hden q (by omega)
      · rintro σ' H1 ⟨v4, rfl, s1, hcols⟩
        walk_at "rq"
        refine ⟨wa, ra, us, ws, R, m, p, c, rfl, ⟨s1 _ _ hwa, Fr2P.keepA hus s1, h1⟩, s1 _ _ hra, hm, hwb, hRb, hsz, fun H3 s3 => ?_⟩
        walk_at "rq"
        refine kq H3 _ (fun b o h => s3 _ _ (s1 _ _ h)) ⟨fun h => ⟨h1, hcols, fun e => ?_⟩, fun h => ?_⟩
        · rw [decide_eq_true e] at h
          cases h
        · rw [decide_eq_false h.2.2]
          rfl
end
end Al
namespace Al
open PySem PySem.Spec PyProof.Rows L2 NdefX PySem.W
/-! ### k03: data that the law compares -/
section
variable {α : Type} {K : Frag} {H : Hp}
theorem eqvAll_map (f : α → PyData) (h : ∀ a, PyData.eqv (f a) (f a) = true) : ∀ l : List α, PyData.eqvAll (l.map f) (l.map f) = true
  | [] => by simp [PyData.eqvAll]
  | a :: l => by
    show PyData.eqvAll (f a :: l.map f) (f a :: l.map f) = true
    rw [PyData.eqvAll, h a, eqvAll_map f h l]
    rfl
theorem canLayAll_map (f : α → PyData) (h : ∀ a, PyData.canLay0 (f a) = true) : ∀ l : List α, PyData.canLayAll0 (l.map f) = true
  | [] => by simp [PyData.canLayAll0]
  | a :: l => by
    show PyData.canLayAll0 (f a :: l.map f) = true
    rw [PyData.canLayAll0, h a, canLayAll_map f h l]
    rfl
theorem depthAll_map (f : α → PyData) {k : Nat} (h : ∀ a, PyData.depth (f a) ≤ k) : ∀ l : List α, PyData.depthAll (l.map f) ≤ k
  | [] => by rw [List.map_nil, PyData.depthAll]; omega
  | a :: l => by
    show PyData.depthAll (f a :: l.map f) ≤ k
    rw [PyData.depthAll]
    have := h a
    have := depthAll_map f h l
    omega
theorem dpAll_map (f : α → V) (g : α → PyData) : ∀ l : List α, (∀ a ∈ l, Dp K H (f a) (g a)) → DpAll K H (l.map f) (l.map g)
  | [], _ => .nil
  | a :: l, h => .cons (h a List.mem_cons_self) (dpAll_map f g l fun b hb => h b (List.mem_cons_of_mem _ hb))
/-- a list of ints -/
def dInts (R : Nat → Int) (m : Nat) : PyData := .list ((List.range m).map fun r => .int (R r))
theorem dInts_eqv (R : Nat → Int) (m : Nat) : PyData.eqv (dInts R m) (dInts R m) = true := by
  unfold dInts
  rw [PyData.eqv]
  exact eqvAll_map _ (fun a => by simp [PyData.eqv]) _
theorem dInts_lay (R : Nat → Int) (m : Nat) : PyData.canLay0 (dInts R m) = true := by
  unfold dInts
  rw [PyData.canLay0]
  exact canLayAll_map _ (fun a => by simp [PyData.canLay0]) _
theorem dInts_depth (R : Nat → Int) (m : Nat) : PyData.depth (dInts R m) ≤ 1 := by
  unfold dInts
  rw [PyData.depth]
  have := depthAll_map (k := 0) (fun r => PyData.int (R r)) (fun a => by simp [PyData.depth]) (List.range m)
  omega
theorem dInts_sh (R : Nat → Int) (m : Nat) : SeqAt.shaped (dInts R m) = true := by
  unfold SeqAt.shaped
  rw [dInts_lay, decide_eq_true (Nat.le_trans (dInts_depth R m) (by decide))]
  rfl
theorem dInts_dp {p : Addr} {R : Nat → Int} {m : Nat} (h : H p = some (.lst (intsV R m))) : Dp K H (.ref p) (dInts R m) := .lst (SqL.of h) (dpAll_map _ _ _ fun a _ => .int _)
theorem dInts_congr {R S : Nat → Int} {m : Nat} (h : ∀ r, r < m → R r = S r) : dInts R m = dInts S m := by
  unfold dInts
  rw [List.map_congr_left fun r hr => by rw [h r (List.mem_range.mp hr)]]
theorem intsV_congr {R S : Nat → Int} {m : Nat} (h : ∀ r, r < m → R r = S r) : intsV R m = intsV S m := by
  unfold intsV
  exact List.map_congr_left fun r hr => by rw [h r (List.mem_range.mp hr)]
/-- a list of lists of ints -/
def dMat (M : Nat → Nat → Int) (n m : Nat) : PyData := .list ((List.range n).map fun k => dInts (M k) m)
theorem dMat_eqv (M : Nat → Nat → Int) (n m : Nat) : PyData.eqv (dMat M n m) (dMat M n m) = true := by
  unfold dMat
  rw [PyData.eqv]
  exact eqvAll_map _ (fun a => dInts_eqv _ _) _
theorem dMat_sh (M : Nat → Nat → Int) (n m : Nat) : SeqAt.shaped (dMat M n m) = true := by
  unfold SeqAt.shaped dMat
  rw [PyData.canLay0, canLayAll_map _ (fun a => dInts_lay _ _), PyData.depth]
  have := depthAll_map (k := 1) (fun k => dInts (M k) m) (fun a => dInts_depth _ _) (List.range n)
  rw [decide_eq_true (by omega)]
  rfl
theorem dp_rows {M : Nat → Nat → Int} {m : Nat} : ∀ (as : List Addr) (k0 : Nat), (∀ k b, as[k]? = some b → H b = some (.lst (rowV M m (k0 + k)))) → DpAll K H (as.map V.ref) ((List.range as.length).map fun k => dInts (M (k0 + k)) m)
  | [], _, _ => .nil
  | b :: as, k0, h => by
    rw [List.length_cons, List.range_succ_eq_map]
    refine .cons (dInts_dp (R := M (k0 + 0)) (h 0 b rfl)) ?_
    rw [List.map_map]
    have := dp_rows as (k0 + 1) fun k c hc => by
      rw [show k0 + 1 + k = k0 + (k + 1) by omega]
      exact h (k + 1) c hc
    rw [show ((fun k => dInts (M (k0 + k)) m) ∘ Nat.succ) = fun k => dInts (M (k0 + 1 + k)) m from funext fun k => by
      show dInts (M (k0 + (k + 1))) m = _
      rw [show k0 + (k + 1) = k0 + 1 + k by omega]]
    exact this
theorem Mat.dp {p : Addr} {as : List Addr} {M : Nat → Nat → Int} {n m : Nat} (h : Mat H p as M n m) : Dp K H (.ref p) (dMat M n m) := by
  unfold dMat
  refine .lst (SqL.of h.l) ?_
  have := dp_rows (K := K) (M := M) (m := m) as 0 fun k b hb => by rw [Nat.zero_add]; exact h.col k b hb
  rw [h.len] at this
  rw [List.map_congr_left (g := fun k => dInts (M (0 + k)) m) fun k _ => by rw [Nat.zero_add]]
  exact this
/-- a list of pairs -/
def dPairs (ws : List (Int × Int)) : PyData := .list (ws.map fun w => .tuple [.int w.1, .int w.2])
theorem dPairs_eqv (ws : List (Int × Int)) : PyData.eqv (dPairs ws) (dPairs ws) = true := by
  unfold dPairs
  rw [PyData.eqv]
  exact eqvAll_map _ (fun a => by simp [PyData.eqv, PyData.eqvAll]) _
theorem dPairs_sh (ws : List (Int × Int)) : SeqAt.shaped (dPairs ws) = true := by
  unfold SeqAt.shaped dPairs
  rw [PyData.canLay0, canLayAll_map _ (fun a => by simp [PyData.canLay0, PyData.canLayAll0]), PyData.depth]
  have := depthAll_map (k := 1) (fun w : Int × Int => PyData.tuple [.int w.1, .int w.2]) (fun a => by simp [PyData.depth, PyData.depthAll]) ws
  rw [decide_eq_true (by omega)]
  rfl
theorem dp_pairs : ∀ {us : List V} {ws : List (Int × Int)}, All2 (Fr2P K H) us ws → DpAll K H us (ws.map fun w => .tuple [.int w.1, .int w.2])
  | _, _, .nil => .nil
  | _, _, .cons h t => .cons (FrV.dp h) (dp_pairs t)
theorem dPairs_dp {p : Addr} {us : List V} {ws : List (Int × Int)} (h : H p = some (.lst us)) (hu : All2 (Fr2P K H) us ws) : Dp K H (.ref p) (dPairs ws) := .lst (SqL.of h) (dp_pairs hu)
/-- fractions as pairs -/
def prs (l : List Rat) : List (Int × Int) := l.map fun q => (q.num, (q.den : Int))
theorem prs_all : ∀ {us : List V} {l : List Rat}, FrA K H us l → All2 (Fr2P K H) us (prs l)
  | _, _, .nil => .nil
  | _, _, .cons h t => .cons h (prs_all t)
theorem prs_qw (l : List Rat) (r : Nat) : qw (prs l) r = l.getD r 0 := by
  unfold qw prs
  rw [List.getD_eq_getElem?_getD, List.getD_eq_getElem?_getD, List.getElem?_map]
  cases l[r]? with
  | none => rfl
  | some q => exact Rat.num_divInt_den q
end
/-! ### sizes -/
theorem sm_lt {e n : Nat} {f : Nat → Int} (h : ∀ i, i < n → (f i).natAbs < 2 ^ e) : ∀ i, i ≤ n → (sm i f).natAbs < 2 ^ (e + i)
  | 0, _ => by rw [sm_zero']; exact Nat.pow_pos (by decide)
  | i + 1, hi => by
    have h1 := sm_lt h i (by omega)
    have h2 := h i (by omega)
    have h3 : 2 ^ e ≤ 2 ^ (e + i) := Nat.pow_le_pow_right (by decide) (by omega)
    rw [sm_succ]
    have e1 : 2 ^ (e + (i + 1)) = 2 ^ (e + i) + 2 ^ (e + i) := by rw [← Nat.add_assoc, Nat.pow_succ]; omega
    omega
theorem back_lt {T : Nat → Nat → Int} {ρ F c j : Nat} {z : Nat → Int} (hz : ∀ k, k < ρ → (z k).natAbs < 2 ^ F) (hT : ∀ k, k < ρ → (T k j).natAbs ≤ 2 ^ c) : (back T ρ z j).natAbs < 2 ^ (F + c + ρ) := sm_lt (fun k hk => mul_lt2 (hz k hk) (hT k hk)) ρ (Nat.le_refl _)
theorem eB_add (b i : Nat) : ∀ j, eB (eB b i) j = eB b (i + j)
  | 0 => rfl
  | j + 1 => by
    show 3 * eB (eB b i) j + 3 = 3 * eB b (i + j) + 3
    rw [eB_add b i j]
theorem eB8 : eB 19 8 = 134499 := by decide
theorem pow_lt_of {a b : Nat} {z : Int} (h : z.natAbs ≤ 2 ^ a) (hab : a < b) : z.natAbs < 2 ^ b := Nat.lt_of_le_of_lt h (Nat.pow_lt_pow_right (by decide) hab)
theorem pow_lt_lt {a b : Nat} {z : Int} (h : z.natAbs < 2 ^ a) (hab : a ≤ b) : z.natAbs < 2 ^ b := Nat.lt_of_lt_of_le h (Nat.pow_le_pow_right (by decide) hab)
theorem sz_steps {ρ c s F : Nat} (hρ : ρ ≤ 8) (hc : c ≤ 134499) (hF : s + 1210500 ≤ F) : s + (ρ + 1) * (c + 1) ≤ F ∧ c * ρ + 1 ≤ F := by
  have h1 : (ρ + 1) * (c + 1) ≤ 9 * 134500 := Nat.mul_le_mul (by omega) (by omega)
  have h2 : c * ρ ≤ 134499 * 8 := Nat.mul_le_mul hc hρ
  omega
theorem sz_yW {ρ c F : Nat} (hρ : ρ ≤ 8) (hc : c ≤ 134499) (hF : 1400000 ≤ F) : yW (c + 1) c (ρ + 1) ≤ F := by
  have h1 : (ρ + 1) * (c + 1001) ≤ 9 * 135500 := Nat.mul_le_mul (by omega) (by omega)
  unfold yW
  omega
/-! ### the gaps -/
section
variable {A M T M2 T2 : Nat → Nat → Int} {n m b b2 : Nat} {pw p2 : List Nat} {X Y : Nat → Int}
theorem Sol.sub {R : Nat → Int} (h : Sol A n m R X) (k : Sol A n m R Y) : Sol A n m (fun _ => 0) fun j => X j - Y j := fun r hr => by
  rw [sm_congr (g := fun j => A r j * X j - A r j * Y j) fun j _ => Int.mul_sub _ _ _, sm_sub, h r hr, k r hr, Int.sub_self]
theorem sol_of_sm {R : Nat → Int} {d : Nat} {U : Nat → Nat → Int} {z : Nat → Int} (h : ∀ j, j < n → R j = sm d fun k => z k * U k j) : Sol (fun j k => U k j) d n R z := fun j hj => by
  rw [h j hj]
  exact sm_congr fun k _ => Int.mul_comm _ _
/-- the kernel's columns are independent: no kernel is left -/
theorem gaps_full (h : Stp A n m b m M T pw) (h2 : Stp (fun j k => T (pw.length + k) j) (n - pw.length) n b2 n M2 T2 p2) : p2.length = n - pw.length := by
  rcases Nat.lt_or_ge p2.length (n - pw.length) with q | q
  · exfalso
    have k1 := h2.ker (k := p2.length) (Nat.le_refl _) q
    have k2 := h.ker_inj (z := T2 p2.length) fun j hj => by
      rw [← (show (sm (n - pw.length) fun k => T (pw.length + k) j * T2 p2.length k) = 0 from k1 j hj)]
      exact sm_congr fun k _ => Int.mul_comm _ _
    have k3 := h2.tn.inj (fun k => if k = p2.length then 1 else 0) (fun j hj => by
      rw [sm_one q fun i hi hne => by rw [if_neg hne, Int.zero_mul], if_pos rfl, Int.one_mul]
      exact k2 j hj) p2.length q
    rw [if_pos rfl] at k3
    cases k3
  · exact Nat.le_antisymm h2.len q
end
end Al
namespace Al
open PySem PySem.Spec PyProof.Rows L2 NdefX PySem.W
/-! ### k03: what paper and solve gave -/
/-- what a paper's call gave -/
def PF (K : Frag) (A : Nat → Nat → Int) (n m : Nat) (R : Nat → Int) (F : Nat) (H : Hp) (v : V) : Prop :=
  (v = .non ∧ ∃ X, Sol A n m R X) ∨ ∃ (a : Addr) (us : List V) (l : List Rat), v = .ref a ∧ H a = some (.lst us) ∧ FrA K H us l ∧ l.length = m ∧ Shows A n m R (fun r => l.getD r 0) ∧ ∀ y ∈ l, bd F y
/-- what a call of solve gave -/
def SF (A : Nat → Nat → Int) (n m : Nat) (R : Nat → Int) (F : Nat) (H : Hp) (v : V) : Prop :=
  (v = .non ∧ ∀ X, ¬ Sol A n m R X) ∨ ∃ (a : Addr) (X : Nat → Int), v = .ref a ∧ H a = some (.lst (intsV X n)) ∧ Sol A n m R X ∧ ∀ j, j < n → (X j).natAbs < 2 ^ F
section
variable {K : Frag} {A : Nat → Nat → Int} {n m : Nat} {R : Nat → Int} {F : Nat} {H H' : Hp} {v : V} {Q : VK}
theorem PF.keep (h : PF K A n m R F H v) (s : Same H H') : PF K A n m R F H' v := by
  rcases h with h | ⟨a, us, l, h1, h2, h3, h4⟩
  · exact .inl h
  · exact .inr ⟨a, us, l, h1, s _ _ h2, h3.keep s, h4⟩
theorem SF.keep (h : SF A n m R F H v) (s : Same H H') : SF A n m R F H' v := by
  rcases h with h | ⟨a, us, h1, h2, h3⟩
  · exact .inl h
  · exact .inr ⟨a, us, h1, s _ _ h2, h3⟩
theorem paper_use (h : ∀ v H', Same H H' → PF K A n m R F H' v → Q v H') : (∀ H', Same H H' → (∃ X, Sol A n m R X) → Q .non H') ∧ ∀ (a : Addr) (us : List V) (l : List Rat) (H' : Hp), Same H H' → H a = none → H' a = some (.lst us) → FrA K H' us l → l.length = m → Shows A n m R (fun r => l.getD r 0) → (∀ y ∈ l, bd F y) → Q (.ref a) H' :=
  ⟨fun H' s e => h _ _ s (.inl ⟨rfl, e⟩), fun a us l H' s _ h1 h2 h3 h4 h5 => h _ _ s (.inr ⟨a, us, l, rfl, h1, h2, h3, h4, h5⟩)⟩
theorem solve_use {M T : Nat → Nat → Int} {pw : List Nat} {b F0 : Nat} (hs : Stp A n m b m M T pw) (hF : F0 + eB b pw.length + pw.length ≤ F) (h : ∀ v H', Same H H' → SF A n m R F H' v → Q v H') :
    (∀ (z : Nat → Int) (a : Addr) (H' : Hp), Same H H' → H a = none → H' a = some (.lst (intsV (back T pw.length z) n)) → Sol A n m R (back T pw.length z) → (∀ k, k < pw.length → (z k).natAbs < 2 ^ F0) → Q (.ref a) H') ∧ ∀ H', Same H H' → (∀ X, ¬ Sol A n m R X) → Q .non H' :=
  ⟨fun z a H' s _ h1 h2 h3 => h _ _ s (.inr ⟨a, _, rfl, h1, h2, fun j hj => pow_lt_lt (back_lt h3 fun k hk => hs.bt k (by have := hs.len; omega) j hj) hF⟩), fun H' s e => h _ _ s (.inl ⟨rfl, e⟩)⟩
theorem PF.sol (h : PF K A n m R F H v) {X : Nat → Int} (hX : Sol A n m R X) : v = .non := by
  rcases h with h | ⟨a, us, l, h1, h2, h3, h4, h5, h6⟩
  · exact h.1
  · exact absurd hX (h5.none X)
theorem PF.none (h : PF K A n m R F H v) (hX : ∀ X, ¬ Sol A n m R X) : ∃ (a : Addr) (us : List V) (l : List Rat), v = .ref a ∧ H a = some (.lst us) ∧ FrA K H us l ∧ l.length = m ∧ Shows A n m R (fun r => l.getD r 0) ∧ ∀ y ∈ l, bd F y := by
  rcases h with ⟨_, X, h⟩ | h
  · exact absurd h (hX X)
  · exact h
theorem SF.some (h : SF A n m R F H v) {X : Nat → Int} (hX : Sol A n m R X) : ∃ (a : Addr) (X : Nat → Int), v = .ref a ∧ H a = some (.lst (intsV X n)) ∧ Sol A n m R X ∧ ∀ j, j < n → (X j).natAbs < 2 ^ F := by
  rcases h with ⟨_, h⟩ | h
  · exact absurd hX (h X)
  · exact h
theorem sol_row {X : Nat → Int} (hX : Sol A n m R X) : ∀ r, r < m → (sm n fun q => A r q * X q) = R r := hX
/-- the paper's pairs -/
theorem prs_ok {l : List Rat} (h : ∀ y ∈ l, bd F y) : ∀ w ∈ prs l, 0 < w.2 ∧ w.1.natAbs < 2 ^ F ∧ w.2.natAbs < 2 ^ F := fun w hw => by
  unfold prs at hw
  obtain ⟨q, hq, rfl⟩ := List.mem_map.mp hw
  have hb := h q hq
  exact ⟨by have := q.den_pos; show (0 : Int) < (q.den : Int); omega, hb.1, by show ((q.den : Int)).natAbs < _; rw [Int.natAbs_natCast]; exact hb.2⟩
theorem prs_len (l : List Rat) : (prs l).length = l.length := by unfold prs; rw [List.length_map]
theorem prs_shows {l : List Rat} (h : Shows A n m R (fun r => l.getD r 0)) : Shows A n m R (qw (prs l)) := h.congr fun r _ => prs_qw l r
theorem sp_paper {C x ra : Addr} {E : XK} {M T : Nat → Nat → Int} {pw : List Nat} {b s F : Nat} (hS : Sy C H x A n m M T pw) (hst : Stp A n m b m M T pw) (hra : H ra = some (.lst (intsV R m))) (hnm : n ≤ 1000 ∧ m ≤ 1000) (hR : ∀ r, r < m → (R r).natAbs < 2 ^ s) (hs : 0 < s)
    (hF : s + (pw.length + 1) * (eB b pw.length + 1) ≤ F ∧ yW (eB b pw.length + 1) (eB b pw.length) (pw.length + 1) ≤ F ∧ eB b pw.length * pw.length + 1 ≤ F ∧ 4 * (F + s + eB b pw.length) + 10000 ≤ 120000000)
    (h : ∀ v H', Same H H' → PF K A n m R (2 * F + 2 * s + 3000) H' v → Q v H') : spPaper K C [.ref x, .ref ra] H Q E :=
  ⟨x, ra, A, n, m, M, T, pw, R, b, s, F, rfl, hS, hst, hra, hnm, hR, hs, hF, paper_use h⟩
theorem sp_solve {C x ra : Addr} {E : XK} {M T : Nat → Nat → Int} {pw : List Nat} {b s F0 : Nat} (hS : Sy C H x A n m M T pw) (hst : Stp A n m b m M T pw) (hra : H ra = some (.lst (intsV R m))) (hnm : n ≤ 1000 ∧ m ≤ 1000) (hR : ∀ r, r < m → (R r).natAbs < 2 ^ s)
    (hF : s + (pw.length + 1) * (eB b pw.length + 1) ≤ F0 ∧ eB b pw.length * pw.length + 1 ≤ F0 ∧ 2 * (F0 + eB b pw.length) + 10 ≤ 120000000) (hF1 : F0 + eB b pw.length + pw.length ≤ F)
    (h : ∀ v H', Same H H' → SF A n m R F H' v → Q v H') : spSolve C [.ref x, .ref ra] H Q E :=
  ⟨x, ra, A, n, m, M, T, pw, R, b, s, F0, rfl, hS, hst, hra, hnm, hR, hF, solve_use hst hF1 h⟩
theorem d_nn : decide (V.non = V.non) = true := decide_eq_true rfl
theorem d_rn {a : Addr} : decide (V.ref a = V.non) = false := decide_eq_false (by intro h; cases h)
theorem r_isn {Q : VK} (q : Q (.bl true) H) : V.non = V.non ∧ Q (.bl (decide (V.non = V.non))) H := ⟨rfl, by rw [d_nn]; exact q⟩
theorem r_isnR {Q : VK} {a : Addr} (q : Q (.bl false) H) : V.non = V.non ∧ Q (.bl (decide (V.ref a = V.non))) H := ⟨rfl, by rw [d_rn]; exact q⟩
theorem r_notn {Q : VK} (q : Q (.bl false) H) : V.non = V.non ∧ Q (.bl (!decide (V.non = V.non))) H := ⟨rfl, by rw [d_nn]; exact q⟩
theorem r_notnR {Q : VK} {a : Addr} (q : Q (.bl true) H) : V.non = V.non ∧ Q (.bl (!decide (V.ref a = V.non))) H := ⟨rfl, by rw [d_rn]; exact q⟩
theorem Fr2.fr {v : V} {x y : Int} {pr : Addr} {us : List V} (h : Fr2 K H v x y) (hp : H pr = some (.lst us)) (fr : ∀ b u, b ≠ pr → H b = some u → H' b = some u) : Fr2 K H' v x y := by
  obtain ⟨p, rfl, h⟩ := h
  refine ⟨p, rfl, ?_⟩
  rcases h with (h | ⟨o, h⟩) | h
  · refine .inl (.inl (fr _ _ (fun e => ?_) h))
    rw [e, hp] at h
    cases h
  · refine .inl (.inr ⟨o, fr _ _ (fun e => ?_) h⟩)
    rw [e, hp] at h
    cases h
  · exact .inr h
theorem Fr2P.fr {us : List V} {ws : List (Int × Int)} {pr : Addr} {zs : List V} (h : All2 (Fr2P K H) us ws) (hp : H pr = some (.lst zs)) (fr : ∀ b u, b ≠ pr → H b = some u → H' b = some u) : All2 (Fr2P K H') us ws := All2.mono (fun _ _ q => Fr2.fr q hp fr) h
theorem cutV_all {xs : List V} {k : Nat} (h : xs.length = k) : cutV xs none (some (k : Int)) = xs := by
  unfold cutV
  rw [HT.sIx_nat]
  show (xs.drop 0).take (min k xs.length - 0) = xs
  rw [h, Nat.min_self, Nat.sub_zero, List.drop_zero, ← h, List.take_length]
theorem cutV_tail {xs : List V} : cutV xs (some ((1 : Nat) : Int)) none = xs.drop 1 := by
  unfold cutV
  rw [HT.sIx_nat]
  show (xs.drop (min 1 xs.length)).take (xs.length - min 1 xs.length) = _
  by_cases h : 1 ≤ xs.length
  · rw [Nat.min_eq_left h, ← List.length_drop, List.take_length]
  · have : xs = [] := List.eq_nil_of_length_eq_zero (by omega)
    subst this
    rfl
theorem All2.drop {α β : Type} {R : α → β → Prop} : ∀ {as : List α} {bs : List β} (k : Nat), All2 R as bs → All2 R (as.drop k) (bs.drop k)
  | _, _, 0, h => h
  | _, _, k + 1, .nil => .nil
  | _, _, k + 1, .cons _ t => All2.drop k t
theorem r_slL {a : Addr} {xs ys : List V} {lo hi : Option Int} {Q : VK} (h : SqL K H a xs) (hc : cutV xs lo hi = ys) (q : ∀ p, H p = none → Q (.ref p) (upd H p (.lst ys))) : rSlL K (.ref a) lo hi H Q := by
  subst hc
  exact ⟨a, xs, rfl, h, q⟩
theorem r_metO {C : Addr} {m : Str} {sp : Sp} {E : L2.St → XK} {ta : TE} {t : TA} {σ : L2.St} {H : Hp} {Q : VK} (h : ta σ H fun x H1 => ∃ a dx fs, x = .ref a ∧ H1 a = some (.ins C dx fs) ∧ fs.lookup m = none ∧ t σ H1 fun vs H2 => sp (x :: vs) H2 Q (E σ)) : tMetS C m sp E ta t σ H Q := h
end
end Al
namespace Al
open PySem PySem.Spec PyProof.Rows L2 NdefX PySem.W
local macro_rules | `(tactic| walk_at "rd1") => `(tactic| with_reducible first
  | (show tVar _ _ _ _; refine r_var (by with_unfolding_all rfl) ?_) | refine r_c ?_ | refine r_op ?_ | refine r_I0 ?_ | refine r_un ?_ | refine r_U ?_
  | (show rI _ _ _ _ _ _; refine r_I (by with_unfolding_all first | exact ⟨by decide, by decide⟩ | (show (0 : Int) < _; decide)) ?_)
  | refine r_eqI ?_ | refine r_neI ?_ | refine r_eqS ?_ | refine r_neS ?_ | refine r_eqB ?_ | refine r_neB ?_ | refine r_chain ?_
  | refine r_test ?_ | refine r_B ?_ | refine r_bl ?_ | refine r_int ?_ | refine r_and ?_ | refine r_or ?_ | refine r_not ?_ | refine r_andV ?_ | refine r_orV ?_ | refine r_notV ?_
  | refine r_if ?_ | refine r_nil ?_ | refine r_cons ?_ | refine r_cb ?_ | refine r_call ?_ | refine r_callS ?_ | refine r_tup ?_ | refine r_lst ?_ | refine r_seq ?_ | refine r_next ?_ | refine r_asg ?_
  | refine r_name ?_ | refine r_ifS ?_ | refine r_ret ?_ | refine r_retN ?_ | refine r_drop ?_ | refine r_brk ?_ | refine r_ct ?_ | refine r_sl ?_ | refine r_part ?_ | refine r_nopart ?_
  | refine r_bm ?_ | refine r_bm0 ?_ | refine r_raiseX ?_ | refine r_mkO ?_ | refine iteF ?_ | refine iteT ?_ | refine r_int1 ?_ | refine r_int1b ?_ | (show _ ≤ sizeLine ∧ _; refine r_sz (by with_unfolding_all first | omega | (simp only [List.length_cons, List.length_nil]; omega)) ?_)
  | (show ∃ _, _; refine ⟨_, rfl, ?_⟩) | (show ∃ _, _; refine ⟨_, _, rfl, rfl, ?_⟩) | (show ∃ _, _; refine ⟨_, _, rfl, ?_⟩))
local macro_rules | `(tactic| walk_at "rd") => `(tactic| repeat (walk_at "rd1"))
local macro_rules | `(tactic| walk_at "rd2") => `(tactic| with_reducible first
  | (show tFld _ _ _ _ _ _; refine r_fldI (by with_unfolding_all rfl) (by with_unfolding_all assumption) (by with_unfolding_all assumption) (by with_unfolding_all assumption) (by with_unfolding_all rfl) ?_)
  | (show tMetS _ _ _ _ _ _ _ _ _; refine r_rm (by with_unfolding_all assumption) (by with_unfolding_all rfl) (by decide) ?_)
  | refine r_sfl ?_ | refine iteNF ?_ | refine iteNT ?_ | refine r_makS ?_)
local macro_rules | `(tactic| walk_at "rp") => `(tactic| repeat first | walk_at "rd1" | walk_at "rd2")
local macro_rules | `(tactic| walk_at "rq1") => `(tactic| with_reducible first | refine r_rng1 ?_ | refine r_rng2 ?_ | refine r_forL ?_ | refine r_forT ?_ | refine r_dget ?_ | refine r_pnil ?_ | refine r_pcons ?_ | refine r_lcL ?_ | refine r_lcT ?_ | refine r_lcR ?_ | refine r_yes ?_ | refine r_disp ?_)
local macro_rules | `(tactic| walk_at "rq") => `(tactic| repeat first | walk_at "rd1" | walk_at "rd2" | walk_at "rq1")

theorem natsV_len (N : List Nat) : (natsV N).length = N.length := by unfold natsV; rw [List.length_map]
theorem frx_same {x dx : Addr} {o o' : HO} {H H' : Hp} (h1 : H x = none) (h2 : H dx = none) (f : FrX x (upd (upd H dx o) x o') H') : Same H H' := fun y u e => by
  have n1 : y ≠ x := fun q => by rw [q, h1] at e; cases e
  have n2 : y ≠ dx := fun q => by rw [q, h2] at e; cases e
  exact f y u n1 (by rw [upd_ne n1, upd_ne n2]; exact e)
theorem sql_keep {K : Frag} {H H' : Hp} {p : Addr} {xs : List V} (h : SqL K H p xs) (s : Same H H') : SqL K H' p xs := by
  rcases h with (h | ⟨o, h⟩) | h
  · exact .inl (.inl (s _ _ h))
  · exact .inl (.inr ⟨o, s _ _ h⟩)
  · exact .inr h
theorem intsV_app (X : Nat → Int) (i : Nat) (v : Int) : intsV X i ++ [.int v] = intsV (fun q => if q = i then v else X q) (i + 1) := by
  rw [intsV_succ, if_pos rfl]
  refine congrArg (· ++ [V.int v]) ?_
  unfold intsV
  exact List.map_congr_left fun q hq => by dsimp only; rw [if_neg (by have := List.mem_range.mp hq; omega)]
theorem inV_falses (d : Nat) : inV (.bl true) (List.replicate d (.bl false)) = false := by
  unfold inV
  rw [List.any_eq_false]
  intro v hv
  rw [List.eq_of_mem_replicate hv]
  decide
theorem r_iL {K : Frag} {H : Hp} {p : Addr} {xs : List V} {x : V} {Q : VK} (h : SqL K H p xs) (hx : flatV x = true) (hf : xs.all flatV = true) (q : Q (.bl (inV x xs)) H) : rIn K false x (.ref p) H Q := ⟨p, xs, rfl, .inl h, hx, hf, q⟩
theorem r_neD {K : Frag} {H : Hp} {x y : V} {d : PyData} {Q : VK} (h1 : Dp K H x d) (h2 : Dp K H y d) (hs : SeqAt.shaped d = true) (he : PyData.eqv d d = true) (q : Q (.bl false) H) : rNeD K x y H Q := ⟨d, d, h1, h2, hs, hs, by rw [he]; exact q⟩
theorem four_get (g : Nat) : ∃ l : Int, ([V.int 6, .int 6, .int 61, .int 1000])[g % 4]? = some (.int l) ∧ 0 < l ∧ l ≤ 1000 := by
  have : g % 4 = 0 ∨ g % 4 = 1 ∨ g % 4 = 2 ∨ g % 4 = 3 := by omega
  rcases this with h | h | h | h
  · rw [h]; exact ⟨6, rfl, by decide, by decide⟩
  · rw [h]; exact ⟨6, rfl, by decide, by decide⟩
  · rw [h]; exact ⟨61, rfl, by decide, by decide⟩
  · rw [h]; exact ⟨1000, rfl, by decide, by decide⟩
theorem two_get (u v : Int) (g : Nat) : ∃ l : Int, ([V.int u, .int v])[g % 2]? = some (.int l) ∧ (l = u ∨ l = v) := by
  have : g % 2 = 0 ∨ g % 2 = 1 := by omega
  rcases this with h | h
  · rw [h]; exact ⟨u, rfl, .inl rfl⟩
  · rw [h]; exact ⟨v, rfl, .inr rfl⟩
theorem same_tr {H1 H2 H3 : Hp} (a : Same H1 H2) (b : Same H2 H3) : Same H1 H3 := fun x o h => b _ _ (a _ _ h)
def spLaw (K : Frag) : Sp := fun vs H Q _ => ∃ (a : Addr) (ns : List Int), vs = [.ref a] ∧ SqL K H a (ns.map V.int) ∧ ns.length ≤ 63 ∧ ∀ H', Q (.bl true) H'
section
variable {P : Program} {w : World} {K : Frag} {mg : Str → Option Value} {base : Heap} {C : Addr}
abbrev s_law : Stmt := top 22
theorem sc_law : FnScope ["_law_script", "_law_k", "_law_numbers_here", "_law_count", "_law_rows_here", "_law_kept", "_law_row", "_law_system", "_law_chosen", "_law_j", "_law_kernel", "_law_one", "_law_right", "_law_asked", "_law_paper", "_law_found", "_law_most", "_law_weights", "_law_kept_weights", "_law_first", "_law_gaps", "_law_factors", "_law_i"] ["_law_script"] (defScope s_law) := ⟨rfl, rfl, rfl, by decide +kernel, rfl, by decide +kernel, by decide +kernel⟩
theorem fnC_law {f : Addr} {fd : FuncData} (FL : FnP K "law" s_law f fd) (B : Bl mg) (S : SC K C) (K_System : MakX P w K mg base 41 "System" C ["self", "rows", "count"] (spSys C))
    (M_kernel : MetX P w K mg base 1 C "kernel" ["self"] (spKer C)) (M_solve : MetX P w K mg base 39 C "solve" ["self", "right"] (spSolve C)) (M_paper : MetX P w K mg base 39 C "paper" ["self", "right"] (spPaper K C))
    (G_law_cell : Cal P w K mg base 1 "_law_cell" ["_law_script", "_law_k"] (spLawCell K)) (G_law_numbers : Cal P w K mg base 1 "_law_numbers" ["_law_cell_here", "_law_many"] spNumbers)
    (G_law_dot : Cal P w K mg base 1 "_law_dot" ["_law_one", "_law_two"] spDot) (G_law_rows : Cal P w K mg base 1 "_law_rows" ["_law_numbers_here", "_law_count"] spRows)
    (G_law_shows : Cal P w K mg base 37 "_law_shows" ["_law_rows_here", "_law_count", "_law_right", "_law_weights"] (spLShows K)) (G_shows_none : Cal P w K mg base 38 "shows_none" ["rows", "right", "weights"] (spShows K)) :
    FnC P w K mg base (L2N.CX P w) f fd ["_law_script"] (spLaw K) := by
  refine fnC_of (k := 42) ⟨rfl, by decide, by decide⟩ FL sc_law (fun vs H Q E h => ?_) (fun cdv s H vs Q E hr h => ?_)
  · obtain ⟨a, ns, rfl, _⟩ := h
    rfl
  · obtain ⟨a, ns, rfl, hS, hlen, kq⟩ := h
    have tk : L2N.Takes (cxOf (L2N.CX P w) P w K mg base ["_law_script", "_law_k", "_law_numbers_here", "_law_count", "_law_rows_here", "_law_kept", "_law_row", "_law_system", "_law_chosen", "_law_j", "_law_kernel", "_law_one", "_law_right", "_law_asked", "_law_paper", "_law_found", "_law_most", "_law_weights", "_law_kept_weights", "_law_first", "_law_gaps", "_law_factors", "_law_i"] "law" (defScope s_law) f cdv callerA [] s H E) (fun cls d _ H => E cls d H) := L2N.takes_of rfl rfl rfl rfl
    have hu64 : (callerA.deeper (envOfC "law" (defScope s_law) s.heap.objs.size f cdv)).units + 64 < cLine := by have := hr.un; omega
    refine ⟨_, (pss_cons (ps_for (passes_of rfl) rfl (pi_range1 (by rfl) B.range (pa_cons (pe_callB (call_max2 rfl) (by rfl) B.max (by decide +kernel) (pa_cons pe_int (pa_cons (pe_callB (call_min2 rfl) (by rfl) B.min (by decide +kernel) (pa_cons (pe_callB call_len_seq (by rfl) B.len PySem.boot_len (pa_cons (pv 0) pa_nil)) (pa_cons pe_int pa_nil))) pa_nil))) pa_nil)) (pg_name (i := 1) sc_law.nd rfl (Or.inl rfl))
      (pss_cons (ps_set (i := 2) sc_law.nd rfl (Or.inr rfl) (pe_cal G_law_numbers (hr.mono (by first | decide | omega)) tk (pa_cons (pe_cal G_law_cell (hr.mono (by first | decide | omega)) tk (pa_cons (pv 0) (pa_cons (pv 1) pa_nil))) (pa_cons pe_int pa_nil))))
      (pss_cons (ps_set (i := 3) sc_law.nd rfl (Or.inl rfl) (pe_op op_mod (pe_callTy call_int1 (by rfl) B.int (by decide +kernel) (pa_cons (pe_ix ix_list (pv 2) pe_int (fun _ _ => rfl)) pa_nil)) pe_int))
      (pss_cons (ps_set (i := 4) sc_law.nd rfl (Or.inl rfl) (pe_cal G_law_rows (hr.mono (by first | decide | omega)) tk (pa_cons (pv 2) (pa_cons (pv 3) pa_nil))))
      (pss_cons (ps_setLc (i := 5) (own := [("_law_row", 6)]) rfl sc_law.nd rfl rfl (sw_true rfl rfl rfl (by decide +kernel)) (pi_list (pv 4)) (blkOk_by (N := ["_law_script", "_law_k", "_law_numbers_here", "_law_count", "_law_rows_here", "_law_kept", "_law_row", "_law_system", "_law_chosen", "_law_j", "_law_kernel", "_law_one", "_law_right", "_law_asked", "_law_paper", "_law_found", "_law_most", "_law_weights", "_law_kept_weights", "_law_first", "_law_gaps", "_law_factors", "_law_i"]) (sc := defScope s_law) (by decide +kernel)) (fun _ _ _ _ _ => (pg_name (i := 6) sc_law.nd rfl (by first | exact Or.inl rfl | exact Or.inr rfl))) (fun _ _ _ _ _ => pts_nil) (fun _ _ _ _ _ => (pe_callTy (call_list_ofK (K := K) rfl) (by rfl) B.list (by decide +kernel) (pa_cons (pv 6) pa_nil))))
      (pss_cons (ps_set (i := 7) sc_law.nd rfl (Or.inl rfl) (pe_makX K_System (hr.mono (by first | decide | omega)) tk (pa_cons (pv 4) (pa_cons (pv 3) pa_nil))))
      (pss_cons (ps_set (i := 8) sc_law.nd rfl (Or.inr rfl) (pe_lc (own := [("_law_j", 9)]) rfl sc_law.nd (pi_range1 (by rfl) B.range (pa_cons (pv 3) pa_nil)) (blkOk_by (N := ["_law_script", "_law_k", "_law_numbers_here", "_law_count", "_law_rows_here", "_law_kept", "_law_row", "_law_system", "_law_chosen", "_law_j", "_law_kernel", "_law_one", "_law_right", "_law_asked", "_law_paper", "_law_found", "_law_most", "_law_weights", "_law_kept_weights", "_law_first", "_law_gaps", "_law_factors", "_law_i"]) (sc := defScope s_law) (by decide +kernel)) (fun _ _ _ _ _ => (pg_name (i := 9) sc_law.nd rfl (by first | exact Or.inl rfl | exact Or.inr rfl))) (fun _ _ _ _ _ => pts_nil) (fun _ _ _ _ _ => (pe_op op_sub (pe_op op_mod (pe_callTy call_int1 (by rfl) B.int (by decide +kernel) (pa_cons (pe_ix (ix_listK (K := K) rfl) (pv 2) (pe_op op_add pe_int (pv 9)) (fun _ _ => rfl)) pa_nil)) (pe_ix (ix_listK (K := K) rfl) (pe_lst (pa_cons pe_int (pa_cons pe_int pa_nil))) (pe_op op_mod (pe_callTy call_int1 (by rfl) B.int (by decide +kernel) (pa_cons (pe_ix (ix_listK (K := K) rfl) (pv 2) pe_int (fun _ _ => rfl)) pa_nil)) pe_int) (fun _ _ => rfl))) pe_int))))
      (pss_cons (ps_set (i := 10) sc_law.nd rfl (Or.inr rfl) (pe_metX0 M_kernel (hr.mono (by first | decide | omega)) tk (pv 7)))
      (pss_cons (ps_for (passes_of rfl) rfl (pi_list (pv 4)) (pg_name (i := 6) sc_law.nd rfl (by first | exact Or.inl rfl | exact Or.inr rfl))
      (pss_one (ps_if (pt_cmpR op_in_seq pe_bl (pe_lc (own := [("_law_one", 11)]) rfl sc_law.nd (pi_list (pv 10)) (blkOk_by (N := ["_law_script", "_law_k", "_law_numbers_here", "_law_count", "_law_rows_here", "_law_kept", "_law_row", "_law_system", "_law_chosen", "_law_j", "_law_kernel", "_law_one", "_law_right", "_law_asked", "_law_paper", "_law_found", "_law_most", "_law_weights", "_law_kept_weights", "_law_first", "_law_gaps", "_law_factors", "_law_i"]) (sc := defScope s_law) (by decide +kernel)) (fun _ _ _ _ _ => (pg_name (i := 11) sc_law.nd rfl (by first | exact Or.inl rfl | exact Or.inr rfl))) (fun _ _ _ _ _ => pts_nil) (fun _ _ _ _ _ => (pe_cmpR op_ne (pe_calN G_law_dot (hr.mono (by first | decide | omega)) (pa_cons (pv 6) (pa_cons (pv 11) pa_nil))) pe_int (nomark _)))) (by rfl))
      (pss_one (ps_ret pe_bl))
      pss_nil)))
      (pss_cons (ps_for (passes_of rfl) rfl (pi_list (pe_lst (pa_cons (pe_lc (own := [("_law_row", 6)]) rfl sc_law.nd (pi_list (pv 4)) (blkOk_by (N := ["_law_script", "_law_k", "_law_numbers_here", "_law_count", "_law_rows_here", "_law_kept", "_law_row", "_law_system", "_law_chosen", "_law_j", "_law_kernel", "_law_one", "_law_right", "_law_asked", "_law_paper", "_law_found", "_law_most", "_law_weights", "_law_kept_weights", "_law_first", "_law_gaps", "_law_factors", "_law_i"]) (sc := defScope s_law) (by decide +kernel)) (fun _ _ _ _ _ => (pg_name (i := 6) sc_law.nd rfl (by first | exact Or.inl rfl | exact Or.inr rfl))) (fun _ _ _ _ _ => pts_nil) (fun _ _ _ _ _ => (pe_calN G_law_dot (hr.mono (by first | decide | omega)) (pa_cons (pv 6) (pa_cons (pv 8) pa_nil))))) (pa_cons (pe_lc (own := [("_law_j", 9)]) rfl sc_law.nd (pi_range1 (by rfl) B.range (pa_cons (pe_callB call_len_seq (by rfl) B.len PySem.boot_len (pa_cons (pv 4) pa_nil)) pa_nil)) (blkOk_by (N := ["_law_script", "_law_k", "_law_numbers_here", "_law_count", "_law_rows_here", "_law_kept", "_law_row", "_law_system", "_law_chosen", "_law_j", "_law_kernel", "_law_one", "_law_right", "_law_asked", "_law_paper", "_law_found", "_law_most", "_law_weights", "_law_kept_weights", "_law_first", "_law_gaps", "_law_factors", "_law_i"]) (sc := defScope s_law) (by decide +kernel)) (fun _ _ _ _ _ => (pg_name (i := 9) sc_law.nd rfl (by first | exact Or.inl rfl | exact Or.inr rfl))) (fun _ _ _ _ _ => pts_nil) (fun _ _ _ _ _ => (pe_op op_sub (pe_op op_mod (pe_callTy call_int1 (by rfl) B.int (by decide +kernel) (pa_cons (pe_ix (ix_listK (K := K) rfl) (pv 2) (pe_op op_add pe_int (pv 9)) (fun _ _ => rfl)) pa_nil)) (pe_ix (ix_listK (K := K) rfl) (pe_lst (pa_cons pe_int (pa_cons pe_int pa_nil))) (pe_op op_mod (pe_callTy call_int1 (by rfl) B.int (by decide +kernel) (pa_cons (pe_ix (ix_listK (K := K) rfl) (pv 2) pe_int (fun _ _ => rfl)) pa_nil)) pe_int) (fun _ _ => rfl))) pe_int))) pa_nil)))) (pg_name (i := 12) sc_law.nd rfl (Or.inl rfl))
      (pss_cons (ps_set (i := 13) sc_law.nd rfl (Or.inl rfl) (pe_callTy call_list_of (by rfl) B.list (by decide +kernel) (pa_cons (pv 12) pa_nil)))
      (pss_cons (ps_set (i := 14) sc_law.nd rfl (Or.inl rfl) (pe_metX M_paper (hr.mono (by first | decide | omega)) tk (pe_makX K_System (hr.mono (by first | decide | omega)) tk (pa_cons (pv 4) (pa_cons (pv 3) pa_nil))) (pa_cons (pv 13) pa_nil)))
      (pss_cons (ps_set (i := 15) sc_law.nd rfl (Or.inr rfl) (pe_metX M_solve (hr.mono (by first | decide | omega)) tk (pv 7) (pa_cons (pv 13) pa_nil)))
      (pss_cons (ps_if (pt_cmpR (op_neDk rfl hu64) (pv 13) (pv 12) (nomark _))
      (pss_one (ps_ret pe_bl))
      pss_nil)
      (C8.pss_cut (ps_if (pt_cmpR op_notN (pv 15) pe_non (nomark _))
      (pss_one (ps_if (PW.pt (pw_or (pt_cmpR op_notN (pv 14) pe_non (nomark _)) (pw_or (pt_cmpR op_ne (pe_callB call_len_seq (by rfl) B.len PySem.boot_len (pa_cons (pv 15) pa_nil)) (pv 3) (nomark _)) (pw_or1 (pt_cmpR (op_neDk rfl hu64) (pe_lc (own := [("_law_row", 6)]) rfl sc_law.nd (pi_list (pv 4)) (blkOk_by (N := ["_law_script", "_law_k", "_law_numbers_here", "_law_count", "_law_rows_here", "_law_kept", "_law_row", "_law_system", "_law_chosen", "_law_j", "_law_kernel", "_law_one", "_law_right", "_law_asked", "_law_paper", "_law_found", "_law_most", "_law_weights", "_law_kept_weights", "_law_first", "_law_gaps", "_law_factors", "_law_i"]) (sc := defScope s_law) (by decide +kernel)) (fun _ _ _ _ _ => (pg_name (i := 6) sc_law.nd rfl (by first | exact Or.inl rfl | exact Or.inr rfl))) (fun _ _ _ _ _ => pts_nil) (fun _ _ _ _ _ => (pe_calN G_law_dot (hr.mono (by first | decide | omega)) (pa_cons (pv 6) (pa_cons (pv 15) pa_nil))))) (pv 12) (nomark _))))))
      (pss_one (ps_ret pe_bl))
      pss_nil))
      (pss_one (ps_if (PW.pt (pw_or (pt_cmpR op_isN (pv 14) pe_non (nomark _)) (pw_or (pt_not (pt_val (pe_cal G_law_shows (hr.mono (by first | decide | omega)) tk (pa_cons (pv 4) (pa_cons (pv 3) (pa_cons (pv 12) (pa_cons (pv 14) pa_nil))))))) (pw_or1 (pt_cmpR op_isnot_bl (pe_cal G_shows_none (hr.mono (by first | decide | omega)) tk (pa_cons (pv 4) (pa_cons (pv 12) (pa_cons (pv 14) pa_nil)))) pe_bl (nomark _))))))
      (pss_one (ps_ret pe_bl))
      pss_nil)))
      (pss_cons (ps_set (i := 16) sc_law.nd rfl (Or.inr rfl) (pe_ix ix_list (pe_lst (pa_cons pe_int (pa_cons pe_int (pa_cons pe_int (pa_cons pe_int pa_nil))))) (pe_op op_mod (pe_callTy call_int1 (by rfl) B.int (by decide +kernel) (pa_cons (pe_ix ix_list (pv 2) pe_int (fun _ _ => rfl)) pa_nil)) pe_int) (fun _ _ => rfl)))
      (pss_cons (ps_setLc (i := 17) (own := [("_law_j", 9)]) rfl sc_law.nd rfl rfl (sw_true rfl rfl rfl (by decide +kernel)) (pi_range1 (by rfl) B.range (pa_cons (pe_callB call_len_seq (by rfl) B.len PySem.boot_len (pa_cons (pv 4) pa_nil)) pa_nil)) (blkOk_by (N := ["_law_script", "_law_k", "_law_numbers_here", "_law_count", "_law_rows_here", "_law_kept", "_law_row", "_law_system", "_law_chosen", "_law_j", "_law_kernel", "_law_one", "_law_right", "_law_asked", "_law_paper", "_law_found", "_law_most", "_law_weights", "_law_kept_weights", "_law_first", "_law_gaps", "_law_factors", "_law_i"]) (sc := defScope s_law) (by decide +kernel)) (fun _ _ _ _ _ => (pg_name (i := 9) sc_law.nd rfl (by first | exact Or.inl rfl | exact Or.inr rfl))) (fun _ _ _ _ _ => pts_nil) (fun _ _ _ _ _ => (pe_tup (pa_cons (pe_op op_sub (pe_op op_mod (pe_callTy call_int1 (by rfl) B.int (by decide +kernel) (pa_cons (pe_op op_fdiv (pe_ix (ix_listK (K := K) rfl) (pv 2) (pe_op op_add (pv 9) pe_int) (fun _ _ => rfl)) pe_int) pa_nil)) pe_int) pe_int) (pa_cons (pe_op op_add pe_int (pe_op op_mod (pe_callTy call_int1 (by rfl) B.int (by decide +kernel) (pa_cons (pe_op op_fdiv (pe_ix (ix_listK (K := K) rfl) (pv 2) (pe_op op_add (pv 9) pe_int) (fun _ _ => rfl)) pe_int) pa_nil)) (pv 16))) pa_nil)))))
      (pss_cons (ps_set (i := 18) sc_law.nd rfl (Or.inl rfl) (pe_callTy call_list_of (by rfl) B.list (by decide +kernel) (pa_cons (pv 17) pa_nil)))
      (pss_cons (ps_if (PW.pt (pw_or (pt_cmpR op_ne (pe_cal G_shows_none (hr.mono (by first | decide | omega)) tk (pa_cons (pv 4) (pa_cons (pv 13) (pa_cons (pv 17) pa_nil)))) (pe_cal G_law_shows (hr.mono (by first | decide | omega)) tk (pa_cons (pv 4) (pa_cons (pv 3) (pa_cons (pv 12) (pa_cons (pv 17) pa_nil))))) (nomark _)) (pw_or1 (pt_not (pt_val (pe_callB call_isi (by rfl) B.isinstance (by decide +kernel) (pa_cons (pe_cal G_shows_none (hr.mono (by first | decide | omega)) tk (pa_cons (pv 4) (pa_cons (pv 13) (pa_cons (pv 17) pa_nil)))) (pa_cons (pe_bltn (v := .ty "bool") (by rfl) B.bool (by decide +kernel) rfl) pa_nil))))))))
      (pss_one (ps_ret pe_bl))
      pss_nil)
      (pss_cons (ps_if (PW.pt (pw_or (pt_cmpR op_isnot_bl (pe_cal G_shows_none (hr.mono (by first | decide | omega)) tk (pa_cons (pv 4) (pa_cons (pv 12) (pa_cons (pe_op op_cat (pv 17) (pe_lst (pa_cons (pe_tup (pa_cons pe_int (pa_cons pe_int pa_nil))) pa_nil))) pa_nil)))) pe_bl (nomark _)) (pw_or1 (pt_cmpR op_isnot_bl (pe_cal G_shows_none (hr.mono (by first | decide | omega)) tk (pa_cons (pv 4) (pa_cons (pv 12) (pa_cons (pe_slice sl_list (pe_op op_cat (pe_lst (pa_cons (pe_tup (pa_cons pe_int (pa_cons pe_int pa_nil))) pa_nil)) (pv 17)) po_none (po_some (pe_op op_add (pe_callB call_len_seq (by rfl) B.len PySem.boot_len (pa_cons (pv 4) pa_nil)) pe_int))) pa_nil)))) pe_bl (nomark _)))))
      (pss_one (ps_ret pe_bl))
      pss_nil)
      (pss_cons (ps_if (PW.pt (pw_and (pt_cmpR op_gt (pe_callB call_len_seq (by rfl) B.len PySem.boot_len (pa_cons (pv 4) pa_nil)) pe_int (nomark _)) (pw_and1 (pt_cmpR op_isnot_bl (pe_cal G_shows_none (hr.mono (by first | decide | omega)) tk (pa_cons (pv 4) (pa_cons (pv 12) (pa_cons (pe_slice sl_list (pv 17) (po_some pe_int) po_none) pa_nil)))) pe_bl (nomark _)))))
      (pss_one (ps_ret pe_bl))
      pss_nil)
      (pss_one (ps_if (PW.pt (pw_or (pt_cmpR (op_neDk rfl hu64) (pv 17) (pv 18) (nomark _)) (pw_or1 (pt_cmpR (op_neDk rfl hu64) (pv 13) (pv 12) (nomark _)))))
      (pss_one (ps_ret pe_bl))
      pss_nil))))))))))))))
      (pss_cons (ps_set (i := 19) sc_law.nd rfl (Or.inr rfl) (pe_metX M_solve (hr.mono (by first | decide | omega)) tk (pv 7) (pa_cons (pe_lc (own := [("_law_row", 6)]) rfl sc_law.nd (pi_list (pv 4)) (blkOk_by (N := ["_law_script", "_law_k", "_law_numbers_here", "_law_count", "_law_rows_here", "_law_kept", "_law_row", "_law_system", "_law_chosen", "_law_j", "_law_kernel", "_law_one", "_law_right", "_law_asked", "_law_paper", "_law_found", "_law_most", "_law_weights", "_law_kept_weights", "_law_first", "_law_gaps", "_law_factors", "_law_i"]) (sc := defScope s_law) (by decide +kernel)) (fun _ _ _ _ _ => (pg_name (i := 6) sc_law.nd rfl (by first | exact Or.inl rfl | exact Or.inr rfl))) (fun _ _ _ _ _ => pts_nil) (fun _ _ _ _ _ => (pe_calN G_law_dot (hr.mono (by first | decide | omega)) (pa_cons (pv 6) (pa_cons (pv 8) pa_nil))))) pa_nil)))
      (pss_cons (ps_if (PW.pt (pw_or (pt_cmpR op_isN (pv 19) pe_non (nomark _)) (pw_or1 (pt_cmpR (op_neDk rfl hu64) (pv 4) (pv 5) (nomark _)))))
      (pss_one (ps_ret pe_bl))
      pss_nil)
      (pss_cons (ps_set (i := 20) sc_law.nd rfl (Or.inl rfl) (pe_makX K_System (hr.mono (by first | decide | omega)) tk (pa_cons (pe_lc (own := [("_law_j", 9)]) rfl sc_law.nd (pi_range1 (by rfl) B.range (pa_cons (pv 3) pa_nil)) (blkOk_by (N := ["_law_script", "_law_k", "_law_numbers_here", "_law_count", "_law_rows_here", "_law_kept", "_law_row", "_law_system", "_law_chosen", "_law_j", "_law_kernel", "_law_one", "_law_right", "_law_asked", "_law_paper", "_law_found", "_law_most", "_law_weights", "_law_kept_weights", "_law_first", "_law_gaps", "_law_factors", "_law_i"]) (sc := defScope s_law) (by decide +kernel)) (fun _ _ _ _ _ => (pg_name (i := 9) sc_law.nd rfl (by first | exact Or.inl rfl | exact Or.inr rfl))) (fun _ _ _ _ _ => pts_nil) (fun _ _ _ _ _ => (pe_lc (own := [("_law_one", 11)]) rfl sc_law.nd (pi_listK (K := K) rfl (pv 10)) (blkOk_by (N := ["_law_script", "_law_k", "_law_numbers_here", "_law_count", "_law_rows_here", "_law_kept", "_law_row", "_law_system", "_law_chosen", "_law_j", "_law_kernel", "_law_one", "_law_right", "_law_asked", "_law_paper", "_law_found", "_law_most", "_law_weights", "_law_kept_weights", "_law_first", "_law_gaps", "_law_factors", "_law_i"]) (by with_unfolding_all rfl)) (fun _ _ _ _ _ => (pg_name (i := 11) sc_law.nd rfl (by first | exact Or.inl rfl | exact Or.inr rfl))) (fun _ _ _ _ _ => pts_nil) (fun _ _ _ _ _ => (pe_ix (ix_listK (K := K) rfl) (pv 11) (pv 9) (fun _ _ => rfl)))))) (pa_cons (pe_callB call_len_seq (by rfl) B.len PySem.boot_len (pa_cons (pv 10) pa_nil)) pa_nil))))
      (pss_cons (ps_set (i := 21) sc_law.nd rfl (Or.inr rfl) (pe_metX M_solve (hr.mono (by first | decide | omega)) tk (pv 20) (pa_cons (pe_lc (own := [("_law_j", 9)]) rfl sc_law.nd (pi_range1 (by rfl) B.range (pa_cons (pv 3) pa_nil)) (blkOk_by (N := ["_law_script", "_law_k", "_law_numbers_here", "_law_count", "_law_rows_here", "_law_kept", "_law_row", "_law_system", "_law_chosen", "_law_j", "_law_kernel", "_law_one", "_law_right", "_law_asked", "_law_paper", "_law_found", "_law_most", "_law_weights", "_law_kept_weights", "_law_first", "_law_gaps", "_law_factors", "_law_i"]) (sc := defScope s_law) (by decide +kernel)) (fun _ _ _ _ _ => (pg_name (i := 9) sc_law.nd rfl (by first | exact Or.inl rfl | exact Or.inr rfl))) (fun _ _ _ _ _ => pts_nil) (fun _ _ _ _ _ => (pe_op op_sub (pe_ix (ix_listK (K := K) rfl) (pv 8) (pv 9) (fun _ _ => rfl)) (pe_ix (ix_listK (K := K) rfl) (pv 19) (pv 9) (fun _ _ => rfl))))) pa_nil)))
      (pss_cons (ps_if (PW.pt (pw_or (pt_cmpR op_isN (pv 21) pe_non (nomark _)) (pw_or1 (pt_cmpR (op_neDk rfl hu64) (pe_metX0 M_kernel (hr.mono (by first | decide | omega)) tk (pv 20)) (pe_lst pa_nil) (nomark _)))))
      (pss_one (ps_ret pe_bl))
      pss_nil)
      (pss_one (ps_if (pt_cmpR (op_neDk rfl hu64) (pe_lc (own := [("_law_j", 9)]) rfl sc_law.nd (pi_range1 (by rfl) B.range (pa_cons (pv 3) pa_nil)) (blkOk_by (N := ["_law_script", "_law_k", "_law_numbers_here", "_law_count", "_law_rows_here", "_law_kept", "_law_row", "_law_system", "_law_chosen", "_law_j", "_law_kernel", "_law_one", "_law_right", "_law_asked", "_law_paper", "_law_found", "_law_most", "_law_weights", "_law_kept_weights", "_law_first", "_law_gaps", "_law_factors", "_law_i"]) (sc := defScope s_law) (by decide +kernel)) (fun _ _ _ _ _ => (pg_name (i := 9) sc_law.nd rfl (by first | exact Or.inl rfl | exact Or.inr rfl))) (fun _ _ _ _ _ => pts_nil) (fun _ _ _ _ _ => (pe_op op_add (pe_ix (ix_listK (K := K) rfl) (pv 19) (pv 9) (fun _ _ => rfl)) (pe_callB (cr_sumK (K := K) rfl rfl) (by rfl) B.sum (by decide +kernel) (pa_cons (pe_lc (own := [("_law_i", 22)]) rfl sc_law.nd (pi_range1 (by rfl) B.range (pa_cons (pe_callB (call_len_seqK (K := K) rfl) (by rfl) B.len PySem.boot_len (pa_cons (pv 10) pa_nil)) pa_nil)) (blkOk_by (N := ["_law_script", "_law_k", "_law_numbers_here", "_law_count", "_law_rows_here", "_law_kept", "_law_row", "_law_system", "_law_chosen", "_law_j", "_law_kernel", "_law_one", "_law_right", "_law_asked", "_law_paper", "_law_found", "_law_most", "_law_weights", "_law_kept_weights", "_law_first", "_law_gaps", "_law_factors", "_law_i"]) (by with_unfolding_all rfl)) (fun _ _ _ _ _ => (pg_name (i := 22) sc_law.nd rfl (by first | exact Or.inl rfl | exact Or.inr rfl))) (fun _ _ _ _ _ => pts_nil) (fun _ _ _ _ _ => (pe_op op_mulA (pe_ix (ix_listK (K := K) rfl) (pv 21) (pv 22) (fun _ _ => rfl)) (pe_ix (ix_listK (K := K) rfl) (pe_ix (ix_listK (K := K) rfl) (pv 10) (pv 22) (fun _ _ => rfl)) (pv 9) (fun _ _ => rfl))))) pa_nil))))) (pv 8) (nomark _))
      (pss_one (ps_ret pe_bl))
      pss_nil)))))))))))))))))
      (pss_one (ps_ret pe_bl))), ?_⟩
    walk_at "rq"
    refine ⟨a, _, rfl, .inl hS, ?_⟩
    walk_at "rq"
    rw [List.length_map]
    have hct : ∃ c : Nat, (if (if 4 < (ns.length : Int) then (4 : Int) else (ns.length : Int)) > 1 then if 4 < (ns.length : Int) then (4 : Int) else (ns.length : Int) else 1) = (c : Int) ∧ c ≤ 4 := by
      by_cases h1 : 4 < (ns.length : Int)
      · exact ⟨4, by rw [if_pos h1]; rfl, by omega⟩
      · rw [if_neg h1]
        by_cases h2 : (ns.length : Int) > 1
        · exact ⟨ns.length, by rw [if_pos h2], by omega⟩
        · exact ⟨1, by rw [if_neg h2]; rfl, by omega⟩
    obtain ⟨cN, hct, hcN⟩ := hct
    rw [hct]
    refine ⟨by omega, by omega, ?_⟩
    rw [show ((cN : Int)).toNat = cN by omega]
    refine for_range (lo := 0) (n := cN) (fun k σ' H' => ∃ (v1 v2 v3 v4 v5 v6 v7 v8 v9 v10 v11 v12 v13 v14 v15 v16 v17 v18 v19 v20 v21 v22 : Option V), σ' = [some (.ref a), v1, v2, v3, v4, v5, v6, v7, v8, v9, v10, v11, v12, v13, v14, v15, v16, v17, v18, v19, v20, v21, v22] ∧ Same H H') ⟨_, _, _, _, _, _, _, _, _, _, _, _, _, _, _, _, _, _, _, _, _, _, rfl, fun b o h => h⟩ ?_ ?_
    · rintro k0 σ' H0 hk0 ⟨v1, v2, v3, v4, v5, v6, v7, v8, v9, v10, v11, v12, v13, v14, v15, v16, v17, v18, v19, v20, v21, v22, rfl, s0⟩
      walk_at "rq"
      rw [show (0 : Int) + (k0 : Int) = ((k0 : Nat) : Int) by omega]
      refine ⟨a, ns, k0, rfl, sql_keep hS s0, ?_⟩
      walk_at "rq"
      refine ⟨ns.getD k0 0, 50, rfl, by decide, by decide, fun na N H1 s1 hna hNl hN => ?_⟩
      have hN0 := nums_lt hN
      walk_at "rq"
      refine r_ixL (n := 49) (SqL.of hna) (natsV_get (N := N) (by omega)) ?_
      walk_at "rq"
      have hcn : ∃ n : Nat, ((N.getD 49 0 : Nat) : Int) % 9 = (n : Int) ∧ n ≤ 8 := ⟨N.getD 49 0 % 9, by omega, by omega⟩
      obtain ⟨n, en, hn⟩ := hcn
      rw [en]
      walk_at "rq"
      refine ⟨na, N, n, rfl, hna, hNl, hN, hn, fun rA rs A m H2 s2 hm hA hAb => ?_⟩
      have hA40 : ∀ r, r < m → ∀ k, k < n → (A r k).natAbs < 2 ^ 20 := fun r hr k hk => pow_lt_of (hAb r hr k hk) (by decide)
      have hna2 := s2 _ _ hna
      walk_at "rq"
      refine ⟨⟨_, SqL.of hA.l⟩, fun D hD => ?_⟩
      refine lcw_list (fun i H' => Same H2 H' ∧ ∃ ks, Mat H' D ks A i n) ⟨Same.new hD, [], Mat.empty D⟩ (fun i H' _ h => SqL.of (hA.keep h.1).l) ?_ ?_
      · rintro i v H3 hv ⟨s3, ks, hm3⟩
        have hi : i < m := by rw [← hA.len, ← List.length_map (f := V.ref)]; exact (List.getElem?_eq_some_iff.mp hv).1
        obtain ⟨y, _, hyl, hyr, _⟩ := (hA.keep s3).at_ (k := i) hi
        rw [hv] at hyr
        cases hyr
        walk_at "rq"
        refine ⟨y, _, rfl, .inl (SqL.of hyl), fun l hl => ?_⟩
        obtain ⟨f1, f2⟩ := hm3.fresh hl
        have hm4 := hm3.keep (Same.new (o := .lst (rowV A n i)) hl)
        exact ⟨_, hm4.l, by rw [sizeLine_eq, List.length_map, hm3.len]; omega, Same.mut (fun b o h => Same.new hl _ _ (s3 _ _ h)) hD, ks ++ [l], hm4.snoc upd_same f1 f2⟩
      · rintro H3 ⟨s3, ks, hkp⟩
        rw [List.length_map, hA.len] at hkp
        have hA3 := hA.keep s3
        walk_at "rq"
        refine fun x dx hx hdx hne => ⟨x, dx, rA, rs, A, n, m, 19, rfl, upd_same, ?_, ⟨by omega, by omega⟩, hAb, ?_, fun H4 M T pw f4 hSy hSt => ⟨rfl, ?_⟩⟩
        · exact (hA3.keep (Same.new hdx)).keep (Same.new ((upd_ne (Ne.symm hne)).trans hx))
        · have := eB_mono (b := 19) hn
          rw [eB8] at this
          omega
        have s4 := frx_same hx hdx f4
        have hpn := hSt.len
        have hρ : pw.length ≤ 8 := by omega
        have hc8 : eB 19 pw.length ≤ 134499 := by rw [← eB8]; exact eB_mono hρ
        have hA4 := hA3.keep s4
        have hkp4 := hkp.keep s4
        have hna4 := s4 _ _ (s3 _ _ hna2)
        have s04 : Same H H4 := fun b o h => s4 _ _ (s3 _ _ (s2 _ _ (s1 _ _ (s0 _ _ h))))
        generalize hc : eB 19 pw.length = c at *
        have hT4 : ∀ k, k < n → ∀ r, r < n → (T k r).natAbs ≤ 2 ^ c := by rw [← hc]; exact hSt.bt
        obtain ⟨dxx, q0, q1, q2, q3, q4, q5, q6, hxi4, _⟩ := hSy.ex
        clear hA3 hkp hna2 hna hA s1 s2 s3 s4 hx hdx f4 hD
        walk_at "rq"
        refine ⟨by omega, by omega, fun D2 hD2 => ?_⟩
        rw [show ((n : Int)).toNat = n by omega]
        refine lcw_range (lo := 0) (n := n) (fun i H' => Same H4 H' ∧ ∃ X, H' D2 = some (.lst (intsV X i)) ∧ ∀ q, q < i → (X q).natAbs < 2 ^ 17) ⟨Same.new hD2, fun _ => 0, upd_same, fun q h => by omega⟩ ?_ ?_
        · rintro i H5 hi ⟨s5, X, h5, hX⟩
          walk_at "rq"
          rw [show (40 : Int) + (0 + (i : Int)) = ((40 + i : Nat) : Int) by omega]
          refine r_ixL (SqL.of (s5 _ _ hna4)) (natsV_get (N := N) (by omega)) ?_
          walk_at "rq"
          intro t0 ht0
          have a0 : upd H5 t0 (.lst [.int 9, .int 100000]) t0 = some (.lst [.int 9, .int 100000]) := upd_same
          have s6 : Same H5 (upd H5 t0 (.lst [.int 9, .int 100000])) := Same.new ht0
          generalize upd H5 t0 (.lst [.int 9, .int 100000]) = H6 at *
          walk_at "rq"
          refine r_ixL (n := 47) (SqL.of (s6 _ _ (s5 _ _ hna4))) (natsV_get (N := N) (by omega)) ?_
          walk_at "rq"
          rw [show ((N.getD 47 0 : Nat) : Int) % 2 = ((N.getD 47 0 % 2 : Nat) : Int) by omega]
          obtain ⟨l, hl, hl2⟩ := two_get 9 100000 (N.getD 47 0)
          refine r_ixL (SqL.of a0) hl ?_
          walk_at "rq"
          refine r_I (by omega) ?_
          walk_at "rq"
          refine ⟨_, s6 _ _ h5, by rw [sizeLine_eq, intsV_len]; omega, Same.mut (fun b o h => s6 _ _ (s5 _ _ h)) hD2, _, by rw [upd_same, intsV_app], fun q hq => ?_⟩
          by_cases e : q = i
          · rw [if_pos e]
            have h1 := Int.emod_nonneg ((N.getD (40 + i) 0 : Nat) : Int) (b := l) (by omega)
            have h2 := Int.emod_lt_of_pos ((N.getD (40 + i) 0 : Nat) : Int) (b := l) (by omega)
            generalize ((N.getD (40 + i) 0 : Nat) : Int) % l = u at *
            show _ < 131072
            omega
          · rw [if_neg e]
            exact hX q (by omega)
        · rintro H5 ⟨s5, X, hX5, hX⟩
          walk_at "rq"
          refine r_metI (by with_unfolding_all rfl) (s5 _ _ hxi4) rfl ?_
          walk_at "rq"
          refine ⟨x, A, n, m, M, T, pw, rfl, hSy.keep s5, ⟨hpn, by omega⟩, fun ka kas H6 s6 _ _ hK6 => ?_⟩
          have s46 : Same H4 H6 := same_tr s5 s6
          have s06 := same_tr s04 s46
          have hA6 := hA4.keep s46
          have hkp6 := hkp4.keep s46
          have hna6 := s46 _ _ hna4
          have hSy6 := hSy.keep s46
          have hX6 := s6 _ _ hX5
          have hxi6 := s46 _ _ hxi4
          clear hA4 hkp4 hna4 hSy hX5 hxi4 s46 s5 s6 hD2
          generalize hd : n - pw.length = d at *
          have hpT : ∀ k, k < d → Sol A n m (fun _ => 0) (T (pw.length + k)) := fun k hk => hSt.ker (by omega) (by omega)
          walk_at "rq"
          refine ⟨⟨_, SqL.of hA6.l⟩, ?_⟩
          refine for_list (fun i σ' H' => ∃ (v6 v9 v11 : Option V), σ' = [some (.ref a), some (.int (k0 : Int)), some (.ref na), some (.int (n : Int)), some (.ref rA), some (.ref D), v6, some (.ref x), some (.ref D2), v9, some (.ref ka), v11, v12, v13, v14, v15, v16, v17, v18, v19, v20, v21, v22] ∧ Same H6 H') ⟨_, _, _, rfl, fun b o h => h⟩ (fun i σ' H' _ h => by obtain ⟨_, _, _, rfl, s⟩ := h; exact SqL.of (hA6.keep s).l) ?_ ?_
          · rintro i v σ' H7 hv ⟨v6, v9, v11, rfl, s7⟩
            have hi : i < m := by rw [← hA6.len, ← List.length_map (f := V.ref)]; exact (List.getElem?_eq_some_iff.mp hv).1
            obtain ⟨y, _, hyl, hyr, _⟩ := (hA6.keep s7).at_ (k := i) hi
            rw [hv] at hyr
            cases hyr
            have hK7 := hK6.keep s7
            walk_at "rq"
            refine ⟨⟨_, SqL.of hK7.l⟩, fun D3 hD3 => ?_⟩
            refine lcw_list (fun j H' => Same H7 H' ∧ H' D3 = some (.lst (List.replicate j (.bl false)))) ⟨Same.new hD3, upd_same⟩ (fun j H' _ h => SqL.of (hK7.keep h.1).l) ?_ ?_
            · rintro j v H8 hv ⟨s8, h8⟩
              have hj : j < d := by rw [← hK6.len, ← List.length_map (f := V.ref)]; exact (List.getElem?_eq_some_iff.mp hv).1
              obtain ⟨z, _, hzl, hzr, _⟩ := (hK7.keep s8).at_ (k := j) hj
              rw [hv] at hzr
              cases hzr
              walk_at "rq"
              refine ⟨y, z, A i, T (pw.length + j), n, n, 20, c + 1, rfl, s8 _ _ hyl, hzl, Nat.le_refl _, by omega, hA40 i hi, fun q hq => pow_lt_of (hT4 _ (by omega) q hq) (by omega), by omega, fun H9 s9 => ?_⟩
              rw [show (sm n fun q => A i q * T (pw.length + j) q) = 0 from hpT j hj i hi]
              walk_at "rq"
              refine ⟨_, s9 _ _ h8, by rw [sizeLine_eq, List.length_replicate]; omega, Same.mut (fun b o h => s9 _ _ (s8 _ _ h)) hD3, ?_⟩
              rw [upd_same, List.replicate_succ']
              rfl
            · rintro H8 ⟨s8, h8⟩
              rw [List.length_map, hK6.len] at h8
              walk_at "rq"
              refine r_iL (SqL.of h8) rfl (by rw [List.all_replicate]; split <;> rfl) ?_
              rw [inV_falses]
              walk_at "rq"
              exact ⟨_, _, _, rfl, same_tr s7 s8⟩
          · rintro σ' H7 ⟨v6, v9, v11, rfl, s7⟩
            have hA7 := hA6.keep s7
            have hX7 := s7 _ _ hX6
            walk_at "rq"
            refine ⟨⟨_, SqL.of hA7.l⟩, fun D3 hD3 => ?_⟩
            refine lcw_list (fun i H' => Same H7 H' ∧ H' D3 = some (.lst (intsV (fun r => sm n fun q => A r q * X q) i))) ⟨Same.new hD3, upd_same⟩ (fun i H' _ h => SqL.of (hA7.keep h.1).l) ?_ ?_
            · rintro i v H8 hv ⟨s8, h8⟩
              have hi : i < m := by rw [← hA7.len, ← List.length_map (f := V.ref)]; exact (List.getElem?_eq_some_iff.mp hv).1
              obtain ⟨y, _, hyl, hyr, _⟩ := (hA7.keep s8).at_ (k := i) hi
              rw [hv] at hyr
              cases hyr
              walk_at "rq"
              refine ⟨y, D2, A i, X, n, n, 20, 17, rfl, hyl, s8 _ _ hX7, Nat.le_refl _, by omega, hA40 i hi, hX, by omega, fun H9 s9 => ?_⟩
              walk_at "rq"
              exact ⟨_, s9 _ _ h8, by rw [sizeLine_eq, intsV_len]; omega, Same.mut (fun b o h => s9 _ _ (s8 _ _ h)) hD3, by rw [upd_same, intsV_succ]⟩
            · rintro H8 ⟨s8, h8⟩
              rw [List.length_map, hA7.len] at h8
              walk_at "rq"
              refine ⟨rA, _, rfl, .inl (SqL.of (s8 _ _ hA7.l)), ?_⟩
              walk_at "rq"
              rw [List.length_map, hA7.len]
              refine ⟨by omega, by omega, fun D4 hD4 => ?_⟩
              rw [show ((m : Int)).toNat = m by omega]
              refine lcw_range (lo := 0) (n := m) (fun i H' => Same H8 H' ∧ ∃ Y, H' D4 = some (.lst (intsV Y i)) ∧ ∀ q, q < i → (Y q).natAbs < 2 ^ 17) ⟨Same.new hD4, fun _ => 0, upd_same, fun q h => by omega⟩ ?_ ?_
              · rintro i H9 hi ⟨s9, Y, h9, hY⟩
                have hna9 := s9 _ _ (s8 _ _ (s7 _ _ hna6))
                walk_at "rq"
                rw [show (30 : Int) + (0 + (i : Int)) = ((30 + i : Nat) : Int) by omega]
                refine r_ixL (SqL.of hna9) (natsV_get (N := N) (by omega)) ?_
                walk_at "rq"
                intro t0 ht0
                have a0 : upd H9 t0 (.lst [.int 7, .int 100000]) t0 = some (.lst [.int 7, .int 100000]) := upd_same
                have s10 : Same H9 (upd H9 t0 (.lst [.int 7, .int 100000])) := Same.new ht0
                generalize upd H9 t0 (.lst [.int 7, .int 100000]) = H10 at *
                walk_at "rq"
                refine r_ixL (n := 48) (SqL.of (s10 _ _ hna9)) (natsV_get (N := N) (by omega)) ?_
                walk_at "rq"
                rw [show ((N.getD 48 0 : Nat) : Int) % 2 = ((N.getD 48 0 % 2 : Nat) : Int) by omega]
                obtain ⟨l, hl, hl2⟩ := two_get 7 100000 (N.getD 48 0)
                refine r_ixL (SqL.of a0) hl ?_
                walk_at "rq"
                refine r_I (by omega) ?_
                walk_at "rq"
                refine ⟨_, s10 _ _ h9, by rw [sizeLine_eq, intsV_len]; omega, Same.mut (fun b o h => s10 _ _ (s9 _ _ h)) hD4, _, by rw [upd_same, intsV_app], fun q hq => ?_⟩
                by_cases e : q = i
                · rw [if_pos e]
                  have h1 := Int.emod_nonneg ((N.getD (30 + i) 0 : Nat) : Int) (b := l) (by omega)
                  have h2 := Int.emod_lt_of_pos ((N.getD (30 + i) 0 : Nat) : Int) (b := l) (by omega)
                  generalize ((N.getD (30 + i) 0 : Nat) : Int) % l = u at *
                  show _ < 131072
                  omega
                · rw [if_neg e]
                  exact hY q (by omega)
              · rintro H9 ⟨s9, Y, h9, hY⟩
                walk_at "rq"
                intro L hL
                have aL : upd H9 L (.lst [.ref D3, .ref D4]) L = some (.lst [.ref D3, .ref D4]) := upd_same
                have sL : Same H9 (upd H9 L (.lst [.ref D3, .ref D4])) := Same.new hL
                generalize upd H9 L (.lst [.ref D3, .ref D4]) = H10 at *
                have s610 : Same H6 H10 := same_tr s7 (same_tr s8 (same_tr s9 sL))
                have e3 := sL _ _ (s9 _ _ h8)
                have e4 := sL _ _ h9
                have hR1 : ∀ r, r < m → (sm n fun q => A r q * X q).natAbs < 2 ^ 46 := fun r hr => pow_lt_lt (sm_lt (e := 37) (fun q hq => mul_lt2 (hA40 r hr q hq) (Nat.le_of_lt (hX q hq))) n (Nat.le_refl _)) (by omega)
                have hR2 : ∀ r, r < m → (Y r).natAbs < 2 ^ 46 := fun r hr => pow_lt_lt (hY r hr) (by omega)
                generalize hR1e : (fun r => sm n fun q => A r q * X q) = R1 at *
                have hR1' : ∀ r, r < m → (R1 r).natAbs < 2 ^ 46 := fun r hr => by rw [← hR1e]; exact hR1 r hr
                have hsol1 : Sol A n m R1 X := fun r hr => by rw [← hR1e]
                have hA10 := hA6.keep s610
                have hX10 := s610 _ _ hX6
                clear hR1 hX7 hA7 hD3 hD4 hL
                refine ⟨L, rfl, ⟨_, SqL.of aL⟩, ?_⟩
                refine for_list (fun i σ' H' => ∃ (v6 v9 v11 v12 v13 v14 v15 v16 v17 v18 : Option V), σ' = [some (.ref a), some (.int (k0 : Int)), some (.ref na), some (.int (n : Int)), some (.ref rA), some (.ref D), v6, some (.ref x), some (.ref D2), v9, some (.ref ka), v11, v12, v13, v14, v15, v16, v17, v18, v19, v20, v21, v22] ∧ Same H10 H') ⟨_, _, _, _, _, _, _, _, _, _, rfl, fun b o h => h⟩ (fun i σ' H' _ h => by obtain ⟨_, _, _, _, _, _, _, _, _, _, rfl, s⟩ := h; exact SqL.of (s _ _ aL)) ?_ ?_
                · rintro i v σ' H11 hv ⟨v6, v9, v11, v12, v13, v14, v15, v16, v17, v18, rfl, s11⟩
                  have hR : ∃ (ra : Addr) (R : Nat → Int), v = .ref ra ∧ H11 ra = some (.lst (intsV R m)) ∧ ∀ r, r < m → (R r).natAbs < 2 ^ 46 := by
                    rcases i with _ | _ | i
                    · cases hv
                      exact ⟨D3, R1, rfl, s11 _ _ e3, hR1'⟩
                    · cases hv
                      exact ⟨D4, Y, rfl, s11 _ _ e4, hR2⟩
                    · cases hv
                  obtain ⟨ra, R, rfl, hra, hRb⟩ := hR
                  clear hv hR1' hR2 e3 e4
                  walk_at "rq"
                  refine ⟨ra, _, rfl, .inl (SqL.of hra), fun qa hqa => ?_⟩
                  have aq : upd H11 qa (.lst (intsV R m)) qa = some (.lst (intsV R m)) := upd_same
                  have sq : Same H11 (upd H11 qa (.lst (intsV R m))) := Same.new hqa
                  generalize upd H11 qa (.lst (intsV R m)) = H12 at *
                  have s612 : Same H6 H12 := same_tr s610 (same_tr s11 sq)
                  have hA12 := hA6.keep s612
                  have hra12 := sq _ _ hra
                  walk_at "rq"
                  refine r_metO ?_
                  walk_at "rq"
                  refine fun xp dxp hxp hdxp hnep => ⟨xp, dxp, rA, rs, A, n, m, 19, rfl, upd_same, ?_, ⟨by omega, by omega⟩, hAb, ?_, fun H13 M2 T2 pw2 f13 hSy2 hSt2 => ⟨rfl, ?_⟩⟩
                  · exact (hA12.keep (Same.new hdxp)).keep (Same.new ((upd_ne (Ne.symm hnep)).trans hxp))
                  · have := eB_mono (b := 19) hn
                    rw [eB8] at this
                    omega
                  have s13 := frx_same hxp hdxp f13
                  have hpn2 := hSt2.len
                  have hρ2 : pw2.length ≤ 8 := by omega
                  have hc2 : eB 19 pw2.length ≤ 134499 := by rw [← eB8]; exact eB_mono hρ2
                  obtain ⟨dx2, q20, q21, q22, q23, q24, q25, q26, hxi13, _⟩ := hSy2.ex
                  clear hxp hdxp f13 hqa
                  refine ⟨xp, dx2, _, rfl, hxi13, rfl, ?_⟩
                  walk_at "rq"
                  obtain ⟨u1, u2⟩ := sz_steps (s := 46) (F := 1500000) hρ2 hc2 (by decide)
                  have u3 := sz_yW (F := 1500000) hρ2 hc2 (by decide)
                  refine sp_paper (F := 1500000) hSy2 hSt2 (s13 _ _ aq) ⟨by omega, by omega⟩ hRb (by decide) ⟨u1, u3, u2, by omega⟩ fun vp H14 s14 hP => ?_
                  clear u1 u2 u3 hSy2 hSt2 hxi13 hpn2 hρ2 hc2
                  have s12_14 : Same H12 H14 := same_tr s13 s14
                  have s614 : Same H6 H14 := same_tr s612 s12_14
                  walk_at "rq"
                  refine r_metI (by with_unfolding_all rfl) (s614 _ _ hxi6) rfl ?_
                  walk_at "rq"
                  obtain ⟨u1, u2⟩ := sz_steps (s := 46) (F := 1500000) hρ (by omega : c ≤ 134499) (by decide)
                  refine sp_solve (F0 := 1500000) (F := 1700000) (hSy6.keep s614) hSt (s12_14 _ _ aq) ⟨by omega, by omega⟩ hRb (by rw [hc]; exact ⟨u1, u2, by omega⟩) (by rw [hc]; omega) fun vf H15 s15 hV => ?_
                  clear u1 u2
                  have hP := hP.keep s15
                  have s12_15 : Same H12 H15 := same_tr s12_14 s15
                  have s615 : Same H6 H15 := same_tr s612 s12_15
                  have aq15 := s12_15 _ _ aq
                  have hra15 := s12_15 _ _ hra12
                  have hA15 := hA6.keep s615
                  walk_at "rq"
                  refine r_neD (dInts_dp aq15) (dInts_dp hra15) (dInts_sh _ _) (dInts_eqv _ _) ?_
                  walk_at "rq"
                  refine ⟨fun σ' H' => ∃ (v6 : Option V), σ' = [some (.ref a), some (.int (k0 : Int)), some (.ref na), some (.int (n : Int)), some (.ref rA), some (.ref D), v6, some (.ref x), some (.ref D2), v9, some (.ref ka), v11, some (.ref ra), some (.ref qa), some vp, some vf, v16, v17, v18, v19, v20, v21, v22] ∧ Same H15 H', ?_, ?_⟩
                  · rcases hV with ⟨rfl, hno⟩ | ⟨fa, Z, rfl, hfa, hZs, hZb⟩
                    · obtain ⟨pa, us, l, rfl, hpa, hus, hll, hSh, hbd⟩ := hP.none hno
                      walk_at "rq"
                      refine ⟨rfl, ?_⟩
                      rw [d_nn]
                      walk_at "rq"
                      refine ⟨rfl, ?_⟩
                      rw [d_rn]
                      walk_at "rq"
                      refine ⟨rA, ra, pa, rs, A, n, m, R, us, prs l, 3003092, 46, rfl, hA15, hra15, ⟨hpa, prs_all hus⟩, ⟨by omega, by omega⟩, fun r hr k hk => pow_lt_lt (hA40 r hr k hk) (by decide), hRb, prs_ok hbd, by omega, fun H16 b s16 hb => ?_⟩
                      obtain rfl := hb.mpr ⟨by rw [prs_len, hll], prs_shows hSh⟩
                      walk_at "rq"
                      refine ⟨rA, ra, pa, rs, A, n, m, R, us, prs l, 3003092, 46, rfl, hA15.keep s16, s16 _ _ hra15, ⟨s16 _ _ hpa, Fr2P.keepA (prs_all hus) s16⟩, ⟨by omega, by omega⟩, fun r hr k hk => pow_lt_lt (hA40 r hr k hk) (by decide), hRb, fun w hw => ⟨Int.ne_of_gt (prs_ok hbd w hw).1, (prs_ok hbd w hw).2⟩, by decide, by omega, fun H17 b s17 hb => ?_⟩
                      obtain rfl := hb.mpr ⟨by rw [prs_len, hll], prs_shows hSh⟩
                      walk_at "rq"
                      exact ⟨_, rfl, same_tr s16 s17⟩
                    · obtain rfl := hP.sol hZs
                      walk_at "rq"
                      refine ⟨rfl, ?_⟩
                      rw [d_rn]
                      walk_at "rq"
                      refine ⟨rfl, ?_⟩
                      rw [d_nn]
                      walk_at "rq"
                      refine ⟨fa, _, rfl, .inl (SqL.of hfa), ?_⟩
                      rw [intsV_len]
                      walk_at "rq"
                      rw [decide_eq_true (rfl : (n : Int) = (n : Int))]
                      walk_at "rq"
                      refine ⟨⟨_, SqL.of hA15.l⟩, fun D5 hD5 => ?_⟩
                      refine lcw_list (fun i H' => Same H15 H' ∧ H' D5 = some (.lst (intsV (fun r => sm n fun q => A r q * Z q) i))) ⟨Same.new hD5, upd_same⟩ (fun i H' _ h => SqL.of (hA15.keep h.1).l) ?_ ?_
                      · rintro i v H16 hv ⟨s16, h16⟩
                        have hi : i < m := by rw [← hA15.len, ← List.length_map (f := V.ref)]; exact (List.getElem?_eq_some_iff.mp hv).1
                        obtain ⟨y, _, hyl, hyr, _⟩ := (hA15.keep s16).at_ (k := i) hi
                        rw [hv] at hyr
                        cases hyr
                        walk_at "rq"
                        refine ⟨y, fa, A i, Z, n, n, 20, 1700000, rfl, hyl, s16 _ _ hfa, Nat.le_refl _, by omega, hA40 i hi, hZb, by omega, fun H17 s17 => ?_⟩
                        walk_at "rq"
                        exact ⟨_, s17 _ _ h16, by rw [sizeLine_eq, intsV_len]; omega, Same.mut (fun b o h => s17 _ _ (s16 _ _ h)) hD5, by rw [upd_same, intsV_succ]⟩
                      · rintro H16 ⟨s16, h16⟩
                        rw [List.length_map, hA15.len, intsV_congr (sol_row hZs)] at h16
                        walk_at "rq"
                        refine r_neD (dInts_dp h16) (dInts_dp (s16 _ _ hra15)) (dInts_sh _ _) (dInts_eqv _ _) ?_
                        walk_at "rq"
                        exact s16
                  · rintro σ' H16 ⟨v6, rfl, s16⟩
                    have s12_16 := same_tr s12_15 s16
                    have s616 := same_tr s615 s16
                    have hna16 := s616 _ _ hna6
                    have hA16 := hA6.keep s616
                    have aq16 := s16 _ _ aq15
                    have hra16 := s16 _ _ hra15
                    clear hP hV aq15 hra15 hA15
                    walk_at "rq"
                    intro t0 ht0
                    have a0 : upd H16 t0 (.lst [.int 6, .int 6, .int 61, .int 1000]) t0 = some (.lst [.int 6, .int 6, .int 61, .int 1000]) := upd_same
                    have s17 : Same H16 (upd H16 t0 (.lst [.int 6, .int 6, .int 61, .int 1000])) := Same.new ht0
                    generalize upd H16 t0 (.lst [.int 6, .int 6, .int 61, .int 1000]) = H17 at *
                    walk_at "rq"
                    refine r_ixL (n := 45) (SqL.of (s17 _ _ hna16)) (natsV_get (N := N) (by omega)) ?_
                    walk_at "rq"
                    rw [show ((N.getD 45 0 : Nat) : Int) % 4 = ((N.getD 45 0 % 4 : Nat) : Int) by omega]
                    obtain ⟨mo, hmo, hmo0, hmo2⟩ := four_get (N.getD 45 0)
                    refine r_ixL (SqL.of a0) hmo ?_
                    have hA17 := hA16.keep s17
                    walk_at "rq"
                    refine ⟨rA, _, rfl, .inl (SqL.of hA17.l), ?_⟩
                    walk_at "rq"
                    rw [List.length_map, hA17.len]
                    refine ⟨by omega, by omega, fun W hW => ?_⟩
                    rw [show ((m : Int)).toNat = m by omega]
                    refine lcw_range (lo := 0) (n := m) (fun i H' => Same H17 H' ∧ ∃ (us : List V) (ws : List (Int × Int)), H' W = some (.lst us) ∧ All2 (Fr2P K H') us ws ∧ ws.length = i ∧ ∀ w ∈ ws, 0 < w.2 ∧ w.1.natAbs < 2 ^ 12 ∧ w.2.natAbs < 2 ^ 12) ⟨Same.new hW, [], [], upd_same, .nil, rfl, fun w hw => by cases hw⟩ ?_ ?_
                    · rintro i H18 hi ⟨s18, us, ws, h18, hus, hwl, hwb⟩
                      have hna18 := s18 _ _ (s17 _ _ hna16)
                      have hNi := hN0 (i + 11)
                      walk_at "rq"
                      rw [show (0 : Int) + (i : Int) + 11 = ((i + 11 : Nat) : Int) by omega]
                      refine r_ixL (SqL.of hna18) (natsV_get (N := N) (by omega)) ?_
                      walk_at "rq"
                      rw [show (0 : Int) + (i : Int) + 11 = ((i + 11 : Nat) : Int) by omega]
                      refine r_ixL (SqL.of hna18) (natsV_get (N := N) (by omega)) ?_
                      walk_at "rq"
                      refine r_I (by omega) ?_
                      have hg1 : ((N.getD (i + 11) 0 : Nat) : Int) / 3 % 7 - 3 < 4 ∧ -4 < ((N.getD (i + 11) 0 : Nat) : Int) / 3 % 7 - 3 := by omega
                      have hg2 : 0 < 1 + ((N.getD (i + 11) 0 : Nat) : Int) / 21 % mo ∧ 1 + ((N.getD (i + 11) 0 : Nat) : Int) / 21 % mo < 4096 := by
                        have h1 := Int.emod_nonneg (((N.getD (i + 11) 0 : Nat) : Int) / 21) (b := mo) (by omega)
                        have h2 := Int.emod_lt_of_pos (((N.getD (i + 11) 0 : Nat) : Int) / 21) (b := mo) (by omega)
                        omega
                      walk_at "rq"
                      generalize ((N.getD (i + 11) 0 : Nat) : Int) / 3 % 7 - 3 = g1 at *
                      generalize 1 + ((N.getD (i + 11) 0 : Nat) : Int) / 21 % mo = g2 at *
                      intro t1 ht1
                      have s19 : Same H18 (upd H18 t1 (.tup [.int g1, .int g2])) := Same.new ht1
                      have tf : Fr2P K (upd H18 t1 (.tup [.int g1, .int g2])) (.ref t1) (g1, g2) := ⟨t1, rfl, SqT.of upd_same⟩
                      have hul := All2.len hus
                      generalize upd H18 t1 (.tup [.int g1, .int g2]) = H19 at *
                      have sm2 : Same H17 (upd H19 W (.lst (us ++ [.ref t1]))) := Same.mut (fun b o h => s19 _ _ (s18 _ _ h)) hW
                      refine ⟨us, s19 _ _ h18, by rw [sizeLine_eq, hul]; omega, sm2, us ++ [.ref t1], ws ++ [(g1, g2)], upd_same, ?_, by rw [List.length_append, hwl]; rfl, fun w hw => ?_⟩
                      · have hmut : ∀ b u, b ≠ W → H19 b = some u → upd H19 W (.lst (us ++ [.ref t1])) b = some u := fun b u hb h => (upd_ne hb).trans h
                        exact All2.app (Fr2P.fr (Fr2P.keepA hus s19) (s19 _ _ h18) hmut) (.cons (Fr2.fr tf (s19 _ _ h18) hmut) .nil)
                      · rcases List.mem_append.mp hw with q | q
                        · exact hwb w q
                        · rw [List.mem_singleton.mp q]
                          exact ⟨hg2.1, by show g1.natAbs < 4096; omega, by show g2.natAbs < 4096; omega⟩
                    · rintro H18 ⟨s18, us, ws, h18, hus, hwl, hwb⟩
                      have hul := All2.len hus
                      walk_at "rq"
                      refine ⟨W, _, rfl, .inl (SqL.of h18), fun W2 hW2 => ?_⟩
                      have aW2 : upd H18 W2 (.lst us) W2 = some (.lst us) := upd_same
                      have s19 : Same H18 (upd H18 W2 (.lst us)) := Same.new hW2
                      generalize upd H18 W2 (.lst us) = H19 at *
                      have s16_19 := same_tr s17 (same_tr s18 s19)
                      have hA19 := hA16.keep s16_19
                      have aq19 := s16_19 _ _ aq16
                      have hra19 := s16_19 _ _ hra16
                      have h19 := s19 _ _ h18
                      have hus19 := Fr2P.keepA hus s19
                      have hwb2 : ∀ w ∈ ws, w.2 ≠ 0 ∧ w.1.natAbs < 2 ^ 12 ∧ w.2.natAbs < 2 ^ 12 := fun w hw => ⟨Int.ne_of_gt (hwb w hw).1, (hwb w hw).2⟩
                      have hA46 : ∀ r, r < m → ∀ k, k < n → (A r k).natAbs < 2 ^ 46 := fun r hr k hk => pow_lt_lt (hA40 r hr k hk) (by decide)
                      clear hA16 aq16 hra16 h18 hus hna16 hW2 hW s17 s18
                      walk_at "rq"
                      refine ⟨rA, qa, W, rs, A, n, m, R, us, ws, 12, 46, rfl, hA19, aq19, ⟨h19, hus19⟩, ⟨by omega, by omega⟩, hA46, hRb, hwb2, by decide, by omega, fun H20 b s20 hb => ?_⟩
                      walk_at "rq"
                      refine ⟨rA, ra, W, rs, A, n, m, R, us, ws, 12, 46, rfl, hA19.keep s20, s20 _ _ hra19, ⟨s20 _ _ h19, Fr2P.keepA hus19 s20⟩, ⟨by omega, by omega⟩, hA46, hRb, hwb, by omega, fun H21 b' s21 hb' => ?_⟩
                      obtain rfl : b = b' := by
                        have := hb.trans hb'.symm
                        cases b <;> cases b' <;> simp_all
                      clear hb hb'
                      walk_at "rq"
                      rw [decide_eq_true (rfl : b = b)]
                      have s19_21 := same_tr s20 s21
                      walk_at "rq"
                      refine ⟨rA, qa, W, rs, A, n, m, R, us, ws, 12, 46, rfl, hA19.keep s19_21, s19_21 _ _ aq19, ⟨s19_21 _ _ h19, Fr2P.keepA hus19 s19_21⟩, ⟨by omega, by omega⟩, hA46, hRb, hwb2, by decide, by omega, fun H22 b2 s22 hb2 => ?_⟩
                      clear hb2
                      walk_at "rq"
                      refine ⟨_, _, _, _, true, rfl, .ty _, .base (.bl b2), rfl, ?_⟩
                      walk_at "rq"
                      have hlm : ws.length = m := hwl
                      intro t2 ht2
                      have f23 : Fr2P K (upd H22 t2 (.tup [.int 1, .int 2])) (.ref t2) (1, 2) := ⟨t2, rfl, SqT.of upd_same⟩
                      have s23 : Same H22 (upd H22 t2 (.tup [.int 1, .int 2])) := Same.new ht2
                      generalize upd H22 t2 (.tup [.int 1, .int 2]) = H23 at *
                      walk_at "rq"
                      intro l2 hl2
                      have al2 : upd H23 l2 (.lst [.ref t2]) l2 = some (.lst [.ref t2]) := upd_same
                      have s24 : Same H23 (upd H23 l2 (.lst [.ref t2])) := Same.new hl2
                      generalize upd H23 l2 (.lst [.ref t2]) = H24 at *
                      have f24 := Fr2.keep f23 s24
                      have s19_24 : Same H19 H24 := same_tr s19_21 (same_tr s22 (same_tr s23 s24))
                      refine r_cat (s19_24 _ _ h19) al2 (by rw [hul]; show _ + 1 ≤ _; omega) fun l3 hl3 => ?_
                      have al3 : upd H24 l3 (.lst (us ++ [.ref t2])) l3 = some (.lst (us ++ [.ref t2])) := upd_same
                      have s25 : Same H24 (upd H24 l3 (.lst (us ++ [.ref t2]))) := Same.new hl3
                      generalize upd H24 l3 (.lst (us ++ [.ref t2])) = H25 at *
                      have s19_25 : Same H19 H25 := same_tr s19_24 s25
                      walk_at "rq"
                      refine ⟨rA, ra, l3, rs, A, n, m, R, us ++ [.ref t2], ws ++ [(1, 2)], 12, 46, rfl, hA19.keep s19_25, s19_25 _ _ hra19, ⟨al3, All2.app (Fr2P.keepA hus19 s19_25) (.cons (Fr2.keep f24 s25) .nil)⟩, ⟨by omega, by omega⟩, hA46, hRb, fun w hw => ?_, by decide, by omega, fun H26 b3 s26 hb3 => ?_⟩
                      · rcases List.mem_append.mp hw with q | q
                        · exact hwb2 w q
                        · rw [List.mem_singleton.mp q]
                          exact ⟨by decide, by decide, by decide⟩
                      obtain rfl : b3 = false := by
                        cases b3
                        · rfl
                        · have := (hb3.mp rfl).1
                          rw [List.length_append, hlm] at this
                          have e1 : ([((1 : Int), (2 : Int))]).length = 1 := rfl
                          omega
                      clear hb3 al2 al3 f23 f24 s22 s23 s24 s25 ht2 hl2 hl3
                      have s19_26 : Same H19 H26 := same_tr s19_25 s26
                      clear s19_24 s19_25 s26
                      walk_at "rq"
                      rw [decide_eq_true (rfl : false = false)]
                      walk_at "rq"
                      intro t3 ht3
                      have f23 : Fr2P K (upd H26 t3 (.tup [.int 1, .int 2])) (.ref t3) (1, 2) := ⟨t3, rfl, SqT.of upd_same⟩
                      have s23 : Same H26 (upd H26 t3 (.tup [.int 1, .int 2])) := Same.new ht3
                      generalize upd H26 t3 (.tup [.int 1, .int 2]) = H27 at *
                      walk_at "rq"
                      intro l2 hl2
                      have al2 : upd H27 l2 (.lst [.ref t3]) l2 = some (.lst [.ref t3]) := upd_same
                      have s24 : Same H27 (upd H27 l2 (.lst [.ref t3])) := Same.new hl2
                      generalize upd H27 l2 (.lst [.ref t3]) = H28 at *
                      have f24 := Fr2.keep f23 s24
                      have s19_28 : Same H19 H28 := same_tr s19_26 (same_tr s23 s24)
                      walk_at "rq"
                      refine r_cat al2 (s19_28 _ _ h19) (by rw [hul]; show 1 + _ ≤ _; omega) fun l3 hl3 => ?_
                      have al3 : upd H28 l3 (.lst ([.ref t3] ++ us)) l3 = some (.lst ([.ref t3] ++ us)) := upd_same
                      have s25 : Same H28 (upd H28 l3 (.lst ([.ref t3] ++ us))) := Same.new hl3
                      generalize upd H28 l3 (.lst ([.ref t3] ++ us)) = H29 at *
                      have s19_29 : Same H19 H29 := same_tr s19_28 s25
                      walk_at "rq"
                      refine ⟨rA, _, rfl, .inl (SqL.of (hA19.keep s19_29).l), ?_⟩
                      walk_at "rq"
                      rw [List.length_map, hA19.len]
                      refine r_slL (SqL.of al3) (ys := [.ref t3] ++ us) (cutV_all (k := m + 1) (by rw [List.length_append, hul, hlm]; show 1 + _ = _; omega)) fun l4 hl4 => ?_
                      have al4 : upd H29 l4 (.lst ([.ref t3] ++ us)) l4 = some (.lst ([.ref t3] ++ us)) := upd_same
                      have s30 : Same H29 (upd H29 l4 (.lst ([.ref t3] ++ us))) := Same.new hl4
                      generalize upd H29 l4 (.lst ([.ref t3] ++ us)) = H30 at *
                      have s19_30 : Same H19 H30 := same_tr s19_29 s30
                      walk_at "rq"
                      refine ⟨rA, ra, l4, rs, A, n, m, R, [.ref t3] ++ us, [(1, 2)] ++ ws, 12, 46, rfl, hA19.keep s19_30, s19_30 _ _ hra19, ⟨al4, All2.app (.cons (Fr2.keep (Fr2.keep f24 s25) s30) .nil) (Fr2P.keepA hus19 s19_30)⟩, ⟨by omega, by omega⟩, hA46, hRb, fun w hw => ?_, by decide, by omega, fun H31 b3 s31 hb3 => ?_⟩
                      · rcases List.mem_append.mp hw with q | q
                        · rw [List.mem_singleton.mp q]
                          exact ⟨by decide, by decide, by decide⟩
                        · exact hwb2 w q
                      obtain rfl : b3 = false := by
                        cases b3
                        · rfl
                        · have := (hb3.mp rfl).1
                          rw [List.length_append, hlm] at this
                          have e1 : ([((1 : Int), (2 : Int))]).length = 1 := rfl
                          omega
                      clear hb3 al2 al3 al4 f23 f24 s23 s24 s25 ht3 hl2 hl3 hl4
                      have s19_31 : Same H19 H31 := same_tr s19_30 s31
                      clear s19_28 s19_29 s19_30 s31 s19_26 s30
                      walk_at "rq"
                      rw [decide_eq_true (rfl : false = false)]
                      walk_at "rq"
                      refine ⟨rA, _, rfl, .inl (SqL.of (hA19.keep s19_31).l), ?_⟩
                      walk_at "rq"
                      rw [List.length_map, hA19.len]
                      refine r_ite (fun hm0 => ?_) (fun hm0 => ?_)
                      · have hm0 := of_decide_eq_true hm0
                        walk_at "rq"
                        refine r_slL (SqL.of (s19_31 _ _ h19)) cutV_tail fun l4 hl4 => ?_
                        have al4 : upd H31 l4 (.lst (us.drop 1)) l4 = some (.lst (us.drop 1)) := upd_same
                        have s30 : Same H31 (upd H31 l4 (.lst (us.drop 1))) := Same.new hl4
                        generalize upd H31 l4 (.lst (us.drop 1)) = H30 at *
                        have s19_30 : Same H19 H30 := same_tr s19_31 s30
                        walk_at "rq"
                        refine ⟨rA, ra, l4, rs, A, n, m, R, us.drop 1, ws.drop 1, 12, 46, rfl, hA19.keep s19_30, s19_30 _ _ hra19, ⟨al4, All2.drop 1 (Fr2P.keepA hus19 s19_30)⟩, ⟨by omega, by omega⟩, hA46, hRb, fun w hw => hwb2 w (List.mem_of_mem_drop hw), by decide, by omega, fun H32 b3 s31 hb3 => ?_⟩
                        obtain rfl : b3 = false := by
                          cases b3
                          · rfl
                          · have := (hb3.mp rfl).1
                            rw [List.length_drop, hlm] at this
                            omega
                        have s19_32 : Same H19 H32 := same_tr s19_30 s31
                        walk_at "rq"
                        rw [decide_eq_true (rfl : false = false)]
                        walk_at "rq"
                        refine r_neD (dPairs_dp (s19_32 _ _ h19) (Fr2P.keepA hus19 s19_32)) (dPairs_dp (s19_32 _ _ aW2) (Fr2P.keepA hus19 s19_32)) (dPairs_sh _) (dPairs_eqv _) ?_
                        walk_at "rq"
                        refine r_neD (dInts_dp (s19_32 _ _ aq19)) (dInts_dp (s19_32 _ _ hra19)) (dInts_sh _ _) (dInts_eqv _ _) ?_
                        walk_at "rq"
                        exact ⟨_, _, _, _, _, _, _, _, _, _, rfl, same_tr s11 (same_tr sq (same_tr s12_16 (same_tr s16_19 s19_32)))⟩
                      · walk_at "rq"
                        refine r_neD (dPairs_dp (s19_31 _ _ h19) (Fr2P.keepA hus19 s19_31)) (dPairs_dp (s19_31 _ _ aW2) (Fr2P.keepA hus19 s19_31)) (dPairs_sh _) (dPairs_eqv _) ?_
                        walk_at "rq"
                        refine r_neD (dInts_dp (s19_31 _ _ aq19)) (dInts_dp (s19_31 _ _ hra19)) (dInts_sh _ _) (dInts_eqv _ _) ?_
                        walk_at "rq"
                        exact ⟨_, _, _, _, _, _, _, _, _, _, rfl, same_tr s11 (same_tr sq (same_tr s12_16 (same_tr s16_19 s19_31)))⟩
                · rintro σ' H11 ⟨v6, v9, v11, v12, v13, v14, v15, v16, v17, v18, rfl, s11⟩
                  have s611 := same_tr s610 s11
                  walk_at "rq"
                  refine r_metI (by with_unfolding_all rfl) (s611 _ _ hxi6) rfl ?_
                  walk_at "rq"
                  have hA11 := hA6.keep s611
                  have hX11 := s611 _ _ hX6
                  refine ⟨⟨_, SqL.of hA11.l⟩, fun D6 hD6 => ?_⟩
                  refine lcw_list (fun i H' => Same H11 H' ∧ H' D6 = some (.lst (intsV (fun r => sm n fun q => A r q * X q) i))) ⟨Same.new hD6, upd_same⟩ (fun i H' _ h => SqL.of (hA11.keep h.1).l) ?_ ?_
                  · rintro i v H12 hv ⟨s12, h12⟩
                    have hi : i < m := by rw [← hA11.len, ← List.length_map (f := V.ref)]; exact (List.getElem?_eq_some_iff.mp hv).1
                    obtain ⟨y, _, hyl, hyr, _⟩ := (hA11.keep s12).at_ (k := i) hi
                    rw [hv] at hyr
                    cases hyr
                    walk_at "rq"
                    refine ⟨y, D2, A i, X, n, n, 20, 17, rfl, hyl, s12 _ _ hX11, Nat.le_refl _, by omega, hA40 i hi, hX, by omega, fun H13 s13 => ?_⟩
                    walk_at "rq"
                    exact ⟨_, s13 _ _ h12, by rw [sizeLine_eq, intsV_len]; omega, Same.mut (fun b o h => s13 _ _ (s12 _ _ h)) hD6, by rw [upd_same, intsV_succ]⟩
                  · rintro H12 ⟨s12, h12⟩
                    rw [List.length_map, hA11.len, hR1e] at h12
                    have s612 := same_tr s611 s12
                    walk_at "rq"
                    obtain ⟨u1, u2⟩ := sz_steps (s := 46) (F := 1500000) hρ (by omega : c ≤ 134499) (by decide)
                    refine sp_solve (F0 := 1500000) (F := 1700000) (hSy6.keep s612) hSt h12 ⟨by omega, by omega⟩ hR1' (by rw [hc]; exact ⟨u1, u2, by omega⟩) (by rw [hc]; omega) fun vf H13 s13 hV => ?_
                    clear u1 u2
                    obtain ⟨fa, Z, rfl, hfa, hZs, hZb⟩ := hV.some hsol1
                    have s613 := same_tr s612 s13
                    walk_at "rq"
                    refine ⟨rfl, ?_⟩
                    rw [d_rn]
                    walk_at "rq"
                    refine r_neD (hA6.keep s613).dp (hkp6.keep s613).dp (dMat_sh _ _ _) (dMat_eqv _ _ _) ?_
                    walk_at "rq"
                    refine ⟨by omega, by omega, fun G hG => ?_⟩
                    rw [show ((n : Int)).toNat = n by omega]
                    have hK13 := hK6.keep s613
                    refine lcw_range (lo := 0) (n := n) (fun i H' => Same H13 H' ∧ ∃ gs, Mat H' G gs (fun j k => T (pw.length + k) j) i d) ⟨Same.new hG, [], Mat.empty G⟩ ?_ ?_
                    · rintro i H14 hi ⟨s14, gs, hg⟩
                      have hK14 := hK13.keep s14
                      walk_at "rq"
                      rw [show (0 : Int) + (i : Int) = ((i : Nat) : Int) by omega]
                      refine ⟨⟨_, SqL.of hK14.l⟩, fun g hgn => ?_⟩
                      refine lcw_list (fun k H' => Same H14 H' ∧ H' g = some (.lst (intsV (fun k => T (pw.length + k) i) k))) ⟨Same.new hgn, upd_same⟩ (fun k H' _ h => SqL.of (hK14.keep h.1).l) ?_ ?_
                      · rintro k v H15 hv ⟨s15, h15⟩
                        have hk : k < d := by rw [← hK14.len, ← List.length_map (f := V.ref)]; exact (List.getElem?_eq_some_iff.mp hv).1
                        obtain ⟨z, _, hzl, hzr, _⟩ := (hK14.keep s15).at_ (k := k) hk
                        rw [hv] at hzr
                        cases hzr
                        walk_at "rq"
                        refine r_ixL (SqL.of hzl) (rowV_get hi) ?_
                        walk_at "rq"
                        exact ⟨_, h15, by rw [sizeLine_eq, intsV_len]; omega, Same.mut s15 hgn, by rw [upd_same, intsV_succ]⟩
                      · rintro H15 ⟨s15, h15⟩
                        rw [List.length_map, hK14.len] at h15
                        obtain ⟨f1, f2⟩ := hg.fresh hgn
                        have hg15 := hg.keep s15
                        walk_at "rq"
                        exact ⟨_, hg15.l, by rw [sizeLine_eq, List.length_map, hg15.len]; omega, Same.mut (fun b o h => s15 _ _ (s14 _ _ h)) hG, gs ++ [g], hg15.snoc h15 f1 f2⟩
                    · rintro H14 ⟨s14, gs, hg⟩
                      have s614 := same_tr s613 s14
                      have hK14 := hK13.keep s14
                      walk_at "rq"
                      refine ⟨ka, _, rfl, .inl (SqL.of hK14.l), ?_⟩
                      rw [List.length_map, hK14.len]
                      walk_at "rq"
                      have hcd : eB c d ≤ 134499 := by
                        have e1 := eB_add 19 pw.length d
                        rw [hc] at e1
                        rw [e1, ← eB8]
                        exact eB_mono (by omega)
                      refine fun xp dxp hxp hdxp hnep => ⟨xp, dxp, G, gs, fun j k => T (pw.length + k) j, d, n, c, rfl, upd_same, ?_, ⟨by omega, by omega⟩, fun r hr k hk => hT4 _ (by omega) r hr, by omega, fun H15 M2 T2 p2 f15 hSy2 hSt2 => ⟨rfl, ?_⟩⟩
                      · exact (hg.keep (Same.new hdxp)).keep (Same.new ((upd_ne (Ne.symm hnep)).trans hxp))
                      have s15 := frx_same hxp hdxp f15
                      have s615 := same_tr s614 s15
                      obtain ⟨dx2, q20, q21, q22, q23, q24, q25, q26, hxi15, _⟩ := hSy2.ex
                      clear hxp hdxp f15 hG hg hK13 hD6
                      have hfa15 := s15 _ _ (s14 _ _ hfa)
                      have hX15 := s615 _ _ hX6
                      walk_at "rq"
                      refine r_metI (by with_unfolding_all rfl) hxi15 rfl ?_
                      walk_at "rq"
                      refine ⟨by omega, by omega, fun D7 hD7 => ?_⟩
                      rw [show ((n : Int)).toNat = n by omega]
                      refine lcw_range (lo := 0) (n := n) (fun i H' => Same H15 H' ∧ H' D7 = some (.lst (intsV (fun j => X j - Z j) i))) ⟨Same.new hD7, upd_same⟩ ?_ ?_
                      · rintro i H16 hi ⟨s16, h16⟩
                        walk_at "rq"
                        rw [show (0 : Int) + (i : Int) = ((i : Nat) : Int) by omega]
                        refine r_ixL (SqL.of (s16 _ _ hX15)) (intsV_get hi) ?_
                        walk_at "rq"
                        refine r_ixL (SqL.of (s16 _ _ hfa15)) (intsV_get hi) ?_
                        walk_at "rq"
                        exact ⟨_, h16, by rw [sizeLine_eq, intsV_len]; omega, Same.mut s16 hD7, by rw [upd_same, intsV_succ]⟩
                      · rintro H16 ⟨s16, h16⟩
                        have s616 := same_tr s615 s16
                        walk_at "rq"
                        have hp2 : p2.length = d := by rw [← hd]; exact gaps_full hSt (by rw [hd]; exact hSt2)
                        have hc2 : eB c p2.length ≤ 134499 := by rw [hp2]; exact hcd
                        obtain ⟨u1, u2⟩ := sz_steps (s := 1700001) (F := 3000000) (by omega : p2.length ≤ 8) hc2 (by decide)
                        have hXZ : ∀ r, r < n → (X r - Z r).natAbs < 2 ^ 1700001 := fun r hr => by
                          have h1 := pow_lt_lt (hX r hr) (by decide : 17 ≤ 1700000)
                          have h2 := hZb r hr
                          have h3 := Nat.pow_succ (n := 2) (m := 1700000)
                          rw [show 1700001 = 1700000 + 1 from rfl, h3]
                          generalize 2 ^ 1700000 = w at *
                          omega
                        refine sp_solve (F0 := 3000000) (F := 3200000) (hSy2.keep s16) hSt2 h16 ⟨by omega, by omega⟩ hXZ ⟨u1, u2, by omega⟩ (by omega) fun vg H17 s17 hV2 => ?_
                        clear u1 u2
                        obtain ⟨zz, hzz⟩ := hSt.ker_all (X := fun j => X j - Z j) (Sol.sub hsol1 hZs)
                        rw [hd] at hzz
                        obtain ⟨fu, U, rfl, hfu, hUs, hUb⟩ := hV2.some (sol_of_sm hzz)
                        have s617 := same_tr s616 s17
                        walk_at "rq"
                        refine ⟨rfl, ?_⟩
                        rw [d_rn]
                        walk_at "rq"
                        refine r_metI (by with_unfolding_all rfl) (s17 _ _ (s16 _ _ hxi15)) rfl ?_
                        walk_at "rq"
                        refine ⟨xp, _, d, n, M2, T2, p2, rfl, hSy2.keep (same_tr s16 s17), ⟨by omega, by omega⟩, fun kb kbs H18 s18 _ _ hK18 => ?_⟩
                        rw [hp2, Nat.sub_self] at hK18
                        have hkbs : kbs = [] := List.eq_nil_of_length_eq_zero hK18.len
                        subst hkbs
                        walk_at "rq"
                        intro e0 he0
                        have s19 : Same H18 (upd H18 e0 (.lst [])) := Same.new he0
                        refine r_neD (d := .list []) (.lst (SqL.of (s19 _ _ hK18.l)) .nil) (.lst (SqL.of upd_same) .nil) rfl (by simp [PyData.eqv, PyData.eqvAll]) ?_
                        generalize upd H18 e0 (.lst []) = H19 at *
                        have s17_19 := same_tr s18 s19
                        have s619 := same_tr s617 s17_19
                        have hfa19 := s17_19 _ _ (s17 _ _ (s16 _ _ hfa15))
                        have hfu19 := s17_19 _ _ hfu
                        have hX19 := s17_19 _ _ (s17 _ _ (s16 _ _ hX15))
                        have hK19 := hK6.keep s619
                        walk_at "rq"
                        refine ⟨by omega, by omega, fun D8 hD8 => ?_⟩
                        rw [show ((n : Int)).toNat = n by omega]
                        refine lcw_range (lo := 0) (n := n) (fun i H' => Same H19 H' ∧ H' D8 = some (.lst (intsV X i))) ⟨Same.new hD8, upd_same⟩ ?_ ?_
                        · rintro i H20 hi ⟨s20, h20⟩
                          have hK20 := hK19.keep s20
                          walk_at "rq"
                          rw [show (0 : Int) + (i : Int) = ((i : Nat) : Int) by omega]
                          refine r_ixL (SqL.of (s20 _ _ hfa19)) (intsV_get hi) ?_
                          walk_at "rq"
                          refine ⟨ka, _, rfl, .inl (SqL.of hK20.l), ?_⟩
                          rw [List.length_map, hK20.len]
                          walk_at "rq"
                          refine ⟨by omega, by omega, fun g hgn => ?_⟩
                          rw [show ((d : Int)).toNat = d by omega]
                          refine lcw_range (lo := 0) (n := d) (fun k H' => Same H20 H' ∧ H' g = some (.lst (intsV (fun k => U k * T (pw.length + k) i) k))) ⟨Same.new hgn, upd_same⟩ ?_ ?_
                          · rintro k H21 hk ⟨s21, h21⟩
                            have hK21 := hK20.keep s21
                            obtain ⟨z, _, hzl, hzr, _⟩ := hK21.at_ (k := k) hk
                            walk_at "rq"
                            rw [show (0 : Int) + (k : Int) = ((k : Nat) : Int) by omega]
                            refine r_ixL (SqL.of (s21 _ _ (s20 _ _ hfu19))) (intsV_get hk) ?_
                            walk_at "rq"
                            refine r_ixL (SqL.of hK21.l) hzr ?_
                            walk_at "rq"
                            refine r_ixL (SqL.of hzl) (rowV_get hi) ?_
                            refine r_I (mulA (hUb k hk) (pow_lt_of (hT4 (pw.length + k) (by omega) i hi) (by omega : c < 134500)) (by omega)) ?_
                            walk_at "rq"
                            exact ⟨_, h21, by rw [sizeLine_eq, intsV_len]; omega, Same.mut s21 hgn, by rw [upd_same, intsV_succ]⟩
                          · rintro H21 ⟨s21, h21⟩
                            walk_at "rq"
                            refine ⟨g, (List.range d).map fun k => U k * T (pw.length + k) i, rfl, SqL.of (by rw [List.map_map]; exact h21), ?_⟩
                            rw [sum_range]
                            walk_at "rq"
                            have e1 : (sm d fun k => U k * T (pw.length + k) i) = X i - Z i := by
                              exact (sm_congr fun k _ => Int.mul_comm _ _).trans (hUs i hi)
                            rw [e1, show Z i + (X i - Z i) = X i by omega]
                            exact ⟨_, s21 _ _ h20, by rw [sizeLine_eq, intsV_len]; omega, Same.mut (fun b o h => s21 _ _ (s20 _ _ h)) hD8, by rw [upd_same, intsV_succ]⟩
                        · rintro H20 ⟨s20, h20⟩
                          walk_at "rq"
                          refine r_neD (dInts_dp h20) (dInts_dp (s20 _ _ hX19)) (dInts_sh _ _) (dInts_eqv _ _) ?_
                          walk_at "rq"
                          exact ⟨_, _, _, _, _, _, _, _, _, _, _, _, _, _, _, _, _, _, _, _, _, _, rfl, same_tr s06 (same_tr s619 s20)⟩
    · rintro σ' H1 ⟨v1, v2, v3, v4, v5, v6, v7, v8, v9, v10, v11, v12, v13, v14, v15, v16, v17, v18, v19, v20, v21, v22, rfl, s1⟩
      walk_at "rq"
      exact kq H1
end
end Al
namespace Al
open PySem PySem.Spec PyProof.Rows L2 NdefX PySem.W
/-! ### the Hook that sees sys.modules too -/
def frS (g : Addr → Option Obj) (n : Nat) : Frag := He.frG g (cStatics :: sysModules :: He.asD g n)
def hookG (n : Nat) (fa : List He.Fa) (fn : List He.DefD) (exs : List ExD) (ex : Frag → Bool) (ts : List He.Tab) : Hook where
  α := AlF
  obs := fun s => obsF fa fn exs ex ts (frS s.heap.get? n)
  val := fun w => valF fn exs ts w
  says := fun w h => ∃ K : Frag, K.In h ∧ SaysF fa fn exs ex ts w K
  of := fun _ _ e => ⟨_, He.frG_in, ⟨congrArg (fun z : AlF => z.1.1) e, congrArg (fun z : AlF => z.1.2.1) e, congrArg (fun z : AlF => z.1.2.2) e⟩, congrArg (fun z : AlF => z.2) e⟩
  keeps := fun _ _ _ ⟨K, hK, c⟩ k => ⟨K, Frag.In.keeps hK k, c⟩
theorem obsG_eq {n : Nat} {fa : List He.Fa} {fn : List He.DefD} {exs : List ExD} {ex : Frag → Bool} {ts : List He.Tab} {g : Addr → Option Obj} {s : Shared} (h : ∀ a, g a = s.heap.get? a) : obsF fa fn exs ex ts (frS g n) = (hookG n fa fn exs ex ts).obs s := by
  have e : g = s.heap.get? := funext h
  rw [e] <;> rfl
def seerB (K : Frag) : Bool := nsOkIn K cStatics && (He.eqO (nsIn K cStatics Audit.hooksKey) (some none) && (He.eqO (nsIn K cStatics "sys.dict") (some none) && (nsOkIn K sysModules && (He.eqO (nsIn K sysModules "_pylong") (some none) &&
  (match nsIn K mainGlobals "__builtins__" with
  | some (some (.ref bm)) => (match K.lookup bm with
    | some ob => decide (ob.cls = .type "module") && decide (ob.dict = some builtinsNs)
    | none => false)
  | _ => false)))))
theorem seerB_ok {K : Frag} {P : Program} (h : seerB K = true) (hg : P.given.tree = none) : Seer K P := by
  obtain ⟨h1, h⟩ := He.ba h
  obtain ⟨h2, h⟩ := He.ba h
  obtain ⟨h3, h⟩ := He.ba h
  obtain ⟨h4, h⟩ := He.ba h
  obtain ⟨h5, h6⟩ := He.ba h
  refine ⟨h1, He.eqO_ok h2, He.eqO_ok h3, h4, He.eqO_ok h5, ?_, hg⟩
  split at h6
  · rename_i bm hb
    split at h6
    · rename_i ob ho
      obtain ⟨u1, u2⟩ := He.ba h6
      exact ⟨bm, ob, hb, ho, of_decide_eq_true u1, of_decide_eq_true u2⟩
    · cases h6
  · cases h6
end Al
namespace Al
open PySem PySem.Spec PyProof.Rows L2 NdefX PySem.W
abbrev R : OpenRow := OpenLaw.row PySem.Challenge.rw_alnage_k03_whole_numbers_solve_rows
def exs : List ExD := []
def fns : List He.DefD := [dfn "fraction" (top 4), dfn "plus" (top 5), dfn "minus" (top 6), dfn "times" (top 7), dfn "over" (top 8), dfn "unit_rows" (top 10), dfn "subtract" (top 11), dfn "reduce_row" (top 12), dfn "shows_none" (top 14), dfn "_law_cell" (top 16), dfn "_law_numbers" (top 17), dfn "_law_dot" (top 18), dfn "_law_rows" (top 19), dfn "_law_whole" (top 20), dfn "_law_shows" (top 21), dfn "law" (top 22), mfn "System" "__init__" (inClass (top 13) 0), mfn "System" "kernel" (inClass (top 13) 1), mfn "System" "steps" (inClass (top 13) 2), mfn "System" "solve" (inClass (top 13) 3), mfn "System" "fault" (inClass (top 13) 4), mfn "System" "weights" (inClass (top 13) 5), mfn "System" "spread" (inClass (top 13) 6), mfn "System" "paper" (inClass (top 13) 7)]
def fas : List He.Fa := ([.free "len", .free "str", .free "int", .free "abs", .free "min", .free "max", .free "range", .free "repr", .free "isinstance", .free "dict", .free "list", .free "tuple", .free "sorted", .free "any", .free "all", .free "sum", .free "reversed", .free "super", .free "bool", .glo "fraction", .glo "plus", .glo "minus", .glo "times", .glo "over", .glo "unit_rows", .glo "subtract", .glo "reduce_row", .glo "shows_none", .glo "_law_cell", .glo "_law_numbers", .glo "_law_dot", .glo "_law_rows", .glo "_law_whole", .glo "_law_shows", .glo "law", .glo "ZERO", .glo "ONE", .glo "System", .cls "System", .mkr "System"] : List He.Fa) ++ ([.noat "System" "rows", .noat "System" "count", .noat "System" "columns", .noat "System" "turns", .noat "System" "pivots", .meth "System" "kernel", .meth "System" "steps", .meth "System" "solve", .meth "System" "fault", .meth "System" "weights", .meth "System" "spread", .meth "System" "paper"] : List He.Fa)
def tabs : List He.Tab := []
def exFacts (K : Frag) : Bool := exs.all (exB R.prog.main.file K) && He.tupB K "ZERO" [.int 0, .int 1] && He.tupB K "ONE" [.int 1, .int 1] && He.eqO (nsIn K mainGlobals "gcd") (some (some (.builtin "math.gcd"))) && seerB K
abbrev hk : Hook := hookG 6 fas fns exs exFacts tabs
def ob (s : SharedT) : AlF := obsF fas fns exs exFacts tabs (frS (HandSHeadRun.getT s) 6)
theorem ob_eq (s : SharedT) : ob s = hk.obs s.abs := obsG_eq (HandSHeadRun.getT_eq s)
def loose : List Str := (["__name__", "ZERO", "ONE", "fraction", "plus", "minus", "times", "over", "unit_rows", "subtract", "reduce_row", "System", "shows_none", "_law_cell", "_law_numbers", "_law_dot", "_law_rows", "_law_whole", "_law_shows"] : List Str)
theorem top_run (w : World) : HandSHeadRun.RunEqI R (view R.prog [0, 22]) hk ob 8000 loose w := by unfold HandSHeadRun.RunEqI; kernel_rfl
section
variable {P : Program} {w : World} {K : Frag} {mg : Str → Option Value} {base h : Heap}
theorem bl_of (X : K.In h) (G : h.Ns mainGlobals mg) (c : He.SaysD fas fns K) : Bl mg :=
  ⟨He.free_ok X G (c.fact 0 (f := .free "len") rfl), He.free_ok X G (c.fact 1 (f := .free "str") rfl), He.free_ok X G (c.fact 2 (f := .free "int") rfl), He.free_ok X G (c.fact 3 (f := .free "abs") rfl), He.free_ok X G (c.fact 4 (f := .free "min") rfl), He.free_ok X G (c.fact 5 (f := .free "max") rfl), He.free_ok X G (c.fact 6 (f := .free "range") rfl), He.free_ok X G (c.fact 7 (f := .free "repr") rfl), He.free_ok X G (c.fact 8 (f := .free "isinstance") rfl), He.free_ok X G (c.fact 9 (f := .free "dict") rfl), He.free_ok X G (c.fact 10 (f := .free "list") rfl), He.free_ok X G (c.fact 11 (f := .free "tuple") rfl), He.free_ok X G (c.fact 12 (f := .free "sorted") rfl), He.free_ok X G (c.fact 13 (f := .free "any") rfl), He.free_ok X G (c.fact 14 (f := .free "all") rfl), He.free_ok X G (c.fact 15 (f := .free "sum") rfl), He.free_ok X G (c.fact 16 (f := .free "reversed") rfl), He.free_ok X G (c.fact 17 (f := .free "super") rfl), He.free_ok X G (c.fact 18 (f := .free "bool") rfl)⟩
theorem at_fraction (X : K.In h) (G : h.Ns mainGlobals mg) (c : He.SaysD fas fns K) : DefAt K mg "fraction" (top 4) := defAt_of X G c 0 19
theorem at_plus (X : K.In h) (G : h.Ns mainGlobals mg) (c : He.SaysD fas fns K) : DefAt K mg "plus" (top 5) := defAt_of X G c 1 20
theorem at_minus (X : K.In h) (G : h.Ns mainGlobals mg) (c : He.SaysD fas fns K) : DefAt K mg "minus" (top 6) := defAt_of X G c 2 21
theorem at_times (X : K.In h) (G : h.Ns mainGlobals mg) (c : He.SaysD fas fns K) : DefAt K mg "times" (top 7) := defAt_of X G c 3 22
theorem at_over (X : K.In h) (G : h.Ns mainGlobals mg) (c : He.SaysD fas fns K) : DefAt K mg "over" (top 8) := defAt_of X G c 4 23
theorem at_unit_rows (X : K.In h) (G : h.Ns mainGlobals mg) (c : He.SaysD fas fns K) : DefAt K mg "unit_rows" (top 10) := defAt_of X G c 5 24
theorem at_subtract (X : K.In h) (G : h.Ns mainGlobals mg) (c : He.SaysD fas fns K) : DefAt K mg "subtract" (top 11) := defAt_of X G c 6 25
theorem at_reduce_row (X : K.In h) (G : h.Ns mainGlobals mg) (c : He.SaysD fas fns K) : DefAt K mg "reduce_row" (top 12) := defAt_of X G c 7 26
theorem at_shows_none (X : K.In h) (G : h.Ns mainGlobals mg) (c : He.SaysD fas fns K) : DefAt K mg "shows_none" (top 14) := defAt_of X G c 8 27
theorem at_law_cell (X : K.In h) (G : h.Ns mainGlobals mg) (c : He.SaysD fas fns K) : DefAt K mg "_law_cell" (top 16) := defAt_of X G c 9 28
theorem at_law_numbers (X : K.In h) (G : h.Ns mainGlobals mg) (c : He.SaysD fas fns K) : DefAt K mg "_law_numbers" (top 17) := defAt_of X G c 10 29
theorem at_law_dot (X : K.In h) (G : h.Ns mainGlobals mg) (c : He.SaysD fas fns K) : DefAt K mg "_law_dot" (top 18) := defAt_of X G c 11 30
theorem at_law_rows (X : K.In h) (G : h.Ns mainGlobals mg) (c : He.SaysD fas fns K) : DefAt K mg "_law_rows" (top 19) := defAt_of X G c 12 31
theorem at_law_whole (X : K.In h) (G : h.Ns mainGlobals mg) (c : He.SaysD fas fns K) : DefAt K mg "_law_whole" (top 20) := defAt_of X G c 13 32
theorem at_law_shows (X : K.In h) (G : h.Ns mainGlobals mg) (c : He.SaysD fas fns K) : DefAt K mg "_law_shows" (top 21) := defAt_of X G c 14 33
theorem at_law (X : K.In h) (G : h.Ns mainGlobals mg) (c : He.SaysD fas fns K) : DefAt K mg "law" (top 22) := defAt_of X G c 15 34
theorem glo_ZERO (X : K.In h) (G : h.Ns mainGlobals mg) (c : He.SaysD fas fns K) : mg "ZERO" = some (.ref (He.ga K "ZERO")) := He.glo_ok X G (c.fact 35 (f := .glo "ZERO") rfl)
theorem glo_ONE (X : K.In h) (G : h.Ns mainGlobals mg) (c : He.SaysD fas fns K) : mg "ONE" = some (.ref (He.ga K "ONE")) := He.glo_ok X G (c.fact 36 (f := .glo "ONE") rfl)
theorem glo_law (X : K.In h) (G : h.Ns mainGlobals mg) (c : He.SaysD fas fns K) : mg "law" = some (.ref (He.ga K "law")) := He.glo_ok X G (c.fact 34 (f := .glo "law") rfl)
theorem fn_law (c : He.SaysD fas fns K) : ∃ fd, FnP K "law" (top 22) (He.ga K "law") fd := c.def_ 15 (d := dfn "law" (top 22)) rfl
theorem cls_System (c : He.SaysD fas fns K) : Cls K (He.ga K "System") := He.cls_ok (c.fact 38 (f := .cls "System") rfl)
theorem noat_System_rows (c : He.SaysD fas fns K) : NoAttr K (He.ga K "System") "rows" := He.noat_ok (c.fact 40 (f := .noat "System" "rows") rfl)
theorem noat_System_count (c : He.SaysD fas fns K) : NoAttr K (He.ga K "System") "count" := He.noat_ok (c.fact 41 (f := .noat "System" "count") rfl)
theorem noat_System_columns (c : He.SaysD fas fns K) : NoAttr K (He.ga K "System") "columns" := He.noat_ok (c.fact 42 (f := .noat "System" "columns") rfl)
theorem noat_System_turns (c : He.SaysD fas fns K) : NoAttr K (He.ga K "System") "turns" := He.noat_ok (c.fact 43 (f := .noat "System" "turns") rfl)
theorem noat_System_pivots (c : He.SaysD fas fns K) : NoAttr K (He.ga K "System") "pivots" := He.noat_ok (c.fact 44 (f := .noat "System" "pivots") rfl)
theorem mak_at_System (X : K.In h) (G : h.Ns mainGlobals mg) (c : He.SaysD fas fns K) : MakAt K mg "System" "System.__init__" (He.ga K "System") (inClass (top 13) 0) := makAt_of X G c 16 39 37 (by decide +kernel)
theorem met_at_System_kernel (c : He.SaysD fas fns K) : MetAt K (He.ga K "System") "kernel" "System.kernel" (inClass (top 13) 1) := metAt_of c 17 45 38 (by decide +kernel)
theorem met_at_System_steps (c : He.SaysD fas fns K) : MetAt K (He.ga K "System") "steps" "System.steps" (inClass (top 13) 2) := metAt_of c 18 46 38 (by decide +kernel)
theorem met_at_System_solve (c : He.SaysD fas fns K) : MetAt K (He.ga K "System") "solve" "System.solve" (inClass (top 13) 3) := metAt_of c 19 47 38 (by decide +kernel)
theorem met_at_System_fault (c : He.SaysD fas fns K) : MetAt K (He.ga K "System") "fault" "System.fault" (inClass (top 13) 4) := metAt_of c 20 48 38 (by decide +kernel)
theorem met_at_System_weights (c : He.SaysD fas fns K) : MetAt K (He.ga K "System") "weights" "System.weights" (inClass (top 13) 5) := metAt_of c 21 49 38 (by decide +kernel)
theorem met_at_System_spread (c : He.SaysD fas fns K) : MetAt K (He.ga K "System") "spread" "System.spread" (inClass (top 13) 6) := metAt_of c 22 50 38 (by decide +kernel)
theorem met_at_System_paper (c : He.SaysD fas fns K) : MetAt K (He.ga K "System") "paper" "System.paper" (inClass (top 13) 7) := metAt_of c 23 51 38 (by decide +kernel)
end
end Al
namespace Al
open PySem PySem.Spec PyProof.Rows L2 NdefX PySem.W
theorem law_fnC {K : Frag} {mg : Str → Option Value} {h : Heap} {f : Addr} {w : World} (X : K.In h) (G : h.Ns mainGlobals mg) (hf : mg "law" = some (.ref f)) (c : SaysF fas fns exs exFacts tabs w K) :
    ∃ fd, (∀ (s : Shared) (u : Value), BindsTo s fd ⟨[u], []⟩ [("_law_script", u)]) ∧ ∀ base : Heap, FnC R.prog w K mg base (L2N.CX R.prog w) f fd ["_law_script"] (spLaw K) := by
  obtain ⟨fd, F⟩ := fn_law c.e.d
  have e := hf.symm.trans (glo_law X G c.e.d)
  cases e
  have B := bl_of X G c.e.d
  have bA := FunD.bindsA (ps := ["_law_script"]) F fun _ _ _ _ _ _ us hl => match us, hl with | [_], _ => rfl
  refine ⟨fd, fun s v => bA s [v] rfl, fun base => ?_⟩
  obtain ⟨b, b5⟩ := He.ba c.e.b
  obtain ⟨b, b4⟩ := He.ba b
  obtain ⟨b, b3⟩ := He.ba b
  obtain ⟨_, b2⟩ := He.ba b
  have Z : Seer K R.prog := seerB_ok b5 rfl
  have hgcd : mg "gcd" = some (.builtin "math.gcd") := mg_of X G (He.eqO_ok b4)
  have hZ : ∃ zA, mg "ZERO" = some (.ref zA) ∧ ∀ H, SqT K H zA [.int 0, .int 1] := ⟨_, glo_ZERO X G c.e.d, fun H => He.tupB_ok b2 H⟩
  have hO : ∃ oA, mg "ONE" = some (.ref oA) ∧ ∀ H, SqT K H oA [.int 1, .int 1] := ⟨_, glo_ONE X G c.e.d, fun H => He.tupB_ok b3 H⟩
  have S : SC K (He.ga K "System") := ⟨cls_System c.e.d, noat_System_rows c.e.d, noat_System_count c.e.d, noat_System_columns c.e.d, noat_System_turns c.e.d, noat_System_pivots c.e.d⟩
  have f1 := cal_fraction (P := R.prog) (w := w) (base := base) Z hgcd (at_fraction X G c.e.d) B
  have f2 := cal_plus (at_plus X G c.e.d) B f1
  have f3 := cal_minus (at_minus X G c.e.d) B f1
  have f4 := cal_times (at_times X G c.e.d) B f1
  have f5 := cal_over (at_over X G c.e.d) B f1
  have u1 := cal_unit_rows (P := R.prog) (w := w) (base := base) (at_unit_rows X G c.e.d) B
  have u2 := cal_subtract (P := R.prog) (w := w) (base := base) (at_subtract X G c.e.d) B
  have u3 := cal_reduce_row Z (at_reduce_row X G c.e.d) B u2
  have k1 := mak_System (mak_at_System X G c.e.d) B S u1 u3
  have m1 := met_kernel (P := R.prog) (w := w) (mg := mg) (base := base) (met_at_System_kernel c.e.d) B S
  have m2 := met_steps (met_at_System_steps c.e.d) B S f3 f4 f5
  have m3 := met_fault (met_at_System_fault c.e.d) B S hZ f2 f4
  have m4 := met_solve (met_at_System_solve c.e.d) B S m2 m3
  have m5 := met_weights (met_at_System_weights c.e.d) B S hZ f3 f4 f5
  have m6 := met_spread (P := R.prog) (w := w) (base := base) (met_at_System_spread c.e.d) B S hZ
  have m7 := met_paper (met_at_System_paper c.e.d) B S hZ hO f1 f2 f3 f4 f5 m2 m3 m5 m6
  have s1 := cal_shows (at_shows_none X G c.e.d) B hZ f2 f4
  have l1 := cal_law_cell (P := R.prog) (w := w) (base := base) (at_law_cell X G c.e.d) B
  have l2 := cal_law_numbers (P := R.prog) (w := w) (base := base) (at_law_numbers X G c.e.d) B
  have l3 := cal_law_dot (P := R.prog) (w := w) (base := base) (at_law_dot X G c.e.d) B
  have l4 := cal_law_rows (P := R.prog) (w := w) (base := base) (at_law_rows X G c.e.d) B
  have l5 := cal_law_whole (P := R.prog) (w := w) (base := base) Z (at_law_whole X G c.e.d) B
  have l6 := cal_law_shows (at_law_shows X G c.e.d) B l5
  exact fnC_law F B S k1 m1 m4 m7 l1 l2 l3 l4 l6 s1
end Al
open PySem PySem.W PySem.Calls PyProof.Rows
theorem PySem.Challenge.cw_alnage_k03_whole_numbers_solve_rows_holds : PySem.Challenge.rw_alnage_k03_whole_numbers_solve_rows.Holds := by
  w_on; o_law
  refine HandSHeadRun.head_imp (r := OpenLaw.row PySem.Challenge.rw_alnage_k03_whole_numbers_solve_rows) (q := view (OpenLaw.row PySem.Challenge.rw_alnage_k03_whole_numbers_solve_rows).prog [0, 22]) (H := Al.hk) (ob := Al.ob) (M := 8000) (loose := Al.loose) (d := HandSHeadRun.topDef (OpenLaw.row PySem.Challenge.rw_alnage_k03_whole_numbers_solve_rows).prog 22) (kwd := []) Al.ob_eq
    Al.top_run (by kernel_rfl) (by kernel_rfl) (by kernel_rfl) (by rfl) (by first | assumption | decide +kernel) (by decide +kernel) ⟨rfl, rfl, rfl, rfl, rfl, by decide +kernel⟩ ?hw ?hc
  case hw => w_witness2
  case hc =>
    refine Al.walk_W (l := PySem.Challenge.rw_alnage_k03_whole_numbers_solve_rows) (n := 63) (x := "_law_script") (CX := L2N.CX Al.R.prog) rfl (by decide) (by kernel_rfl) ?F ?N
    · intro w mg fa h Y G hmg0
      obtain ⟨K, KX, c⟩ := Y
      have hmg : mg ("law" : PySem.Str) = some (.ref fa) := by
        have e : (HandSHeadRun.topDef (OpenLaw.row PySem.Challenge.rw_alnage_k03_whole_numbers_solve_rows).prog 22).name = ("law" : PySem.Str) := by kernel_rfl
        rw [← e]
        exact hmg0
      obtain ⟨fd, hb, hF⟩ := Al.law_fnC KX G hmg c
      exact ⟨K, fd, Al.spLaw K, KX, hb, fun H a ns hl _ hS => ⟨a, ns, rfl, hS, hl, fun _ => rfl⟩, fun base _ _ => hF base⟩
    · rintro w H s e s' ⟨_, _, _, _, _, _, _, _, _, _, _, _, z⟩
      exact z
