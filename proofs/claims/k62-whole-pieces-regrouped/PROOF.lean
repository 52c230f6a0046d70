import PyProof.Rows.All
import Wide.All
import OpenK.AllK
import Wide.FinOn
import HandS.ForMost
import HandS.Words
import PySem.Challenge.RW_wayround_k62_whole_pieces_regrouped
import HandS.Exc
import HandS.Nested
import KE.KSuper
import HandS.ExcInit
import HandS.ExcOwn
import KE.KExcSuper
import KE.KCallOwn
import HandS.GenList
import HandS.DictComp
import HandS.DictTup
import KE.SortData
import HandS.WordsExc
import HandS.HeadEnd
import HandS.Star
import HandS.TryOnly
import HandS.Property
import HandS.FStr
import HandS.NoneIn
import HandS.TupAny
import HandS.Deep
import HandS.IsInst
import HandS.Flow
import HandS.Small
import KE.GoesMore
import KE.DataEq
import HandS.Walk
import HandS.Wide
import PyProof.Rows.RegReprOcc
import PyProof.StrOps2
import PyProof.Rows.StrDouble
import PyProof.Rows.StrClose
import HandS.Style
import HandS.ListItems
import KE.KDictList
import KE.KStateDown
import HandS.Head0
import HandS.Head1
import HandS.Head2
import HandS.HeadHook1
set_option Elab.async false
set_option linter.all false
set_option maxRecDepth 100000
set_option maxHeartbeats 4000000
-- WrTop
namespace Wr
open PySem L2
/-- the i-th statement of the text -/
def top (i : Nat) : Stmt := PySem.Challenge.pw_wayround_k62_whole_pieces_regrouped.main.body.getD i (.Pass ⟨0, 0, 0, 0⟩)
/-- the j-th statement of the class at i -/
def mth (i j : Nat) : Stmt := match top i with
  | .ClassDef _ _ _ body _ _ _ _ _ _ _ => body.getD j (.Pass ⟨0, 0, 0, 0⟩)
  | s => s
end Wr
-- WrSup
/-! An __init__ of a class of the program that begins with super().__init__(..) -/
namespace Wr
open PySem PySem.Spec PyProof.Rows L2 NdefX

/-- what the written part says of such an __init__ at f, of the class at D; f2: the one above it -/
structure SupTxt (K : PySem.W.Frag) (P : Program) (f : Addr) (qual : Str) (st : Stmt) (D f2 : Addr) (fd : FuncData) (c cc : Addr) : Prop where
  isFd : ∃ (doc pm ct : Value), fd = PySem.W.fnX "__init__" qual (defArgs st) (defBody st) (defScope st) [("__class__", cc)] .none .none doc pm none (.ref c) ct
  lk : ∃ (oc : Value) (od : Option Addr) (osl : Array (Option Value)), K.lookup f = some ⟨oc, od, .func fd, osl⟩
  cd : PySem.W.codeIn K (.ref c) qual = true
  file : ∃ ccl cdd vs ccs z t, K.lookup c = some ⟨ccl, cdd, .fields vs, ccs⟩ ∧ vs[2]? = some (.str z t) ∧ ((P.main.file : Str) == z) = true
  cell : ∃ cl cld csl, K.lookup cc = some ⟨cl, cld, .cell (some (.ref D)), csl⟩
  sup : PySem.W.nsIn K mainGlobals "super" = some none
  opq : PySem.W.nsIn K cStatics "thirdparty.any" = some none
  cls : (PySem.W.clsIn K D).isSome = true
  sub : PySem.W.mroIn K D (.ref D) = some true
  abv : PySem.W.ks_superIn K D D "__init__" = some (some (.ref f2))
  ty : PySem.W.typeIn K (.ref f2) = some (.type "function")
  fi : PySem.W.fnIn K f2 = true
  top : (P.main.scope.names.lookup ("super" : Str)).isSome = false

def nfOf (qual : Str) (st : Stmt) (c cc : Addr) : NF := ⟨"__init__", qual, defArgs st, defBody st, defScope st, [("__class__", cc)], c⟩


section
variable {X : Cx} {CX : CXT} {pins : List (Addr × Obj)} {σ : L2.St} {H : Hp} {s : Shared} {ps2 : List Str} {f f2 c cc D x dx : Addr} {fd fd2 : FuncData} {qual : Str} {st : Stmt} {k : Nat} {sp2 : Sp} {fs : List (Str × V)}
  {e : Expr} {es : List Expr} {body : List Stmt} {p0 p1 ap cp ep : Pos} {E : XK} {ta : TA} {pl : Sem Bool}
/-- the call of the __init__ above, behind super() -/
theorem sup_eval (T : SupTxt X.K X.prog f qual st D f2 fd c cc) (I : Inv X pins σ H s) (hx : H x = some (.ins D dx fs))
    (kf : X.env.func = some f) (kc : X.env.code = .ref c) (kcc : X.env.cells.lookup ("__class__" : Str) = some cc) (hpar : (fd.params.posonlyargs ++ fd.params.args).head?.map (·.arg) = some ("self" : Str))
    (hself : X.N[0]? = some ("self" : Str)) (hv0 : σ[0]? = some (some (.ref x))) (hloc : X.env.scope.names.lookup ("self" : Str) = some .local)
    (hsc : X.env.scope.names.lookup ("super" : Str) = some .globalImplicit) (hcl : X.env.scope.names.lookup ("__class__" : Str) = some .free)
    (hmg : X.mg "super" = none)
    (G2 : FnOk X.prog X.w X.K X.mg X.base CX k f2 fd2 ps2 sp2) (b2 : Binds X.K fd2 ps2 []) (hr : Room k X.A) (hpass : Passes CX X E)
    (hA : PA X (e :: es) ta) (he : starEach (e :: es) X.env = (false, eval e X.env) :: starEach es X.env) (hpl : (backTo cp (starEach es X.env)).any (·.1) = false) {Q : VK}
    (hcall : eval (.Call (.Attribute (.Call (.Name "super" p0) [] [] p1) "__init__" ap) (e :: es) [] cp) X.env = (do
      let ov ← attributeBase (.Call (.Name "super" p0) [] [] p1) "__init__" X.env (eval (.Call (.Name "super" p0) [] [] p1) X.env)
      standAt ap.atName
      let (f, first) ← holding [ov] (getMethod ov "__init__" pl)
      callWith cp f first (backTo cp (starEach (e :: es) X.env)) []))
    (q : ta σ H fun us H1 => sp2 (.ref x :: us) H1 Q E) :
    _root_.PySem.wpAt (model X.prog X.w) X.A (.func body X.env) (eval (.Call (.Attribute (.Call (.Name "super" p0) [] [] p1) "__init__" ap) (e :: es) [] cp) X.env) (EP X pins σ Q) X.xe s := by
  refine ks_wpAt_MethodCall (pl := pl) ?_ hcall
  obtain ⟨oc, od, osl, lk⟩ := T.lk
  obtain ⟨ccl, cdd, vs, ccs, z, t, lcd, hvs, hfile⟩ := T.file
  obtain ⟨cl, cld, csl, lcc⟩ := T.cell
  have KX := I.kIn
  obtain ⟨cdD, hcd⟩ := Option.isSome_iff_exists.mp T.cls
  obtain ⟨mA, O, _⟩ := ins_get I.hok hx
  obtain ⟨odx, J, _⟩ := O.look
  obtain ⟨ar, har, harg⟩ := Option.map_eq_some_iff.mp hpar
  have harg : ar.arg = ("self" : Str) := harg
  have hnoc : ∀ c', (PySem.W.instObj D dx).data ≠ .cls c' := fun c' q => by cases q
  obtain ⟨oD, hD1, hD2⟩ : ∃ oD, s.heap.get? D = some oD ∧ oD.data = .cls cdD := by
    unfold PySem.W.clsIn at hcd
    split at hcd
    · rename_i a1 a2 a3 a4 ho
      cases hcd
      exact ⟨_, KX _ _ ho, rfl⟩
    · cases hcd
  obtain ⟨mb, hmb, hbt⟩ := I.mod.blt
  have hgk := I.mod.glob.keeps I.bk
  have hbk := hmb.keeps I.bk
  have hbs : mb ("super" : Str) = some (.type "super") := (hbt _ (by decide +kernel)).trans (by first | boot_by_name | rfl | kernel_rfl)
  obtain ⟨m, hn, hm⟩ := I.loc
  obtain ⟨u0, ru, lu⟩ := hm 0 "self" (.ref x) hself hv0 (.inl hloc)
  have lu' : m ("self" : Str) = some (.ref x) := by
    cases (show u0 = Value.ref x from ru)
    rcases lu with ⟨_, z⟩ | ⟨z, _⟩
    · exact z
    · have z2 : X.env.scope.names.lookup ("self" : Str) = some .cell ∨ X.env.scope.names.lookup ("self" : Str) = some .free := z
      rw [hloc] at z2
      rcases z2 with z2 | z2 <;> cases z2
  refine ks_wpAt_super_base (f := f) (cc := c) hsc hcl (by decide) kf (KX _ _ lk) rfl har kc (KX _ _ lcd) rfl hvs hfile T.top ?_
  refine PySem.W.ks_loadName_global I.ok.kind hsc (PySem.Calls.loadGlobal_builtin (by rw [I.ok.glob]; exact hgk) hmg (by rw [I.ok.blt]; exact hbk) hbs ⟨rfl, ?_⟩)
  refine wpAny_loadName_free I.ok.kind hcl kcc ⟨_, KX _ _ lcc, rfl⟩ ?_
  rw [harg]
  refine wpAny_loadName_local I.ok.kind hloc hn lu' ?_
  refine ks_wpAny_isType_cls hD1 hD2 ⟨rfl, ?_⟩
  obtain ⟨hh, g, d, tk, os⟩ := s
  refine ks_wpAny_call_super hD1 hD2 J.at_ J.cls hnoc (PySem.W.looks_mroIn KX T.sub) (fun h' e' k' => ?_)
  have I1 : Inv X pins σ H ⟨h', g, d, tk, os⟩ := I.kept (t' := tk) k'
  -- the method of the super object
  obtain ⟨of, hof, hofc⟩ : ∃ of, h'.get? f2 = some of ∧ of.cls = .type "function" := by
    have ht' : (X.K.lookup f2).map (·.cls) = some (.type "function") := T.ty
    cases zz : X.K.lookup f2 with
    | none => rw [zz] at ht'; cases ht'
    | some of => rw [zz] at ht'; exact ⟨of, I1.kIn _ _ zz, Option.some.inj ht'⟩
  have habv := T.abv
  unfold PySem.W.ks_superIn at habv
  rw [hcd] at habv
  refine ks_wpAny_getMethod_super e' (PySem.W.looks_opaque I1.kIn T.opq) (l₀ := cdD.mro) (fun A Q E s k q => wpAny_bind ((PySem.W.looks_clsIn I1.kIn hcd) A _ E s k (wpAny_pure q))) rfl I1.kIn habv hof hofc (PySem.W.ks_ne KX J hcd) (by decide) ?_
  generalize hq0 : h'.objs.size = q0
  have k2 : ∀ b o, h'.get? b = some o → (h'.push { cls := .type "method", data := .fields #[.ref f2, .ref x] }).get? b = some o := fun b o z => Heap.get?_push_of_some _ z
  have hq1 : (h'.push (PySem.W.methodObj (.ref f2) (.ref x))).get? q0 = some (PySem.W.methodObj (.ref f2) (.ref x)) := by rw [← hq0]; exact Heap.get?_push_size _ rfl
  have I2 : Inv X pins σ H ⟨h'.push (PySem.W.methodObj (.ref f2) (.ref x)), g, d, tk + 1, os⟩ := I1.kept (t' := tk + 1) k2
  have hf0 : FpOk X pins H q0 := I1.fpOk (Nat.le_of_eq hq0) (I1.hok.fresh (Nat.le_of_eq hq0))
  have I3 := I2.pinned (fp := [q0]) (fun b hb => by rw [List.mem_singleton.mp hb]; exact hf0) (fun b hb => by rw [List.mem_singleton.mp hb]; exact ⟨_, hq1, fun v z => by cases z⟩)
  have hpin : ((q0, PySem.W.methodObj (.ref f2) (.ref x)) : Addr × Obj) ∈ pinsAt [q0] (h'.push (PySem.W.methodObj (.ref f2) (.ref x))) := mem_pinsAt (List.mem_singleton.mpr rfl) hq1
  refine PySem.W.callWith_of (P := PySem.W.MethP X.K q0 f2 (.ref x)) ?_ (PySem.W.keeps_M T.fi) ?_
  · rw [he]
    show ((false || (backTo cp (starEach es X.env)).any (·.1)) || false) = false
    rw [hpl] <;> rfl
  have hrun := hA.run cp _ _ σ H _ I3 q
  rw [he] at hrun ⊢
  refine PySem.Calls.evalArgs_plain ?_
  refine thn hrun fun us s3 ⟨ws, H3, I4, rv, q4⟩ => ?_
  have hmet := (I4.pin _ (List.mem_append_right _ (List.mem_append_right _ hpin))).1
  refine ⟨⟨hmet, I4.kIn⟩, ?_⟩
  have I5 := I4.unpinned
  have hl : (Value.ref x :: us ++ []).length = ps2.length := by
    rw [← G2.len _ _ _ _ q4, List.append_nil, List.length_cons, List.length_cons, rv.length]
  refine wpAny_call (PySem.W.method_call hmet (codeAny_mono (G2.run X.A X.stack s3 H3 ⟨.ref x :: us, []⟩ (.ref x :: us ++ []) (.ref x :: ws) Q E hr I5.env0 (b2 s3 (.ref x :: us) I5.kIn hl) (by rw [List.append_nil]; exact .cons rfl rv) q4) fun r s' hq' => ?_))
  cases r with
  | error e => exact hpass _ _ _ _ e s' I5 hq'
  | ok fl =>
    cases fl with
    | ret u => exact I5.after hq'
    | next => exact False.elim hq'
    | brk => exact False.elim hq'
    | cont => exact False.elim hq'
end
section
variable {CX : CXT} {P : Program} {w : World} {K : PySem.W.Frag} {mg : Str → Option Value} {base : Heap} {N ps ps2 : List Str} {f f2 c cc D : Addr} {fd fd2 : FuncData} {qual : Str} {st : Stmt} {k : Nat} {sp sp2 : Sp}
  {e : Expr} {es : List Expr} {rest : List Stmt} {p0 p1 ap cp ep : Pos}

/-- the def keeps its promise: its first statement calls the __init__ above (its promise sp2) upon the same object, then come the others -/
theorem fn_sup (T : SupTxt K P f qual st D f2 fd c cc) (S : NScope N ps ["__class__"] (defScope st))
    (hst : defBody st = .Expr (.Call (.Attribute (.Call (.Name "super" p0) [] [] p1) "__init__" ap) (e :: es) [] cp) ep :: rest)
    (hb : ∀ (doc pm ct : Value) (us : List Value), us.length = ps.length → bindArgs ((nfOf qual st c cc).fd doc pm ct) ⟨us, []⟩ = pure (ps.zip us))
    (len : ∀ vs H Q E, sp vs H Q E → vs.length = ps.length) (hps : ps.head? = some ("self" : Str)) (hpar : ((defArgs st).posonlyargs ++ (defArgs st).args).head?.map (·.arg) = some ("self" : Str))
    (G2 : FnOk P w K mg base CX k f2 fd2 ps2 sp2) (b2 : Binds K fd2 ps2 [])
    (hsc : (defScope st).names.lookup ("super" : Str) = some .globalImplicit) (hcl : (defScope st).names.lookup ("__class__" : Str) = some .free)
    (hbody : ∀ (A : Around) (outer : List Env) (s : Shared) (H : Hp) (vs : List V) (Q : VK) (E : XK), Room (k + 1) (A.deeper (envF (nfOf qual st c cc) f s.heap.objs.size)) → sp vs H Q E →
      ∃ (x dx : Addr) (fs : List (Str × V)) (ta : TA) (tr : TS), vs.head? = some (.ref x) ∧ H x = some (.ins D dx fs) ∧
        (Passes CX (ncx CX P w K mg base N (nfOf qual st c cc) f A outer s H E) E) ∧
        PA (ncx CX P w K mg base N (nfOf qual st c cc) f A outer s H E) (e :: es) ta ∧ PSs (ncx CX P w K mg base N (nfOf qual st c cc) f A outer s H E) rest tr ∧
        ta (startF N vs [some (.ref D)]) H fun us H1 => sp2 (.ref x :: us) H1 (fun _ H2 => tr { nx := fun _ H' => Q .non H', rt := Q } (startF N vs [some (.ref D)]) H2) E)
    (he : ∀ env, starEach (e :: es) env = (false, eval e env) :: starEach es env) (hpl : ∀ env, (backTo cp (starEach es env)).any (·.1) = false)
    (hcall : ∀ env, ∃ pl : Sem Bool, eval (.Call (.Attribute (.Call (.Name "super" p0) [] [] p1) "__init__" ap) (e :: es) [] cp) env = (do
      let ov ← attributeBase (.Call (.Name "super" p0) [] [] p1) "__init__" env (eval (.Call (.Name "super" p0) [] [] p1) env)
      standAt ap.atName
      let (f, first) ← holding [ov] (getMethod ov "__init__" pl)
      callWith cp f first (backTo cp (starEach (e :: es) env)) [])) :
    FnOk P w K mg base CX (k + 2) f fd ps sp := by
  obtain ⟨doc, pm, ct, rfl⟩ := T.isFd
  obtain ⟨oc, od, osl, lk⟩ := T.lk
  refine ⟨len, fun A outer s H args us vs Q E hr e0 hbn r hsp => ?_⟩
  have hl := len _ _ _ _ hsp
  have KX : K.In s.heap := e0.mod.kin.keeps fun b o e => (e0.bs b o e).1
  have lim : s.heap.NoLimit := e0.mod.nolimit.keeps fun b o e => (e0.bs b o e).1
  obtain ⟨ccl, ccd, ccs, lcc⟩ := T.cell
  refine codeAny_call_function hr.depth (KX _ _ lk) rfl S.co S.gen rfl (PySem.W.codeRec_of KX T.cd) (hbn _ _ _ _ ?_)
  refine wpAny_newFunctionEnv S.nocell (fun ⟨n, _⟩ hy => S.par n (List.of_mem_zip hy).1) (fun h₁ hns hsb => ⟨lim.fresh _ hsb, ?_⟩) S.kind
  show codeAny _ _ (.func (defBody st) (envF (nfOf qual st c cc) f s.heap.objs.size)) _ _
  have kp : ∀ b o, s.heap.get? b = some o → h₁.get? b = some o := fun b o e => hsb.extBut b o (Nat.ne_of_lt (Heap.lt_size e)) (Heap.get?_push_of_some _ e)
  have hr1 : Room (k + 1) (A.deeper (envF (nfOf qual st c cc) f s.heap.objs.size)) := hr.deeper _
  obtain ⟨x, dx, fs, ta, tr, hv0, hx, hpass, hA, hR, hq⟩ := hbody A outer s H vs Q E hr1 hsp
  have cells : CellsAt (nfOf qual st c cc).cl ["__class__"] [some (.ref D)] s.heap H := by
    have hc0 : base.get? cc = some ⟨ccl, ccd, .cell (some (.ref D)), ccs⟩ := e0.mod.kin _ _ lcc
    have hin : s.heap.IsCell cc (some (.ref D)) := ⟨_, (e0.bs _ _ hc0).1, rfl⟩
    have one : ∀ y a, (nfOf qual st c cc).cl.lookup y = some a → y = ("__class__" : Str) ∧ a = cc := fun y a q => by
      have q' : List.lookup y [(("__class__" : Str), cc)] = some a := q
      rw [List.lookup_cons] at q'
      by_cases hy : y = ("__class__" : Str)
      · subst hy
        simp at q'
        exact ⟨rfl, q'.symm⟩
      · have hb : (y == ("__class__" : Str)) = false := by simpa using hy
        rw [hb] at q'
        simp at q'
    refine ⟨rfl, fun y a q => ?_, fun y z a q q' => (one y a q).1.trans (one z a q').1.symm, fun i y q => ?_⟩
    · obtain ⟨_, rfl⟩ := one y a q
      exact ⟨(e0.bs _ _ hc0).2, _, hin⟩
    · cases i with
      | zero =>
        simp at q
        subst q
        refine ⟨cc, by simp [nfOf, List.lookup], fun v hv => ?_⟩
        simp at hv
        subst hv
        exact ⟨_, rfl, hin⟩
      | succ i => simp at q
  have I : Inv (ncx CX P w K mg base N (nfOf qual st c cc) f A outer s H E) [] (startF N vs [some (.ref D)]) H { s with heap := h₁, toks := s.toks + (ps.zip us).length } := inv_startN S hr.hd e0 hl r cells hns kp
  have hself0 : N[0]? = some ("self" : Str) ∧ (defScope st).names.lookup ("self" : Str) = some .local ∧ (startF N vs [some (.ref D)])[0]? = some (some (.ref x)) := by
    cases ps with
    | nil => cases hps
    | cons a r =>
      have ea : a = ("self" : Str) := Option.some.inj hps
      subst ea
      refine ⟨?_, S.par _ (List.Mem.head _), ?_⟩
      · have h0 : (N.take ((("self" : Str) :: r).length + (["__class__"] : List Str).length))[0]? = some ("self" : Str) := by
          rw [S.pre] <;> rfl
        rw [List.getElem?_take_of_lt (by simp)] at h0
        exact h0
      · cases vs with
        | nil => cases hv0
        | cons v r2 =>
          have ev : v = .ref x := Option.some.inj hv0
          subst ev
          rfl
  obtain ⟨pl, hcl2⟩ := hcall (ncx CX P w K mg base N (nfOf qual st c cc) f A outer s H E).env
  refine ks_codeAny_funcAt ?_
  rw [hst]
  refine ks_wpAt_execs_cons (ks_wpAt_Expr_any ?_ I.quiet rfl)
  refine ks_wpAt_mono (sup_eval (X := ncx CX P w K mg base N (nfOf qual st c cc) f A outer s H E) (Q := fun _ H2 => tr { nx := fun _ H' => Q .non H', rt := Q } (startF N vs [some (.ref D)]) H2) T I hx rfl rfl (show List.lookup ("__class__" : Str) [(("__class__" : Str), cc)] = some cc from by simp [List.lookup]) hpar hself0.1 hself0.2.2 hself0.2.1 hsc hcl (PySem.W.mg_none_of e0.mod.kin e0.mod.glob T.sup)
    G2 b2 (hr1.mono (Nat.le_succ _)) hpass hA (he _) (hpl _) hcl2 hq) (fun v s' hv => ?_) (fun e s' z => z)
  obtain ⟨z, H2, I2, _, q2⟩ := hv
  refine wpAt_of_wpAny (wpAny_mono (hR.run [] s' _ H2 _ I2 q2) (fun fl s2 hs => ?_) fun e s2 z => z)
  have fin : ∀ {σ' : L2.St} {H' : Hp} {v : V} {u : Value}, Inv (ncx CX P w K mg base N (nfOf qual st c cc) f A outer s H E) [] σ' H' s2 → L2.RelV v u → Q v H' → CE outer P w H s Q u s2 :=
    fun {σ' H' v u} J rv q => ⟨v, H', J.os, J.bare, J.base, J.hok, rv, q⟩
  cases fl with
  | ret u =>
    obtain ⟨v, σ', H', J, rv, q⟩ := hs
    exact fin J rv q
  | next =>
    obtain ⟨σ', H', J, q⟩ := hs
    exact fin (v := V.non) (u := Value.none) J rfl q
  | brk =>
    obtain ⟨_, _, _, q⟩ := hs
    exact False.elim q
  | cont =>
    obtain ⟨_, _, _, q⟩ := hs
    exact False.elim q
end
end Wr
-- WrExc
/-! An error of a class of the program over ValueError, whose __init__ says super().__init__(text) and stores two values: made and raised. Its fields are not told: nobody here reads them -/
namespace Wr
open PySem PySem.Spec PyProof.Rows L2 PySem.HandSPX NdefX

/-- what the written part says of such a class at C, its __init__ at f (stored names n1, n2; code c, cell cc) -/
structure ErrTxt (K : PySem.W.Frag) (P : Program) (qual n1 n2 : Str) (st : Stmt) (C f c cc : Addr) : Prop where
  cls : ∃ nm q N bs bm sn sub ab col dd k0 k1 k2 k3 k5, K.lookup C = some (excClassObj nm q C N bs bm true sn sub ab col dd k0 k1 k2 k3 k5 "ValueError.__new__") ∧ refsVE bm = true
  lk : ∃ (oc ct doc pm : Value) (od : Option Addr) (osl : Array (Option Value)), K.lookup f = some ⟨oc, od, .func (PySem.W.fnX "__init__" qual (defArgs st) (defBody st) (defScope st) [("__class__", cc)] .none .none doc pm none (.ref c) ct), osl⟩
  cd : PySem.W.codeIn K (.ref c) qual = true
  file : ∃ ccl cdd vs ccs z t, K.lookup c = some ⟨ccl, cdd, .fields vs, ccs⟩ ∧ vs[2]? = some (.str z t) ∧ ((P.main.file : Str) == z) = true
  cell : ∃ cl cld csl, K.lookup cc = some ⟨cl, cld, .cell (some (.ref C)), csl⟩
  sup : PySem.W.nsIn K mainGlobals "super" = some none
  opq : PySem.W.nsIn K cStatics "thirdparty.any" = some none
  sub : PySem.W.mroIn K C (.ref C) = some true
  abv : PySem.W.ks_superIn K C C "__init__" = some (some (.builtin "ValueError.__init__"))
  top : (P.main.scope.names.lookup ("super" : Str)).isSome = false
  sa : PySem.W.findIn K (.ref C) "__setattr__" = some (some (.builtin "object.__setattr__"))
  no1 : PySem.W.findIn K (.ref C) n1 = some none
  no2 : PySem.W.findIn K (.ref C) n2 = some none
  iC : PySem.W.findIn K (.ref C) "__init__" = some (some (.ref f))
  tF : PySem.W.typeIn K (.ref f) = some (.type "function")
  kC : PySem.W.keepIn K (.ref C) = true
  exC : PySem.W.subIn K (.ref C) (.type "BaseException") = some true
  veC : PySem.W.subIn K (.ref C) (.type "ValueError") = some true
  tyC : PySem.W.typeIn K (.ref C) = some (.type "type")
  te : PySem.W.exmOne K (.ref C) (.ref C) = some true

section
variable {prog : Program} {w : World} {A : Around} {E : Value → Shared → Prop} {h : Heap} {g : Array GenState} {d : Drawn} {t : Nat} {os : OsState}
variable {nm q : Str} {C N : Addr} {bs bm : List Value} {sn : List Str} {sub : List Value} {ab : Bool} {col : Option Bool} {dd : Option Addr} {k0 k1 k2 k3 k5 : Option Value}
/-- the wrapper of ValueError.__init__, called: the args are laid anew -/
theorem call_wrapped {u e t0 : Addr} {rest : List Value} {Q : Value → Shared → Prop}
    (hC : h.get? C = some (excClassObj nm q C N bs bm true sn sub ab col dd k0 k1 k2 k3 k5 "ValueError.__new__")) (hbm : refsVE bm = true) (he : h.get? e = some (excO C t0)) (hu : h.get? u = some (PySem.W.kxs_mw "ValueError.__init__" e)) (hrest : rest.length ≤ sizeLine)
    (hq : ∀ h' t1, (∀ b o, b ≠ e → h.get? b = some o → h'.get? b = some o) → h'.get? e = some (excO C t1) → Q .none ⟨h', g, d, t, os⟩) :
    wpAny (model prog w) A (call (.ref u) rest) Q E ⟨h, g, d, t, os⟩ := by
  refine wpAny_call (codeAny_of_tree ?_)
  show wpAny _ A.in1 (callAny (.ref u) ⟨rest, []⟩) _ _ _
  simp only [callAny]
  refine wpAny_bind (wpAny_load hu ?_)
  simp only [PySem.W.kxs_mw, show (Value.type "method-wrapper" == Value.type "method" || Value.type "method-wrapper" == Value.type "builtin_function_or_method" || Value.type "method-wrapper" == Value.type "method-wrapper") = true by decide, if_true]
  refine PySem.W.KFB.if_so (by decide) ?_
  refine wpAny_bind (PySem.W.check_bound_init F.excBase_ValueError.toExcCallFacts hC he rfl ?_)
  refine wpAny_bind (wpAny_pure (wpAny_pure ?_))
  refine ⟨plainId_quiet F.excBase_ValueError.init.plain _, codeAny_builtin F.excBase_ValueError.initEntry ?_⟩
  rw [Around.under_plainId F.excBase_ValueError.init.plain _]
  wp_walk
  refine hq _ h.objs.size (fun b o hb ho => ?_) ?_
  · rw [Heap.get?_update_other _ _ (Ne.symm hb)]
    exact Heap.get?_push_of_some _ ho
  · rw [Heap.get?_update_self _ (Heap.get?_push_of_some _ he) rfl]
    rfl
end

theorem ld_loc {M : Model} {A : Around} {E : Value → Shared → Prop} {s : Shared} {env : Env} {m : Str → Option Value} {x : Str} {pos : Pos} {v : Value} {Q : Value → Shared → Prop} (hn : s.heap.Ns env.locals m) (hv : m x = some v) (h : Q v s)
    (hk : env.scope.kind = .function) (hl : env.scope.names.lookup x = some .local) (hd : (x == ("__debug__" : Str)) = false := by decide) : wpAny M A (eval (.Name x pos) env) Q E s :=
  wpAny_Name (wpAny_loadName_local hk hl hn hv h) hd
theorem one_lim (v : Value) : [v].length ≤ sizeLine := by
  rw [sizeLine_eq]
  exact (by decide : 1 ≤ 16777216)
section
variable {prog : Program} {w : World} {A : Around} {E : Value → Shared → Prop} {R : Result → Shared → Prop} {K : PySem.W.Frag} {mg mb : Str → Option Value} {C f c cc : Addr} {qual n1 n2 : Str} {st : Stmt}
  {m : Str} {j : Nat} {p0 p1 ap cp ep mp a1 a2 a3 a4 b1 b2 b3 b4 : Pos}
/-- the __init__ runs upon a fresh error at x -/
theorem err_init (T : ErrTxt K prog qual n1 n2 st C f c cc) {s : Shared} {x t0 : Addr} {v1 v2 : Value} (X : K.In s.heap) (hns : s.heap.Ns mainGlobals mg) (hmb : s.heap.Ns builtinsNs mb) (hbt : ∀ y : Str, y ≠ "__name__" → mb y = bootBuiltins y) (hlim : s.heap.NoLimit)
    (hx : s.heap.get? x = some (excO C t0)) (hnx : K.lookup x = none) (hroom : A.depth < recursionLimit)
    (hst : defBody st = [.Expr (.Call (.Attribute (.Call (.Name "super" p0) [] [] p1) "__init__" ap) [.Constant (.str m) j mp] [] cp) ep, .Assign [.Attribute (.Name "self" a1) n1 a2] (.Name n1 a3) a4, .Assign [.Attribute (.Name "self" b1) n2 b2] (.Name n2 b3) b4])
    (hlook : ∀ y ∈ (["self", n1, n2] : List Str), (defScope st).names.lookup y = some .local) (hnd : (["self", n1, n2] : List Str).Nodup)
    (hsc : (defScope st).names.lookup ("super" : Str) = some .globalImplicit) (hcl : (defScope st).names.lookup ("__class__" : Str) = some .free) (hkd : (defScope st).kind = .function) (hco : (defScope st).isCoroutine = false) (hge : (defScope st).isGenerator = false) (hncell : ∀ y ∈ (defScope st).names, y.2 ≠ .cell)
    (hpar : ((defArgs st).posonlyargs ++ (defArgs st).args).head?.map (·.arg) = some ("self" : Str))
    (hbind : ∀ doc pm ct : Value, bindArgs (PySem.W.fnX "__init__" qual (defArgs st) (defBody st) (defScope st) [("__class__", cc)] .none .none doc pm none (.ref c) ct) ⟨[.ref x, v1, v2], []⟩ = pure [(("self" : Str), Value.ref x), (n1, v1), (n2, v2)])
    (hcall : ∀ env, ∃ pl : Sem Bool, eval (.Call (.Attribute (.Call (.Name "super" p0) [] [] p1) "__init__" ap) [.Constant (.str m) j mp] [] cp) env = (do
      let ov ← attributeBase (.Call (.Name "super" p0) [] [] p1) "__init__" env (eval (.Call (.Name "super" p0) [] [] p1) env)
      standAt ap.atName
      let (f, first) ← holding [ov] (getMethod ov "__init__" pl)
      callWith cp f first (backTo cp (starEach [.Constant (.str m) j mp] env)) []))
    (hd1 : (n1 == ("__debug__" : Str)) = false) (hd2 : (n2 == ("__debug__" : Str)) = false)
    (hq : ∀ h' tk dx t1, (∀ b o, b ≠ x → s.heap.get? b = some o → h'.get? b = some o) → h'.get? x = some { cls := .ref C, dict := some dx, data := .fields #[.ref t1, .none, .none, .none, .bool false, .none] } → R (.ok (.ret .none)) { s with heap := h', toks := tk }) :
    codeAny (model prog w) A (.call (.ref f) ⟨[.ref x, v1, v2], []⟩) R s := by
  obtain ⟨oc, ct, doc, pm, od, osl, lk⟩ := T.lk
  obtain ⟨ccl, cdd, vs, ccs, z, t, lcd, hvs, hfile⟩ := T.file
  obtain ⟨cl, cld, csl, lcc⟩ := T.cell
  obtain ⟨nm, q, N, bs, bm, sn, sub, ab, col, dd, k0, k1, k2, k3, k5, hC, hbm⟩ := T.cls
  obtain ⟨ar, har, harg⟩ := Option.map_eq_some_iff.mp hpar
  have harg : ar.arg = ("self" : Str) := harg
  have hcls : PySem.W.clsIn K C = some { name := nm, bases := bs, mro := .ref C :: bm, ns := N, qualname := q, hasDict := true, slotNames := sn, subclasses := sub, abstract := ab, collection := col, hasDel := false } := by unfold PySem.W.clsIn; rw [hC] <;> rfl
  refine ks_codeAny_call_defAt (binds := [(("self" : Str), Value.ref x), (n1, v1), (n2, v2)]) hroom (X _ _ lk) rfl hlim (PySem.W.codeRec_of X T.cd) rfl (BindsTo.of_eq (hbind doc pm ct)) hncell ?_ (fun h₀ hns0 kp => ?_) hco hge hkd
  · intro y hy
    have hy' : y.1 ∈ (["self", n1, n2] : List Str) := by
      have := List.mem_map_of_mem (f := (·.1)) hy
      exact this
    exact hlook _ hy'
  show _root_.PySem.wpAt _ _ (.func (defBody st) (PySem.W.ksEnv qual (defScope st) s.heap.objs.size f (.ref c) cc)) (execs (defBody st) (PySem.W.ksEnv qual (defScope st) s.heap.objs.size f (.ref c) cc)) _ _ _
  obtain ⟨pl, hc2⟩ := hcall (PySem.W.ksEnv qual (defScope st) s.heap.objs.size f (.ref c) cc)
  generalize hL : s.heap.objs.size = L at *
  have xL : L ≠ x := fun z => by
    have := Heap.lt_size hx
    rw [hL, z] at this
    exact Nat.lt_irrefl _ this
  have key : ∀ y v, (y, v) ∈ ([(("self" : Str), Value.ref x), (n1, v1), (n2, v2)] : List (Str × Value)) → ([(("self" : Str), Value.ref x), (n1, v1), (n2, v2)] : List (Str × Value)).reverse.lookup y = some v := by
    intro y v hy
    obtain ⟨i, hi⟩ := List.mem_iff_getElem?.mp hy
    refine zip_look (ps := ["self", n1, n2]) (us := [.ref x, v1, v2]) (i := i) hnd ?_ ?_
    · match i, hi with
      | 0, hi => simp at hi; simp [hi.1]
      | 1, hi => simp at hi; simp [hi.1]
      | 2, hi => simp at hi; simp [hi.1]
    · match i, hi with
      | 0, hi => simp at hi; simp [hi.2]
      | 1, hi => simp at hi; simp [hi.2]
      | 2, hi => simp at hi; simp [hi.2]
  generalize hm : (fun y => ([(("self" : Str), Value.ref x), (n1, v1), (n2, v2)] : List (Str × Value)).reverse.lookup y) = mm at hns0
  have mself : mm "self" = some (.ref x) := by rw [← hm]; exact key _ _ (by simp)
  have m1 : mm n1 = some v1 := by rw [← hm]; exact key _ _ (by simp)
  have m2 : mm n2 = some v2 := by rw [← hm]; exact key _ _ (by simp)
  have X0 : K.In h₀ := X.keeps kp
  have hx0 := kp _ _ hx
  rw [hst]
  refine ks_wpAt_execs_cons (ks_wpAt_Expr_any ?_ (by simp [interactive, hkd]) rfl)
  refine ks_wpAt_MethodCall (pl := pl) ?_ hc2
  have hbs : mb ("super" : Str) = some (.type "super") := (hbt _ (by decide +kernel)).trans (by first | boot_by_name | rfl | kernel_rfl)
  refine ks_wpAt_super_base (f := f) (cc := c) hsc hcl (by decide) rfl (X0 _ _ lk) rfl har rfl (X0 _ _ lcd) rfl hvs hfile T.top ?_
  refine PySem.W.ks_loadName_global hkd hsc (PySem.Calls.loadGlobal_builtin (hns.keeps kp) (PySem.W.mg_none_of X hns T.sup) (hmb.keeps kp) hbs ⟨rfl, ?_⟩)
  refine wpAny_loadName_free hkd hcl (by show List.lookup ("__class__" : Str) [(("__class__" : Str), cc)] = some cc; simp [List.lookup]) ⟨_, X0 _ _ lcc, rfl⟩ ?_
  rw [harg]
  refine wpAny_loadName_local hkd (hlook _ (by simp)) hns0 mself ?_
  refine ks_wpAny_isType_cls (X0 _ _ hC) rfl ⟨rfl, ?_⟩
  refine ks_wpAny_call_super (X0 _ _ hC) rfl hx0 rfl (fun c' e => by cases e) (PySem.W.looks_mroIn X0 T.sub) (fun h1 e1 k1 => ?_)
  have X1 := X0.keeps k1
  have hx1 := k1 _ _ hx0
  have J1 : PySem.W.InstAt h1 x (excO C t0) C none := ⟨hx1, rfl, rfl, trivial⟩
  have habv := T.abv
  unfold PySem.W.ks_superIn at habv
  rw [hcls] at habv
  refine PySem.W.kxs_getMethod PySem.W.kxs_ValueError e1 (PySem.W.looks_opaque X1 T.opq) (l₀ := .ref C :: bm) (fun A Q E s k q => wpAny_bind ((PySem.W.looks_clsIn X1 hcls) A _ E s k (wpAny_pure q))) rfl X1 habv (J1.type.andThen (PySem.W.looks_subIn X1 T.veC)) (PySem.W.ks_ne X1 J1 hcls) (by decide) ?_
  generalize hu : h1.objs.size = u
  have k2 : ∀ b o, h1.get? b = some o → (h1.push (PySem.W.kxs_mw "ValueError.__init__" x)).get? b = some o := fun b o z => Heap.get?_push_of_some _ z
  have hu2 : (h1.push (PySem.W.kxs_mw "ValueError.__init__" x)).get? u = some (PySem.W.kxs_mw "ValueError.__init__" x) := by rw [← hu]; exact Heap.get?_push_size _ rfl
  generalize hh2 : h1.push (PySem.W.kxs_mw "ValueError.__init__" x) = h2 at k2 hu2
  have X2 := X1.keeps k2
  have hx2 := k2 _ _ hx1
  have n2' := (hns0.keeps k1).keeps k2
  refine PySem.W.kxs_callWith (i := "ValueError.__init__") (x := x) rfl (PySem.Calls.evalArgs_plain (PySem.Calls.spliced_cons (PySem.Calls.Constant_str (k := j) (pos := mp) (PySem.Calls.spliced_nil ⟨hu2, ?_⟩))))
  refine call_wrapped (X2 _ _ hC) hbm hx2 hu2 (one_lim _) fun h3 t1 k3 hx3 => ?_
  have X3 : K.In h3 := fun a o e => k3 a o (fun z => by rw [z, hnx] at e; cases e) (X2 a o e)
  have n3 := n2'.at' fun o e => k3 _ o xL e
  refine wpAt_of_wpAny ?_
  -- self.n1 = n1
  refine wpAny_execs_cons (plainObj_wpAny_Assign_Attribute ?_)
  refine ld_loc n3 m1 ?_ hkd (hlook _ (by simp)) hd1
  refine ld_loc n3 mself ?_ hkd (hlook _ (by simp))
  refine PySem.W.set_plain X3 (ox := excO C t1) (od := none) ⟨hx3, rfl, rfl, trivial⟩ T.sa ?_
  refine exc_osa X3 hx3 hcls (show refsVE (.ref C :: bm) = true from hbm) rfl T.no1 (fun h4 tk4 dx k4 dn dne hx4 hn4 => ?_)
  have X4 : K.In h4 := fun a o e => k4 a o (fun z => by rw [z, hnx] at e; cases e) (X3 a o e)
  have n4 := n3.at' fun o e => k4 _ o xL e
  -- self.n2 = n2
  show wpAny _ _ (execs _ _) _ _ _
  refine wpAny_execs_cons (plainObj_wpAny_Assign_Attribute ?_)
  refine ld_loc n4 m2 ?_ hkd (hlook _ (by simp)) hd2
  refine ld_loc n4 mself ?_ hkd (hlook _ (by simp))
  obtain ⟨oD, esD, epD, hoD, _⟩ := id hn4
  refine PySem.W.set_plain X4 (ox := { cls := .ref C, dict := some dx, data := .fields #[.ref t1, .none, .none, .none, .bool false, .none] }) (od := some oD) ⟨hx4, rfl, rfl, hoD⟩ T.sa ?_
  refine PySem.OEX.osa_old X4 hx4 hn4 (Within.cons n1 v1 Within.nil) (by simp) hcls (show refsVE (.ref C :: bm) = true from hbm) rfl T.no2 (fun h5 tk5 k5 hn5 => ?_)
  show wpAny _ _ (execs _ _) _ _ _
  refine wpAny_execs_nil (hq h5 tk5 dx t1 (fun b o hb e => ?_) (k5 x _ (Ne.symm dne) hx4))
  have e3 := k3 b o hb (k2 _ _ (k1 _ _ (kp _ _ e)))
  exact k5 b o (Nat.ne_of_lt (Nat.lt_of_lt_of_le (Heap.lt_size e3) dn)) (k4 b o hb e3)
/-- the class called: a fresh error -/
theorem err_made (T : ErrTxt K prog qual n1 n2 st C f c cc) {s : Shared} {v1 v2 : Value} (X : K.In s.heap) (hns : s.heap.Ns mainGlobals mg) (hmb : s.heap.Ns builtinsNs mb) (hbt : ∀ y : Str, y ≠ "__name__" → mb y = bootBuiltins y) (hlim : s.heap.NoLimit)
    (hroom : A.depth + 1 < recursionLimit)
    (hst : defBody st = [.Expr (.Call (.Attribute (.Call (.Name "super" p0) [] [] p1) "__init__" ap) [.Constant (.str m) j mp] [] cp) ep, .Assign [.Attribute (.Name "self" a1) n1 a2] (.Name n1 a3) a4, .Assign [.Attribute (.Name "self" b1) n2 b2] (.Name n2 b3) b4])
    (hlook : ∀ y ∈ (["self", n1, n2] : List Str), (defScope st).names.lookup y = some .local) (hnd : (["self", n1, n2] : List Str).Nodup)
    (hsc : (defScope st).names.lookup ("super" : Str) = some .globalImplicit) (hcl : (defScope st).names.lookup ("__class__" : Str) = some .free) (hkd : (defScope st).kind = .function) (hco : (defScope st).isCoroutine = false) (hge : (defScope st).isGenerator = false) (hncell : ∀ y ∈ (defScope st).names, y.2 ≠ .cell)
    (hpar : ((defArgs st).posonlyargs ++ (defArgs st).args).head?.map (·.arg) = some ("self" : Str))
    (hbind : ∀ x v1 v2 doc pm ct : Value, bindArgs (PySem.W.fnX "__init__" qual (defArgs st) (defBody st) (defScope st) [("__class__", cc)] .none .none doc pm none (.ref c) ct) ⟨[x, v1, v2], []⟩ = pure [(("self" : Str), x), (n1, v1), (n2, v2)])
    (hcall : ∀ env, ∃ pl : Sem Bool, eval (.Call (.Attribute (.Call (.Name "super" p0) [] [] p1) "__init__" ap) [.Constant (.str m) j mp] [] cp) env = (do
      let ov ← attributeBase (.Call (.Name "super" p0) [] [] p1) "__init__" env (eval (.Call (.Name "super" p0) [] [] p1) env)
      standAt ap.atName
      let (f, first) ← holding [ov] (getMethod ov "__init__" pl)
      callWith cp f first (backTo cp (starEach [.Constant (.str m) j mp] env)) []))
    (hd1 : (n1 == ("__debug__" : Str)) = false) (hd2 : (n2 == ("__debug__" : Str)) = false)
    (hq : ∀ h' tk e d t1, (∀ b o, s.heap.get? b = some o → h'.get? b = some o) → s.heap.get? e = none → h'.get? e = some { cls := .ref C, dict := some d, data := .fields #[.ref t1, .none, .none, .none, .bool false, .none] } → R (.ok (.ret (.ref e))) { s with heap := h', toks := tk }) :
    codeAny (model prog w) A (.call (.ref C) ⟨[v1, v2], []⟩) R s := by
  obtain ⟨nm, q, N, bs, bm, sn, sub, ab, col, dd, k0, k1, k2, k3, k5, hC, hbm⟩ := T.cls
  obtain ⟨hp, g, dr, tk, os⟩ := s
  have k : ∀ b o, hp.get? b = some o → ((hp.push (PySem.W.kdv_tup [v1, v2])).push (excO C hp.objs.size)).get? b = some o := fun b o e => Heap.get?_push_of_some _ (Heap.get?_push_of_some _ e)
  have hget : ((hp.push (PySem.W.kdv_tup [v1, v2])).push (excO C hp.objs.size)).get? (hp.objs.size + 1) = some (excO C hp.objs.size) := by heap_get
  have hold : hp.get? (hp.objs.size + 1) = none := Heap.get?_none_of_le (Nat.le_succ _)
  have hnx : K.lookup (hp.objs.size + 1) = none := by
    cases e : K.lookup (hp.objs.size + 1) with
    | none => rfl
    | some o =>
      have z : hp.get? (hp.objs.size + 1) = some o := X _ _ e
      rw [hold] at z
      cases z
  refine call_own F.excBase_ValueError (fun X => refsVE_contains X bm hbm) (X _ _ hC) (PySem.W.looks_findIn X T.iC) (fun self => PySem.W.bind_fn X self T.tF) (by rw [sizeLine_eq]; exact (by decide : 2 ≤ 16777216)) ?_
  refine err_init (s := ⟨(hp.push (PySem.W.kdv_tup [v1, v2])).push (excO C hp.objs.size), g, dr, tk, os⟩) (mg := mg) (mb := mb) T (X.keeps k) (hns.keeps k) (hmb.keeps k) hbt (hlim.keeps k) hget hnx ?_ hst hlook hnd hsc hcl hkd hco hge hncell hpar (hbind _ _ _) hcall hd1 hd2 fun h' tk' dx t1 k' hx => ?_
  · show A.depth + 1 < recursionLimit
    exact hroom
  · exact ⟨rfl, hq h' tk' (hp.objs.size + 1) dx t1 (fun b o e => k' b o (Nat.ne_of_lt (Nat.lt_succ_of_lt (Heap.lt_size e))) (k b o e)) hold hx⟩
end

section
variable {X : Cx} {C f c cc : Addr} {qual n1 n2 cn : Str} {st : Stmt} {m : Str} {j k : Nat} {p0 p1 ap cp ep mp a1 a2 a3 a4 b1 b2 b3 b4 np pos : Pos} {e1 e2 : Expr} {ta : TA}
/-- C(e1, e2): an error; H stays -/
theorem pmk_err (T : ErrTxt X.K X.prog qual n1 n2 st C f c cc) (gC : X.mg cn = some (.ref C)) (hr : Room k X.A) (hk1 : 1 ≤ k)
    (hst : defBody st = [.Expr (.Call (.Attribute (.Call (.Name "super" p0) [] [] p1) "__init__" ap) [.Constant (.str m) j mp] [] cp) ep, .Assign [.Attribute (.Name "self" a1) n1 a2] (.Name n1 a3) a4, .Assign [.Attribute (.Name "self" b1) n2 b2] (.Name n2 b3) b4])
    (hlook : ∀ y ∈ (["self", n1, n2] : List Str), (defScope st).names.lookup y = some .local) (hnd : (["self", n1, n2] : List Str).Nodup)
    (hsc : (defScope st).names.lookup ("super" : Str) = some .globalImplicit) (hcl : (defScope st).names.lookup ("__class__" : Str) = some .free) (hkd : (defScope st).kind = .function) (hco : (defScope st).isCoroutine = false) (hge : (defScope st).isGenerator = false) (hncell : ∀ y ∈ (defScope st).names, y.2 ≠ .cell)
    (hpar : ((defArgs st).posonlyargs ++ (defArgs st).args).head?.map (·.arg) = some ("self" : Str))
    (hbind : ∀ x v1 v2 doc pm ct : Value, bindArgs (PySem.W.fnX "__init__" qual (defArgs st) (defBody st) (defScope st) [("__class__", cc)] .none .none doc pm none (.ref c) ct) ⟨[x, v1, v2], []⟩ = pure [(("self" : Str), x), (n1, v1), (n2, v2)])
    (hcall : ∀ env, ∃ pl : Sem Bool, eval (.Call (.Attribute (.Call (.Name "super" p0) [] [] p1) "__init__" ap) [.Constant (.str m) j mp] [] cp) env = (do
      let ov ← attributeBase (.Call (.Name "super" p0) [] [] p1) "__init__" env (eval (.Call (.Name "super" p0) [] [] p1) env)
      standAt ap.atName
      let (f, first) ← holding [ov] (getMethod ov "__init__" pl)
      callWith cp f first (backTo cp (starEach [.Constant (.str m) j mp] env)) []))
    (hd1 : (n1 == ("__debug__" : Str)) = false) (hd2 : (n2 == ("__debug__" : Str)) = false)
    (ha : PA X [e1, e2] ta) (hg : Gl X cn) (hdc : (cn == ("__debug__" : Str)) = false)
    (he : starEach [e1, e2] X.env = (false, eval e1 X.env) :: starEach [e2] X.env) (hpl : (backTo pos (starEach [e2] X.env)).any (·.1) = false) :
    PMk X (.Call (.Name cn np) [e1, e2] [] pos) (fun σ H Q => ta σ H fun vs H1 => vs.length = 2 ∧ ∀ d, Q (.ref C) (some d) H1) := by
  intro pins s σ H Q I h
  refine wpAny_Call_Name_kw (ld_glob I hg gC ?_ hdc)
  refine PySem.W.callWith_K (h₀ := X.base) I.ok.mod.kin T.kC (thn (ha.run pos pins s σ H _ I h) fun us s1 hh => ?_) he hpl
  obtain ⟨vs, H1, I1, r1, hl, q1⟩ := hh
  refine ⟨I1.kIn, ?_⟩
  have hl2 : us.length = 2 := by rw [← r1.length]; exact hl
  obtain ⟨u1, u2, rfl⟩ : ∃ u1 u2, us = [u1, u2] := by
    match us, hl2 with
    | [u1, u2], _ => exact ⟨u1, u2, rfl⟩
  show wpAny _ _ (call (.ref C) [u1, u2]) _ _ _
  have hlim := I1.nolimit
  obtain ⟨mb, hmb, hbt⟩ := I1.mod.blt
  have hns := I1.mod.glob.keeps I1.bk
  have hmb' := hmb.keeps I1.bk
  have hKX := I1.kIn
  obtain ⟨hp, g, dr, tk, os⟩ := s1
  refine wpAny_call (err_made (mg := X.mg) (mb := mb) T hKX hns hmb' hbt hlim (by have := hr.dp; omega) hst hlook hnd hsc hcl hkd hco hge hncell hpar hbind hcall hd1 hd2 fun h' tk' e d t1 kp hne he' => ?_)
  show MkP X pins σ Q (.ref e) ⟨h', g, dr, tk', os⟩
  obtain ⟨G', g1, g2⟩ := restrict h' fun b => decide (b ≠ e)
  have gk : ∀ b, b ≠ e → G'.get? b = h'.get? b := fun b hb => g1 b (decide_eq_true hb)
  have ge : G'.get? e = none := g2 e (by simp)
  have old : ∀ b o, hp.get? b = some o → G'.get? b = some o := fun b o q => (gk b (fun z => by rw [z, hne] at q; cases q)).trans (kp b o q)
  have J : Inv X pins σ H1 ⟨G', g, dr, tk', os⟩ := I1.kept (t' := tk') old
  refine ⟨e, _, _, ⟨G', g, dr, tk', os⟩, H1, .ref C, some d, rfl, J, fun b o q => ?_, ge, he', ⟨rfl, rfl⟩, rfl, rfl, I1.hok.gone hne, rfl, I1.bare, raises_own T.exC T.tyC, q1 d⟩
  by_cases hb : b = e
  · have q' : G'.get? b = some o := q
    rw [hb, ge] at q'
    cases q'
  · exact (gk b hb).symm.trans q
end
end Wr
-- WrOps
/-! x op y of instances by the class's own def; str(x) by the class's own __str__ -/
namespace Wr
open PySem PySem.Spec PyProof.Rows L2

/-- the class at C has the operator's method at g, and no reflected one -/
structure NumOp (K : PySem.W.Frag) (op : Operator) (C g : Addr) : Prop where
  self : PySem.W.selfFirst K C = true
  at_ : PySem.W.findIn K (.ref C) (PySem.dunder op.info.2) = some (some (.ref g))
  fn : PySem.W.isFn K (.ref g) = true
  nor : PySem.W.findIn K (.ref C) (PySem.dunderR op.info.2) = some none

section
variable {prog : Program} {w : World} {M : Model} {A : Around} {E : Value → Shared → Prop} {s : Shared} {K : PySem.W.Frag} {x C C' g g' : Addr} {ox : Obj} {od : Option Obj} {op : Operator}
theorem slot_in_py {h : Heap} (X : K.In h) (N : NumOp K op C g) : PySem.W.Looks M h (numberSlotInPython (.ref C) op.info.2) true := by
  intro A Q E s k q
  unfold numberSlotInPython
  refine wpAny_bind (PySem.W.looks_findIn X N.at_ A _ E s k ?_)
  refine wpAny_bind (wpAny_pure ?_)
  refine wpAny_bind (PySem.W.looks_findIn X N.nor A _ E s k ?_)
  refine wpAny_bind (wpAny_pure ?_)
  exact wpAny_pure q
theorem fills_N {h : Heap} (X : K.In h) (N : NumOp K op C g) : PySem.W.Looks M h (fillsNumberSlot (.ref C) op.info.2) true := by
  obtain ⟨cd, hcd, hm⟩ := PySem.W.any_some N.self
  obtain ⟨rest, hm⟩ : ∃ rest, cd.mro = .ref C :: rest := by
    cases q : cd.mro with
    | nil => rw [q] at hm; cases hm
    | cons a r => rw [q] at hm; exact ⟨r, by rw [List.head?_cons] at hm; cases (beq_iff_eq.mp hm); rfl⟩
  exact PySem.W.fills_K X hcd hm N.at_
/-- both sides are instances of classes of which neither stands above the other, or of one class -/
theorem binop_two {b : Value} {Q : Value → Shared → Prop} (X : K.In s.heap) (I : PySem.W.InstAt s.heap x ox C od) (hb : PySem.W.Looks (model prog w) s.heap (typeOf b) (.ref C')) (N : NumOp K op C g) (N' : NumOp K op C' g')
    (hs : PySem.W.subIn K (.ref C') (.ref C) = some false ∨ C' = C)
    (h : wpAny (model prog w) A (call (.ref g) [.ref x, b]) (PySem.W.CmpBack Q) E s) : wpAny (model prog w) A (binaryOp op (.ref x) b) Q E s := by
  have fin : wpAny (model prog w) A (tryMethod (.ref x) (PySem.dunder op.info.2) b) (fun r s' => ∃ v, r = some v ∧ Q v s') E s := by
    unfold tryMethod
    refine wpAny_bind (PySem.W.special_fn X I N.at_ (beq_iff_eq.mp N.fn) (wpAny_mono h (fun v s' hv => ?_) fun _ _ e => e))
    cases v <;> first | exact hv.elim | exact wpAny_pure ⟨_, rfl, hv⟩
  unfold binaryOp
  refine wpAny_holding (wpAny_bind ?_)
  unfold binaryOp1
  refine wpAny_bind (I.type.here (wpAny_bind (hb.here (wpAny_bind ((fills_N X N).here ?_)))))
  by_cases hC : C' = C
  · subst hC
    simp only [beq_self_eq_true, if_true]
    refine wpAny_bind (wpAny_pure ?_)
    simp only [Bool.and_false, Bool.false_eq_true, if_false, Bool.false_and]
    refine wpAny_bind (wpAny_pure ?_)
    simp only [Bool.false_eq_true, if_false]
    refine wpAny_bind (wpAny_mono fin (fun r s' hr => ?_) fun _ _ e => e)
    obtain ⟨v, rfl, hv⟩ := hr
    exact wpAny_pure (wpAny_pure hv)
  · have hne : (Value.ref C == Value.ref C') = false := by simp [Ne.symm hC]
    simp only [hne, Bool.false_eq_true, if_false]
    refine wpAny_bind ((fills_N X N').here ?_)
    simp only [Bool.and_self, if_true]
    refine wpAny_bind (((PySem.W.looks_subIn X (hs.resolve_right hC)).here ?_))
    simp only [Bool.false_eq_true, if_false, Bool.not_false, Bool.and_true, if_true]
    refine wpAny_bind ((slot_in_py X N).here ?_)
    simp only [if_true]
    refine wpAny_bind ((slot_in_py X N').here ?_)
    simp only [Bool.not_true, Bool.false_eq_true, if_false]
    refine wpAny_bind (wpAny_mono fin (fun r s' hr => ?_) fun _ _ e => e)
    obtain ⟨v, rfl, hv⟩ := hr
    exact wpAny_pure (wpAny_pure hv)
end

theorem cmp_back {z : V} {v : Value} {s' : Shared} {Q : Value → Shared → Prop} (r : RelV z v) (h : Q v s') : PySem.W.CmpBack Q v s' := by
  cases z with
  | non => cases (show v = Value.none from r); exact h
  | bl b => cases (show v = Value.bool b from r); exact h
  | int i => obtain ⟨t, e⟩ := (show ∃ t, v = Value.int i t from r); cases e; exact h
  | str x => obtain ⟨t, e⟩ := (show ∃ t, v = Value.str x t from r); cases e; exact h
  | byt b => obtain ⟨t, e⟩ := (show ∃ t, v = Value.bytes b t from r); cases e; exact h
  | flt b => obtain ⟨t, e⟩ := (show ∃ t, v = Value.float b t from r); cases e; exact h
  | ref a => cases (show v = Value.ref a from r); exact h
  | ty n => cases (show v = Value.type n from r); exact h

section
variable {X : Cx} {CX : CXT} {k : Nat} {sp : Sp} {E : XK} {op : Operator}
/-- the classes of a family, each with the operator's method under the promise sp; none stands above another -/
structure Fam (X : Cx) (CX : CXT) (op : Operator) (k : Nat) (sp : Sp) (PC : Addr → Prop) : Prop where
  one : ∀ C, PC C → ∃ g fd ps, NumOp X.K op C g ∧ FnOk X.prog X.w X.K X.mg X.base CX k g fd ps sp ∧ Binds X.K fd ps []
  two : ∀ C C', PC C → PC C' → PySem.W.subIn X.K (.ref C') (.ref C) = some false ∨ C' = C
def rNum (PC : Addr → Prop) (sp : Sp) (E : XK) : R2 := fun x y H Q => ∃ a C dx fs b C' dy gs, x = .ref a ∧ y = .ref b ∧ H a = some (.ins C dx fs) ∧ H b = some (.ins C' dy gs) ∧ PC C ∧ PC C' ∧ sp [x, y] H Q E
theorem op_num {PC : Addr → Prop} (Fa : Fam X CX op k sp PC) (hr : Room k X.A) (hx : Passes CX X E) : OpR X (binaryOp op) (rNum PC sp E) := by
  intro pins s σ H x y v u Q I rx ry h
  obtain ⟨a, C, dx, fs, b, C', dy, gs, rfl, rfl, ha, hb, pC, pC', q⟩ := h
  cases (show v = Value.ref a from rx)
  cases (show u = Value.ref b from ry)
  obtain ⟨g, fd, ps, N, F, bd⟩ := Fa.one C pC
  obtain ⟨g', fd', ps', N', _, _⟩ := Fa.one C' pC'
  obtain ⟨mA, O, _⟩ := ins_get I.hok ha
  obtain ⟨oa, J, _⟩ := O.look
  obtain ⟨mB, O', _⟩ := ins_get I.hok hb
  obtain ⟨ob, J', _⟩ := O'.look
  refine binop_two I.kIn J J'.type N N' (Fa.two C C' pC pC') ?_
  refine wpAny_mono (run_fn (us := [.ref a, .ref b]) (vs := [.ref a, .ref b]) F hr bd .nil hx I (.cons rfl (.cons rfl .nil)) q) (fun w s' z => ?_) fun _ _ x => x
  obtain ⟨z', H', I', rz, qz⟩ := z
  exact cmp_back rz ⟨z', H', I', rz, qz⟩

/-- str(x), x an instance of the class at C with its own __str__ -/
def rStrOwn (C : Addr) (sp : Sp) (E : XK) : List V → Hp → VK → Prop := fun xs H Q => ∃ a dx fs, xs = [V.ref a] ∧ H a = some (.ins C dx fs) ∧ sp [.ref a] H (fun v H' => ∃ z, v = .str z ∧ Q v H') E
theorem call_strOwn {C g : Addr} {fd : FuncData} {ps : List Str} (hs : PySem.W.findIn X.K (.ref C) "__str__" = some (some (.ref g))) (hf : PySem.W.isFn X.K (.ref g) = true) (F : FnOk X.prog X.w X.K X.mg X.base CX0 k g fd ps sp) (hb : Binds X.K fd ps [])
    (hr : Room (k + 2) X.A) : CallR X (.type "str") (rStrOwn C sp E0) := by
  intro pins s σ H xs us Q I r h
  obtain ⟨a, dx, fs, rfl, ha, q⟩ := h
  obtain ⟨u, rfl, ru⟩ := vals1 r
  cases (show u = Value.ref a from ru)
  obtain ⟨mA, O, _⟩ := ins_get I.hok ha
  obtain ⟨oa, J, _⟩ := O.look
  have hr1 : Room (k + 1) X.A.in1 := hr.in1
  have hr2 : Room k X.A.in1.in1 := hr1.in1
  refine PySem.W.kso_call hr2.units0 I.kIn J hs hf ?_
  have hl : ([Value.ref a] ++ ([] : List Value)).length = ps.length := by rw [← F.len _ _ _ _ q] <;> rfl
  refine wpAny_call (codeAny_mono (F.run X.A.in1.in1 X.stack s H ⟨[.ref a], []⟩ [.ref a] [.ref a] _ E0 hr2 I.env0.in1.in1 (hb s [.ref a] I.kIn hl) (.cons rfl .nil) q) fun r s' hq => ?_)
  cases r with
  | error e => exact False.elim hq
  | ok fl =>
    cases fl with
    | ret u =>
      obtain ⟨v, H', I', rv, z, ez, qz⟩ := I.after hq
      subst ez
      obtain ⟨t, rfl⟩ := (show ∃ t, u = Value.str z t from rv)
      exact ⟨.str z, H', I', ⟨t, rfl⟩, qz⟩
    | next => exact False.elim hq
    | brk => exact False.elim hq
    | cont => exact False.elim hq
end
end Wr
-- WrGen
/-! A generator method whose body yields a range, walked while its consumer makes things of its own -/
namespace Wr
open PySem L2 PySem.Spec PyProof.Rows GenW
open Sem (wp)

theorem ldl {M : Model} {A : Around} {E : Value → Shared → Prop} {s : Shared} {env : Env} {m : Str → Option Value} {x : Str} {pos : Pos} {v : Value} {Q : Value → Shared → Prop} (hn : s.heap.Ns env.locals m) (hv : m x = some v) (h : Q v s)
    (hk : env.scope.kind = .function) (hl : env.scope.names.lookup x = some .local) (hd : (x == ("__debug__" : Str)) = false := by decide) : wpAny M A (eval (.Name x pos) env) Q E s :=
  wpAny_Name (wpAny_loadName_local hk hl hn hv h) hd

/-- a range iterator, by its record -/
def RI (o : Obj) : Prop := o.cls = .type "range_iterator" ∧ ∃ vs, o.data = .fields vs
/-- all stays but the frame at C and the range iterators made behind B -/
def SinceG (B : Nat) (C : Addr) (s₀ s : Shared) : Prop :=
  ∃ h' tk, s = { s₀ with heap := h', toks := tk } ∧ ∀ b o, b ≠ C → (b < B ∨ ¬ RI o) → s₀.heap.get? b = some o → h'.get? b = some o
theorem SinceG.refl {B : Nat} {C : Addr} (s : Shared) : SinceG B C s s := ⟨s.heap, s.toks, rfl, fun _ _ _ _ e => e⟩
theorem SinceG.step {B : Nat} {C : Addr} {s₀ s : Shared} (x : SinceG B C s₀ s) {h' : Heap} {tk : Nat} (hk : ∀ b o, b ≠ C → (b < B ∨ ¬ RI o) → s.heap.get? b = some o → h'.get? b = some o) :
    SinceG B C s₀ { s with heap := h', toks := tk } := by
  obtain ⟨h₁, tk₁, rfl, hk₁⟩ := x
  exact ⟨h', tk, rfl, fun b o hC hw e => hk b o hC hw (hk₁ b o hC hw e)⟩
/-- what the consumer keeps while the generator sleeps -/
def KeptG (B : Nat) (s s' : Shared) : Prop := ∀ b o, (b < B ∨ RI o) → s.heap.get? b = some o → s'.heap.get? b = some o
def YG (B : Nat) (C : Addr) (lo : Int) (n : Nat) : Protocol := fun m s₀ v s kap =>
  (∃ t, v = .int (lo + ((n - 1 - m : Nat) : Int)) t) ∧ SinceG B C s₀ s ∧ ∀ s'', KeptG B s s'' → kap (.send .none) s''
def RG (B : Nat) (C : Addr) : GenEnd := fun m s₀ r s₁ => ((r = .ok (.ret .none) ∨ r = .ok .next) ∧ (m = 0 ∧ SinceG B C s₀ s₁)) ∨ ∃ e, r = .error e ∧ False

section
variable {prog : Program} {w : World} {A : Around} {env : Env} {B : Nat} {lo : Int} {n : Nat}
/-- the loop -/
theorem seg_turns {x : Str} {px p6 yp ep : Pos} {I : Addr} {kk : Result → Sem PySem.Fin} {c0 : Code} {fs0 : List Frame} {l kp : List Value} {p : Pos}
    (hh : (A.over c0 fs0).handled = none) (hkd : env.scope.kind = .function) (hco : env.scope.isCoroutine = false) (hx : env.scope.names.lookup x = some .local) (hxd : (x == ("__debug__" : Str)) = false) (hCB : env.locals < B) (hI : B ≤ I)
    (hsp : splitAtGen fs0 = none) (hgd : fs0.any Frame.guarded = false)
    (hend : ∀ s₀ s, SinceG B env.locals s₀ s → Seg (model prog w) A (RG B env.locals) (YG B env.locals lo n) 0 s₀ c0 (kk (.ok .next)) fs0 s) :
    ∀ (k j : Nat) (s₀ s : Shared) (m : Str → Option Value), n - j = k → j ≤ n → IsRangeIter s.heap I (lo + (j : Nat) * 1) ((n : Int) - (j : Nat)) 1 → s.heap.Ns env.locals m → SinceG B env.locals s₀ s →
      Seg (model prog w) A (RG B env.locals) (YG B env.locals lo n) (n - j) s₀ (.forLoop (.Name x px) (.ref I) [.Expr (.Yield (some (.Name x p6)) yp) ep] [] env)
        ((model prog w).den (.forLoop (.Name x px) (.ref I) [.Expr (.Yield (some (.Name x p6)) yp) ep] [] env)) (.ret kk none false l c0 p kp :: fs0) s := by
  have hov : A.over (.forLoop (.Name x px) (.ref I) [.Expr (.Yield (some (.Name x p6)) yp) ep] [] env) (.ret kk none false l c0 p kp :: fs0) = A.over c0 fs0 := over_loop rfl rfl
  have hob : A.over (.block [] env) (.ret kk none false l c0 p kp :: fs0) = A.over c0 fs0 := over_loop rfl rfl
  have W := Walks.range (prog := prog) (w := w) hh I lo 1 n
  have hki : env.kindOf x = some .local := hx
  have hp : (env.scope.kind == .class || (env.scope.kind == .module && env.locals != env.globals)) = false := by rw [hkd]; rfl
  intro k
  induction k with
  | zero =>
    intro j s₀ s m hk hj hst hn hsince
    have hjn : j = n := by omega
    subst hjn
    show Seg _ A _ _ _ s₀ _ ((forTurn (.Name x px) (.ref I) [.Expr (.Yield (some (.Name x p6)) yp) ep] [] env).onRaise (fun x => do noteFrame x env; theTreesLotGoes x)) _ s
    unfold forTurn
    rw [Sem.onRaise_eq_wrap]
    refine seg_bind_wrap (wpAny_standAt ?_)
    refine seg_bind_wrap (wpAny_onRaise ?_)
    rw [hov]
    refine W.done s _ _ hst fun h' tk hk' => ?_
    have hs1 : SinceG B env.locals s₀ { s with heap := h', toks := tk } := hsince.step fun b o hbC hb e => hk' b o (by
      intro z
      have z : b = I := by simpa using z
      subst z
      have e' : s.heap.get? b = some _ := hst
      rw [e'] at e
      cases e
      rcases hb with hb | hb
      · exact absurd (Nat.lt_of_lt_of_le hb hI) (Nat.lt_irrefl _)
      · exact hb ⟨rfl, _, rfl⟩) e
    rw [Nat.sub_self]
    refine seg_again rfl ?_
    show Seg _ A _ _ 0 s₀ _ ((execs [] env).onRaise (fun x => do noteFrame x env; theTreesLotGoes x) >>= _) _ _
    rw [Sem.onRaise_eq_wrap, Sem.bind_eq_wrap', Sem.wrap_wrap]
    refine seg_execs_nil ?_
    exact seg_leaf (.ok .next) (hend _ _ hs1)
  | succ k ih =>
    intro j s₀ s m hk hj hst hn hsince
    have hlt : j < n := by omega
    have hnj : n - j = (n - (j + 1)) + 1 := by omega
    show Seg _ A _ _ _ s₀ _ ((forTurn (.Name x px) (.ref I) [.Expr (.Yield (some (.Name x p6)) yp) ep] [] env).onRaise (fun x => do noteFrame x env; theTreesLotGoes x)) _ s
    unfold forTurn
    rw [Sem.onRaise_eq_wrap]
    refine seg_bind_wrap (wpAny_standAt ?_)
    refine seg_bind_wrap (wpAny_onRaise ?_)
    rw [hov]
    refine W.item j s _ _ hlt hst fun v h₁ tk₁ hv hst₁ hk₁ => ?_
    obtain ⟨t, rfl⟩ := hv
    have IC : I ≠ env.locals := fun z => by rw [z] at hI; exact absurd (Nat.lt_of_lt_of_le hCB hI) (Nat.lt_irrefl _)
    have notI : ∀ {b o}, (b < B ∨ ¬ RI o) → s.heap.get? b = some o → b ∉ [I] := fun {b o} hb e z => by
      have z : b = I := by simpa using z
      subst z
      have e' : s.heap.get? b = some _ := hst
      rw [e'] at e
      cases e
      rcases hb with hb | hb
      · exact absurd (Nat.lt_of_lt_of_le hb hI) (Nat.lt_irrefl _)
      · exact hb ⟨rfl, _, rfl⟩
    refine seg_bind_wrap (wpAny_of_eq (rfl : letOwnedTupleGo (.Name x px) (.ref I) _ = pure ()) ?_)
    refine seg_bind_wrap (wpAny_assign_Name (wpAny_storeName_local hki (hn.at' fun o e => hk₁ _ o (by simpa using Ne.symm IC) e) (fun h₂ hn₂ hs₂ => ?_) hp))
    have hst₂ : IsRangeIter h₂ I (lo + ((j + 1 : Nat) : Int) * 1) ((n : Int) - ((j + 1 : Nat) : Int)) 1 := hs₂.extBut _ _ IC hst₁
    have hsince₂ : ∀ tk, SinceG B env.locals s₀ { s with heap := h₂, toks := tk } := fun tk => hsince.step fun b o hbC hb e => hs₂.extBut b o hbC (hk₁ b o (notI hb e) e)
    rw [Sem.bind_eq_wrap', Sem.wrap_wrap]
    refine seg_execs_cons ?_
    rw [hnj]
    refine seg_Expr_Yield (by show (splitAtGen fs0).map _ = none; rw [hsp]; rfl) rfl (by show (false || fs0.any Frame.guarded) = false; rw [hgd]; rfl) ?_ hco (by simp [interactive, hkd])
    refine ldl (v := .int (lo + ((j : Nat) : Int) * 1) t) hn₂ (by simp) ?_ hkd hx hxd
    intro kap hkap
    refine ⟨⟨t, ?_⟩, hsince₂ _, fun s'' hal => hkap .none s'' ?_⟩
    · have e : ((n - 1 - (n - (j + 1)) : Nat) : Int) = (j : Int) := by omega
      rw [e]
      congr 1
      omega
    · refine seg_execs_nil ?_
      show Seg _ A _ _ (n - (j + 1)) s'' _ (.pure (.again _)) _ s''
      refine seg_again rfl (ih (j + 1) s'' s'' _ (by omega) hlt (hal I _ (.inr ⟨rfl, _, rfl⟩) hst₂) (hn₂.at' fun o e => hal _ o (.inl hCB) e) (SinceG.refl _))

/-- what stands in the heap as the generator's code begins -/
structure GenAt0 (K : PySem.W.Frag) (mg mb : Str → Option Value) (env : Env) (sf f1 f2 : Str) (a dx C : Addr) (lo hi : Int) (h : Heap) : Prop where
  kin : K.In h
  glob : h.Ns env.globals mg
  blt : h.Ns env.builtins mb
  frame : ∃ m, h.Ns env.locals m ∧ m sf = some (.ref a)
  obj : ∃ mA t t', ObjM h a dx C mA ∧ mA f1 = some (.int lo t) ∧ mA f2 = some (.int hi t')
theorem GenAt0.keeps {K : PySem.W.Frag} {mg mb : Str → Option Value} {env : Env} {sf f1 f2 : Str} {a dx C : Addr} {lo hi : Int} {h h' : Heap} (g : GenAt0 K mg mb env sf f1 f2 a dx C lo hi h) (k : ∀ b o, h.get? b = some o → h'.get? b = some o) :
    GenAt0 K mg mb env sf f1 f2 a dx C lo hi h' := by
  obtain ⟨g1, g2, g3, ⟨m, g4, g5⟩, mA, t, t', g6, g7, g8⟩ := g
  exact ⟨g1.keeps k, g2.keeps k, g3.keeps k, ⟨m, g4.keeps k, g5⟩, mA, t, t', ⟨k _ _ g6.obj, let ⟨o, es, ep, h1, h2⟩ := g6.ns; ⟨o, es, ep, k _ _ h1, h2⟩, g6.ne⟩, g7, g8⟩

theorem seg_body {K : PySem.W.Frag} {mg mb : Str → Option Value} {x sf f1 f2 : Str} {px rp p1 p2 p3 p4 p5 pc pk p6 yp ep pos : Pos} {kj : Nat} {a dx C : Addr} {hi : Int} {s : Shared}
    (hh : A.handled = none) (hkd : env.scope.kind = .function) (hco : env.scope.isCoroutine = false) (hx : env.scope.names.lookup x = some .local) (hxd : (x == ("__debug__" : Str)) = false)
    (hsf : env.scope.names.lookup sf = some .local) (hsd : (sf == ("__debug__" : Str)) = false) (hr : env.scope.names.lookup ("range" : Str) = some .globalImplicit) (hmg : mg "range" = none) (hmb : mb "range" = some (.type "range"))
    (c : Cls K C) (n1 : NoAttr K C f1) (n2 : NoAttr K C f2) (hCB : env.locals < B) (hB : B ≤ s.heap.objs.size) (g : GenAt0 K mg mb env sf f1 f2 a dx C lo hi s.heap)
    (hb1 : ∀ (A : Around) (E : Value → Shared → Prop) (Q : Value → Shared → Prop) (s : Shared) (p : Pos), wpAny (model prog w) A (eval (.Name sf p) env) (fun o s₁ => wpAny (model prog w) A (getAttr o f1 true) Q E s₁) E s → wpAny (model prog w) A (eval (.Attribute (.Name sf p) f1 p2) env) Q E s)
    (hb2 : ∀ (A : Around) (E : Value → Shared → Prop) (Q : Value → Shared → Prop) (s : Shared) (p : Pos), wpAny (model prog w) A (eval (.Name sf p) env) (fun o s₁ => wpAny (model prog w) A (getAttr o f2 true) Q E s₁) E s → wpAny (model prog w) A (eval (.Attribute (.Name sf p) f2 p4) env) Q E s)
    (q1 : -(2 ^ 62) ≤ lo) (q2 : lo < 2 ^ 62) (q3 : -(2 ^ 62) ≤ hi) (q4 : hi + 1 < 2 ^ 62) (hn : n = (hi + 1 - lo).toNat) :
    Seg (model prog w) A (RG B env.locals) (YG B env.locals lo n) n s
      (.func [.For (.Name x px) (.Call (.Name "range" rp) [.Attribute (.Name sf p1) f1 p2, .BinOp (.Attribute (.Name sf p3) f2 p4) .Add (.Constant (.int 1) kj p5) pk] [] pc) [.Expr (.Yield (some (.Name x p6)) yp) ep] [] pos] env)
      ((model prog w).den (.func [.For (.Name x px) (.Call (.Name "range" rp) [.Attribute (.Name sf p1) f1 p2, .BinOp (.Attribute (.Name sf p3) f2 p4) .Add (.Constant (.int 1) kj p5) pk] [] pc) [.Expr (.Yield (some (.Name x p6)) yp) ep] [] pos] env)) [] s := by
  refine seg_func ?_
  refine seg_execs_cons ?_
  rw [arm_exec_For]
  refine seg_bind_wrap (wpAny_standAt ?_)
  refine seg_bind_wrap ?_
  rw [over_func]
  obtain ⟨kin, glob, blt, ⟨m, hm, hms⟩, mA, t, t', O, l1, l2⟩ := g
  refine Call_ (Calls.Name_function_global hkd hr (Calls.loadGlobal_builtin glob hmg blt hmb ?_) (by decide))
  refine PyProof.Rows.callWith_type1 ?_ rfl rfl
  show wpAny _ _ (spliced ((false, _) :: (false, _) :: [])) _ _ s
  refine Calls.spliced_cons (hb1 _ _ _ _ _ (ldl hm hms ?_ hkd hsf hsd))
  refine get_map kin O (c.get f1) c.hd n1 l1 rfl ?_
  refine Calls.spliced_cons (wpAny_BinOp (hb2 _ _ _ _ _ (ldl hm hms ?_ hkd hsf hsd)))
  refine get_map kin O (c.get f2) c.hd n2 l2 rfl ?_
  refine wpAny_Constant_int ?_
  refine add_int (Calls.spliced_nil ?_)
  refine call_range_2 ?_
  refine seg_bind_wrap (wpAny_of_eq (rfl : foldedSetIterable _ env _ = pure _) ?_)
  refine seg_bind_wrap (wpAny_standAt ?_)
  refine seg_bind_wrap (wpAny_holding ?_)
  refine wpAny_pyIter_range (IsRange.new ..) (small_one q1 q2 (by omega) q4) ?_
  refine seg_call fun p => ?_
  have hsz : B ≤ (s.heap.push { cls := .type "range", data := .fields #[.int lo t, .int (hi + 1) (s.toks + 1 + 1 + 1), .int 1 (s.toks + 1 + 1 + 1 + 1)] }).objs.size := by
    rw [Heap.size_push]; omega
  refine seg_turns (prog := prog) (w := w) (A := A) (env := env) (B := B) (lo := lo) (n := n) (x := x) (px := px) (p6 := p6) (yp := yp) (ep := ep) (fs0 := [])
    (by rw [over_func]; exact hh) hkd hco hx hxd hCB hsz rfl rfl (fun s₀ s' hs => ?_) n 0 s _ m (Nat.sub_zero _) (Nat.zero_le _) ?_ ?_ ?_
  · refine seg_execs_nil (env := env) ?_
    exact seg_end (.ok (.ret .none)) (.inl ⟨.inl rfl, rfl, hs⟩)
  · have e1 : lo + ((0 : Nat) : Int) * 1 = lo := by simp
    have e2 : (n : Int) - ((0 : Nat) : Int) = Builtin.Range.rangeSize lo (hi + 1) 1 := by rw [rangeSize_one]; split <;> omega
    rw [e1, e2]
    exact Heap.get?_push_size _ rfl
  · exact hm.keeps fun b o e => Heap.get?_push_of_some _ (Heap.get?_push_of_some _ e)
  · exact ⟨_, _, rfl, fun b o _ _ e => Heap.get?_push_of_some _ (Heap.get?_push_of_some _ e)⟩

/-- the generator at a (its number g) has given j of its n numbers -/
def GenSt (prog : Program) (w : World) (A : Around) (B : Nat) (C : Addr) (lo : Int) (n : Nat) (a : Addr) (g : Nat) (j : Nat) (s : Shared) : Prop :=
  s.heap.IsGen a g ∧ s.heap.NoLimit ∧ ∃ gs, s.gens[g]? = some gs ∧ ∀ s'', KeptG B s s'' → gs.Goes (model prog w) A.in1 (RG B C) (YG B C lo n) (n - j) (.send .none) s''
/-- the consumer's own step -/
theorem GenSt.frame {C a : Addr} {g j : Nat} {s : Shared} {h' : Heap} {tk : Nat} (st : GenSt prog w A B C lo n a g j s) (haB : a < B) (hcs : cStatics < B) (hk : KeptG B s { s with heap := h', toks := tk }) :
    GenSt prog w A B C lo n a g j { s with heap := h', toks := tk } := by
  obtain ⟨⟨o, nm, qn, ho, r⟩, ⟨mc, hns, hnn⟩, gs, hgs, hgo⟩ := st
  exact ⟨⟨o, nm, qn, hk a o (.inl haB) ho, r⟩, ⟨mc, hns.at' fun o e => hk cStatics o (.inl hcs) e, hnn⟩, gs, hgs, fun s'' hal => hgo s'' fun b o hb e => hal b o hb (hk b o hb e)⟩
theorem gen_item {C a : Addr} {g j : Nat} {s : Shared} {E : Value → Shared → Prop} {Q : Option Value → Shared → Prop} (hh : A.handled = none) (hroom : A.depth < recursionLimit) (haB : a < B) (haC : a ≠ C) (hcs : cStatics < B) (hcC : cStatics ≠ C)
    (hb : AllBare s.gens) (st : GenSt prog w A B C lo n a g j s) (hj : j < n)
    (hQ : ∀ t s', GenSt prog w A B C lo n a g (j + 1) s' → AllBare s'.gens → s'.os = s.os → s'.drawn = s.drawn → (∀ b o, b ≠ C → (b < B ∨ ¬ RI o) → s.heap.get? b = some o → s'.heap.get? b = some o) → Q (some (.int (lo + (j : Int)) t)) s') :
    wpAny (model prog w) A (pyNext (.ref a)) Q E s := by
  obtain ⟨hg, hl, gs, hgs, hgo⟩ := st
  obtain ⟨m, hm⟩ : ∃ m, n - j = m + 1 := ⟨n - j - 1, by omega⟩
  rw [hm] at hgo
  refine next_genG (F := fun m s₀ s₁ => m = 0 ∧ SinceG B C s₀ s₁) (Er := fun _ _ => False) hh hl hroom hg hgs (hgo (s.setGen g .running) fun _ _ _ e => e) (fun v s₁ gs' hbare hv => ?_) (fun s₁ hp h' hk => ?_) fun e s₁ he => he.elim
  · obtain ⟨⟨t, rfl⟩, ⟨h₁, tk₁, rfl, hk₁⟩, hkap⟩ := hv
    have e : n - 1 - (m + 1 - 1) = j := by omega
    rw [e]
    refine hQ t _ ⟨let ⟨o, nm, qn, ho, r⟩ := hg; ⟨o, nm, qn, hk₁ a o haC (.inl haB) ho, r⟩, (let ⟨mc, hns, hnn⟩ := hl; ⟨mc, hns.at' fun o e => hk₁ cStatics o hcC (.inl hcs) e, hnn⟩), gs', setGen_self (gs := .running) (setGen_self hgs), fun s'' hal => ?_⟩ ?_ rfl rfl (fun b o hbC hb e => hk₁ b o hbC hb e)
    · have e2 : n - (j + 1) = m := by omega
      rw [e2]
      exact hkap s'' hal
    · exact allBare_setGen (s := { s.setGen g .running with heap := h₁, toks := tk₁ }) (allBare_setGen hb rfl) hbare
  · exact absurd hp.1 (Nat.succ_ne_zero m)
theorem gen_done {C a : Addr} {g : Nat} {s : Shared} {E : Value → Shared → Prop} {Q : Option Value → Shared → Prop} (hh : A.handled = none) (hroom : A.depth < recursionLimit) (haB : a < B) (haC : a ≠ C)
    (hb : AllBare s.gens) (st : GenSt prog w A B C lo n a g n s)
    (hQ : ∀ s', AllBare s'.gens → s'.os = s.os → s'.drawn = s.drawn → (∀ b o, b ≠ C → (b < B ∨ ¬ RI o) → s.heap.get? b = some o → s'.heap.get? b = some o) → Q none s') :
    wpAny (model prog w) A (pyNext (.ref a)) Q E s := by
  obtain ⟨hg, hl, gs, hgs, hgo⟩ := st
  rw [Nat.sub_self] at hgo
  refine next_genG (F := fun m s₀ s₁ => m = 0 ∧ SinceG B C s₀ s₁) (Er := fun _ _ => False) hh hl hroom hg hgs (hgo (s.setGen g .running) fun _ _ _ e => e) (fun v s₁ gs' hbare hv => ?_) (fun s₁ hp h' hk => ?_) fun e s₁ he => he.elim
  · obtain ⟨_, _, hkap⟩ := hv
    exact False.elim (hkap s₁ fun _ _ _ e => e)
  · obtain ⟨_, h₁, tk₁, rfl, hk₁⟩ := hp
    exact hQ _ (allBare_setGen (s := { s.setGen g .running with heap := h₁, toks := tk₁ }) (allBare_setGen hb rfl) rfl) rfl rfl fun b o hbC hb e => hk _ _ (hk₁ b o hbC hb e)
end

abbrev sWholes : Stmt := mth 36 18
theorem scWholes : GScope ["self", "number"] ["self"] (defScope sWholes) := ⟨rfl, rfl, rfl, by decide +kernel, rfl, by decide +kernel, by decide +kernel⟩
section
variable {X : Cx} {pins : List (Addr × Obj)} {σ : L2.St} {H : Hp} {s : Shared} {a C dx f : Addr} {fs : List (Str × V)} {fd : FuncData} {lo hi : Int} {E : Value → Shared → Prop}
/-- a.wholes() is called: the generator has not begun -/
theorem gen_made (F : L2.Fun X.K "wholes" "Span.wholes" sWholes f fd) (hb : Binds X.K fd ["self"] []) (hr : Room 1 X.A) (I : Inv X pins σ H s) (ha : H a = some (.ins C dx fs)) (c : Cls X.K C) (n1 : NoAttr X.K C "low") (n2 : NoAttr X.K C "high")
    (l1 : fs.lookup ("low" : Str) = some (.int lo)) (l2 : fs.lookup ("high" : Str) = some (.int hi)) (hmg : X.mg "range" = none) (q1 : -(2 ^ 62) ≤ lo) (q2 : lo < 2 ^ 62) (q3 : -(2 ^ 62) ≤ hi) (q4 : hi + 1 < 2 ^ 62) :
    wpAny (model X.prog X.w) X.A (call (.ref f) [.ref a]) (fun u s' => ∃ (ga Cc : Addr) (g : Nat), u = .ref ga ∧ s.heap.objs.size ≤ Cc ∧ s.heap.objs.size ≤ ga ∧ ga ≠ Cc ∧ ga < s'.heap.objs.size ∧ Cc < s'.heap.objs.size ∧
      GenSt X.prog X.w X.A s'.heap.objs.size Cc lo (hi + 1 - lo).toNat ga g 0 s' ∧ s'.os = s.os ∧ AllBare s'.gens ∧ ∀ b o, s.heap.get? b = some o → s'.heap.get? b = some o) E s := by
  obtain ⟨oc, od, kV, doc, pm, an, cdv, ct, osl, rfl, lk, hcd⟩ := F.ex
  have KX := I.kIn
  have lim := I.nolimit
  refine wpAny_call (codeAny_call_generator hr.depth (KX _ _ lk) rfl scWholes.co scWholes.gen rfl (PySem.W.codeRec_of KX hcd) (hb s [.ref a] KX rfl _ _ _ _ ?_))
  refine wpAny_newFunctionEnv_cells scWholes.kind (fun y hy => ?_) fun env he s1 x => ?_
  · have hy' : y.1 = ("self" : Str) := by
      have := (List.of_mem_zip (show (y.1, y.2) ∈ (["self"] : List Str).zip [Value.ref a] from hy)).1
      simpa using this
    rw [hy']
    exact .inl (by first | rfl | decide +kernel)
  · subst he
    have lim1 : s1.heap.NoLimit := lim.keeps x.toInCall.keep
    refine ⟨lim1, ?_⟩
    obtain ⟨h1, tk, es1, hk1⟩ := x.done
    have lt1 : s.heap.objs.size < s1.heap.objs.size := x.toInCall.ns.lt
    have kp1 : ∀ b o, s.heap.get? b = some o → s1.heap.get? b = some o := x.toInCall.keep
    have kpush : ∀ (o : Obj) b ob, s1.heap.get? b = some ob → (s1.heap.push o).get? b = some ob := fun o b ob e => Heap.get?_push_of_some _ e
    obtain ⟨mA, O, rO, _⟩ := ins_get I.hok ha
    obtain ⟨u1, hu1, t1, rfl⟩ : ∃ u, mA "low" = some u ∧ ∃ t, u = Value.int lo t := by
      obtain ⟨u, hu, ru⟩ := RelO.some_of (v := V.int lo) (o := mA "low") (by rw [← l1]; exact rO _)
      exact ⟨u, hu, ru⟩
    obtain ⟨u2, hu2, t2, rfl⟩ : ∃ u, mA "high" = some u ∧ ∃ t, u = Value.int hi t := by
      obtain ⟨u, hu, ru⟩ := RelO.some_of (v := V.int hi) (o := mA "high") (by rw [← l2]; exact rO _)
      exact ⟨u, hu, ru⟩
    obtain ⟨mb, hmb, hbt⟩ := I.mod.blt
    have hgl := I.mod.glob.keeps I.bk
    have hbl := hmb.keeps I.bk
    refine ⟨s1.heap.objs.size, s.heap.objs.size, s1.gens.size, rfl, Nat.le_refl _, Nat.le_of_lt lt1, Nat.ne_of_gt lt1, ?_, ?_, ?_, ?_, ?_, ?_⟩
    · show _ < (s1.heap.push _).objs.size
      rw [Heap.size_push]; exact Nat.lt_succ_self _
    · show _ < (s1.heap.push _).objs.size
      rw [Heap.size_push]; exact Nat.lt_succ_of_lt lt1
    · refine ⟨⟨_, _, _, Heap.get?_push_size _ rfl, rfl, rfl, rfl⟩, lim1.keeps (kpush _), _, Array.getElem?_push_size .., fun s'' hal => ⟨rfl, ?_⟩⟩
      have kall : ∀ b o, s1.heap.get? b = some o → s''.heap.get? b = some o := fun b o e => hal b o (.inl (by
        show b < (s1.heap.push _).objs.size
        rw [Heap.size_push]; exact Nat.lt_succ_of_lt (Heap.lt_size e))) (kpush _ b o e)
      refine seg_body (prog := X.prog) (w := X.w) (A := X.A.in1) (env := envOfC "Span.wholes" (defScope sWholes) s.heap.objs.size f cdv) (K := X.K) (mg := X.mg) (mb := mb) (a := a) (dx := dx) (C := C) (hi := hi) (sf := "self") (f1 := "low") (f2 := "high") (x := "number") (show X.A.in1.handled = none from hr.hd) rfl rfl rfl (by decide) rfl (by decide) rfl hmg ((hbt "range" (by decide)).trans boot_range) c n1 n2 ?_ ?_ ⟨KX.keeps fun b o e => kall b o (kp1 b o e), hgl.keeps fun b o e => kall b o (kp1 b o e), hbl.keeps fun b o e => kall b o (kp1 b o e), ⟨_, x.toInCall.ns.keeps kall, ?_⟩, mA, t1, t2, ⟨kall _ _ (kp1 _ _ O.obj), let ⟨o, es, ep, e1, e2⟩ := O.ns; ⟨o, es, ep, kall _ _ (kp1 _ _ e1), e2⟩, O.ne⟩, hu1, hu2⟩
        (fun A E Q s p h => attr_of rfl h) (fun A E Q s p h => attr_of rfl h) q1 q2 q3 q4 rfl
      · show s.heap.objs.size < (s1.heap.push _).objs.size
        rw [Heap.size_push]; exact Nat.lt_succ_of_lt lt1
      · show (s1.heap.push _).objs.size ≤ s''.heap.objs.size
        rw [Heap.size_push]
        exact Heap.lt_size (hal s1.heap.objs.size _ (.inl (by
          show _ < (s1.heap.push _).objs.size
          rw [Heap.size_push]; exact Nat.lt_succ_self _)) (Heap.get?_push_size _ rfl))
      · exact bindL_get (P := ["self"]) (vs := [.ref a]) (i := 0) (by decide +kernel) rfl rfl (by first | rfl | decide +kernel)
    · show s1.os = s.os
      rw [es1]
    · exact AllBare.push (by rw [es1]; exact I.bare) rfl
    · exact fun b o e => kpush _ b o (kp1 b o e)
end
end Wr
-- WrTally
/-! {(x, x): 1 for x in o.wholes()} -/
namespace Wr
open PySem L2 PySem.Spec PyProof.Rows GenW
section
variable {X : Cx} {pins : List (Addr × Obj)} {σ : L2.St} {H : Hp} {s s' : Shared}
/-- the generator has turned: its own records are none of ours -/
theorem inv_gen {B : Nat} {C : Addr} (I : Inv X pins σ H s) (hf : FpOk X pins H C) (hB : ∀ b, B ≤ b → FpOk X pins H b ∨ ∀ o, s.heap.get? b = some o → ¬ RI o)
    (k : ∀ b o, b ≠ C → (b < B ∨ ¬ RI o) → s.heap.get? b = some o → s'.heap.get? b = some o) (os : s'.os = s.os) (hb : AllBare s'.gens) : Inv X pins σ H s' := by
  obtain ⟨h', g', d', t', o'⟩ := s'
  have os : o' = s.os := os
  subst os
  classical
  let ch : List Addr := C :: (List.range s.heap.objs.size).filter fun b => decide (B ≤ b ∧ ∃ o, s.heap.get? b = some o ∧ RI o)
  have inch : ∀ b ∈ ch, FpOk X pins H b := fun b hb => by
    rcases List.mem_cons.mp hb with e | hb
    · rw [e]; exact hf
    · obtain ⟨_, hb⟩ := List.mem_filter.mp hb
      obtain ⟨h1, o, h2, h3⟩ := of_decide_eq_true hb
      rcases hB b h1 with z | z
      · exact z
      · exact absurd h3 (z o h2)
  have kk : ∀ b o, b ∉ ch → s.heap.get? b = some o → h'.get? b = some o := fun b o hb e => by
    refine k b o (fun z => hb (by rw [z]; exact List.mem_cons_self ..)) ?_ e
    by_cases q1 : B ≤ b
    · by_cases q2 : RI o
      · exact absurd (List.mem_cons_of_mem _ (List.mem_filter.mpr ⟨List.mem_range.mpr (Heap.lt_size e), decide_eq_true ⟨q1, o, e, q2⟩⟩)) hb
      · exact .inr q2
    · exact .inl (Nat.lt_of_not_le q1)
  have nit : ∀ b u, H b = some u → b ∉ ch := fun b u e z => by
    have q := (inch b z).1
    rw [q] at e; cases e
  refine I.step (g' := g') (d' := d') (ch := ch) (fun b hb => ⟨(inch b hb).2.2.2.1, (inch b hb).2.1, (inch b hb).2.2.2.2.1, (inch b hb).2.2.2.2.2⟩) (fun b o _ _ hc e _ => kk b o hc e) (fun b o _ _ hc e _ => ⟨o.slots, kk b o hc e⟩)
    (fun _ _ _ _ n => n) (fun b o hc e => ⟨o, kk b o hc e⟩) (fun _ _ e => e) (fun _ _ _ e => e) (fun b ps e => ⟨#[], by rw [e]; simp⟩) (fun m hm => ?_) (fun b u e => ?_) hb
  · obtain ⟨o, es, ep, ho, r⟩ := hm
    exact ⟨o, es, ep, kk _ o (fun z => (inch _ z).2.1 rfl) ho, r⟩
  · refine (I.hok b u e).stay (fun c v hc q => kk c v ?_ q) (fun _ q => q) fun _ _ q => q
    rcases hc with z | z
    · rw [z]; exact nit b u e
    · exact nit c _ z

def tal (lo : Int) (j : Nat) : List (List Key × V) := (List.range j).map fun (i : Nat) => ([.inl (lo + (i : Int)), .inl (lo + (i : Int))], V.int 1)
theorem tal_put (lo : Int) (j : Nat) : putK (tal lo j) [.inl (lo + (j : Int)), .inl (lo + (j : Int))] (.int 1) = tal lo (j + 1) := by
  unfold putK
  rw [if_neg]
  · unfold tal
    rw [List.range_succ, List.map_append]
    rfl
  · intro h
    obtain ⟨p, hp, hk⟩ := List.any_eq_true.mp h
    unfold tal at hp
    obtain ⟨i, hi, rfl⟩ := List.mem_map.mp hp
    have hk := of_decide_eq_true hk
    have hi := List.mem_range.mp hi
    injection hk with h1 h2
    injection h1 with h1
    omega
theorem tal_len (lo : Int) (j : Nat) : (tal lo j).length = j := by simp [tal]

/-- the reading -/
def tTal (C : Addr) (to : TE) : TE := fun σ H Q => to σ H fun y H1 => ∃ (a dx : Addr) (fs : List (Str × V)) (lo hi : Int), y = .ref a ∧ H1 a = some (.ins C dx fs) ∧ fs.lookup ("wholes" : Str) = none ∧ fs.lookup ("low" : Str) = some (.int lo) ∧ fs.lookup ("high" : Str) = some (.int hi) ∧
  0 ≤ lo ∧ lo ≤ 1000000 ∧ 0 ≤ hi ∧ hi ≤ 1000000 ∧ ∀ D H2, (∀ b u, H1 b = some u → H2 b = some u) → H1 D = none → H2 D = some (.dT (tal lo (hi + 1 - lo).toNat)) → Q (.ref D) H2

section
variable {C f : Addr} {fd : FuncData} {o : Expr} {x : Str} {px k1 k2 tp p5 apos cpos pos : Pos} {x1 kj : Nat} {scope : Scope} {to : TE} {pl : Sem Bool}
theorem pe_tal (hcalm : X.calm = true) (F : L2.Fun X.K "wholes" "Span.wholes" sWholes f fd) (hb : Binds X.K fd ["self"] []) (hr : Room 1 X.A) (c : Cls X.K C) (hm : Meth X.K C "wholes" f) (n1 : NoAttr X.K C "low") (n2 : NoAttr X.K C "high") (hmg : X.mg "range" = none)
    (ho : PE X o to) (hkd : scope.kind = .function) (hall : ∀ y ∈ scope.names, y.2 = .local) (hun : ∀ y ∈ scope.names, scope.names.lookup y.1 = some y.2) (hx : scope.names.lookup x = some .local) (hxd : (x == ("__debug__" : Str)) = false)
    (ht : eval (.Call (.Attribute o "wholes" apos) [] [] cpos) X.env = (do
      let ov ← eval o X.env
      standAt apos.atName
      let (f, first) ← holding [ov] (getMethod ov "wholes" pl)
      callWith cpos f first (backTo cpos (starEach [] X.env)) (backToKw cpos (keywordEach [] X.env))) := by rfl) (hs : ∀ v, foldedSetIterable (.Call (.Attribute o "wholes" apos) [] [] cpos) X.env v = pure v := by intro _; rfl) :
    PE X (.DictComp (.Tuple [.Name x k1, .Name x k2] x1 tp) (.Constant (.int 1) kj p5) [⟨.Name x px, .Call (.Attribute o "wholes" apos) [] [] cpos, [], 0⟩] scope pos) (tTal C to) := by
  refine ⟨fun pins s σ H Q I h => ?_⟩
  rw [arm_eval_DictComp]
  have hfree : ∀ y ∈ scope.names, y.2 = .free → ∃ c, X.env.cells.lookup y.1 = some c := fun y hy e => by
    rw [hall y hy] at e; cases e
  refine wpAny_comprehension_free (use := none) rfl hs (closure_ok hfree) hkd (fun y hy e => by rw [hun y hy, e]) ?_
  refine PySem.W.methodCall_KW (pl := pl) (thn (ho.run pins s σ H _ I h) fun u s1 ⟨y, H1, I1, ry, a, dx, fs, lo, hi, ey, ea, l0, l1, l2, b1, b2, b3, b4, q⟩ => ?_) ht
  subst ey
  obtain rfl : u = Value.ref a := ry
  refine getmeth_ok I1 ea c hm l0 ?_
  refine PySem.W.callWith_K0 (first := [.ref a]) I1.kIn hm.kp (thn (gen_made F hb hr I1 ea c n1 n2 l1 l2 hmg (by omega) (by omega) (by omega) (by omega)) fun u s2 hu => ?_)
  obtain ⟨ga, Cg, g, rfl, gC, gga, gne, gB, gB2, st0, os2, bare2, kp2⟩ := hu
  refine wpAny_pyIter_gen st0.1 ?_
  refine wpAny_newObj_type (newEnv_comp ?_)
  have I2 : Inv X pins σ H1 s2 := I1.call' (ch := []) os2 (Un.kept kp2) (I1.hok.kept kp2) bare2 fun b z => by simp at z
  generalize hD : s2.heap.objs.size = D
  have hDn : H1 D = none := I2.hok.fresh (Nat.le_of_eq hD)
  generalize hs3 : ({ s2 with heap := s2.heap.push { cls := .type "dict", data := .dict #[] } } : Shared) = s3
  have I3 : Inv X pins σ (upd H1 D (.dT [])) s3 := by
    rw [← hs3]
    refine I2.laid (t' := s2.toks) (fun b o e => Heap.get?_push_of_some _ e) (Nat.le_of_eq hD) ?_
    rw [← hD]
    exact dt_empty s2.heap I2.big
  have h3 : s3.heap = s2.heap.push { cls := .type "dict", data := .dict #[] } := by rw [← hs3]
  have z3 : s3.heap.objs.size = D + 1 := by rw [h3, Heap.size_push, hD]
  have kp3 : ∀ b o, s2.heap.get? b = some o → s3.heap.get? b = some o := fun b o e => by rw [h3]; exact Heap.get?_push_of_some _ e
  generalize hce : compEnvC scope (cellsFrom (s3.heap.objs.size + 1) scope.names (cloFrom X.env.cells scope.names [])) s3.heap.objs.size X.env = ce
  have cL : ce.locals = s3.heap.objs.size := by rw [← hce]; rfl
  have cK : ce.scope.kind = .function := by rw [← hce]; exact hkd
  have cX : ce.scope.names.lookup x = some .local := by rw [← hce]; exact lookup_relabel_local hx
  show codeAny _ _ (.compStart _ 0 (.ref ga) (.ref D) (compEnvC scope (cellsFrom (s3.heap.objs.size + 1) scope.names (cloFrom X.env.cells scope.names [])) s3.heap.objs.size X.env)) (compPost (model X.prog X.w) X.A X.xe none (EP X pins σ Q) (.ref D) s3.heap.objs.size) { s3 with heap := pushCells (s3.heap.push { cls := .type "dict", data := .dict #[] }) scope.names }
  rw [hce]
  generalize hs4 : ({ s3 with heap := pushCells (s3.heap.push { cls := .type "dict", data := .dict #[] }) scope.names } : Shared) = s4
  have kp4 : ∀ b o, s3.heap.get? b = some o → s4.heap.get? b = some o := fun b o e => by rw [← hs4]; exact pushCells_keeps _ _ _ _ (Heap.get?_push_of_some _ e)
  have I4 : Inv X pins σ (upd H1 D (.dT [])) s4 := by
    rw [← hs4]
    exact I3.kept (t' := s3.toks) fun b o e => pushCells_keeps _ _ _ _ (Heap.get?_push_of_some _ e)
  have n4 : s4.heap.Ns s3.heap.objs.size fun _ => none := by
    rw [← hs4]
    exact (Heap.Ns.new s3.heap (.type "dict")).keeps (pushCells_keeps _ _)
  have os4 : s4.gens = s2.gens := by rw [← hs4, ← hs3]
  have lim2 := I2.nolimit
  have csz : cStatics < D := by
    rw [← hD]
    obtain ⟨mc, hns, _⟩ := lim2
    exact hns.lt
  have cszC : cStatics ≠ Cg := by
    have h5 : cStatics < s1.heap.objs.size := by
      obtain ⟨mc, hns, _⟩ := I1.nolimit
      exact hns.lt
    exact Nat.ne_of_lt (Nat.lt_of_lt_of_le h5 gC)
  have st4 : GenSt X.prog X.w X.A D Cg lo (hi + 1 - lo).toNat ga g 0 s4 := by
    have q1 := st0
    rw [hD] at q1 gB
    have q2 : GenSt X.prog X.w X.A D Cg lo (hi + 1 - lo).toNat ga g 0 { s2 with heap := s4.heap, toks := s4.toks } := q1.frame gB csz fun b o _ e => kp4 b o (kp3 b o e)
    have e4 : ({ s2 with heap := s4.heap, toks := s4.toks } : Shared) = s4 := by rw [← hs4, ← hs3]
    rw [e4] at q2
    exact q2
  have fp : ∀ (b : Addr) (H2 : Hp), s1.heap.objs.size ≤ b → H2 b = none → FpOk X pins H2 b := fun b H2 hb hn => I1.fpOk hb hn
  have hCc : ∀ b, D ≤ b → s1.heap.objs.size ≤ b := fun b hb => by
    have : s1.heap.objs.size ≤ s2.heap.objs.size := Nat.le_of_lt (Nat.lt_of_le_of_lt gC gB2)
    omega
  generalize hCcg : s3.heap.objs.size = Cc at z3 cL n4 ⊢
  have hCgD : Cg < D := by rw [← hD]; exact gB2
  have gB' : ga < D := by rw [← hD]; exact gB
  have rm : X.A.depth < recursionLimit := hr.depth
  have un : X.A.units + 1 < cLine := by have := hr.un; omega
  have loop : codeAny (model X.prog X.w) X.A (.compLoop (.DictComp (.Tuple [.Name x k1, .Name x k2] x1 tp) (.Constant (.int 1) kj p5) [⟨.Name x px, .Call (.Attribute o "wholes" apos) [] [] cpos, [], 0⟩] scope pos) 0 (.ref ga) (.ref D) ce) (compPost (model X.prog X.w) X.A X.xe none (EP X pins σ Q) (.ref D) Cc) s4 := by
    refine compLoop_anyD (fun n s' => ∃ j H2, n + j = (hi + 1 - lo).toNat ∧ Inv X pins σ H2 s' ∧ GenSt X.prog X.w X.A D Cg lo (hi + 1 - lo).toNat ga g j s' ∧ (∃ m, s'.heap.Ns Cc m) ∧ (∀ b u, H1 b = some u → H2 b = some u) ∧ H2 D = some (.dT (tal lo j)) ∧
      (∀ b, D < b → H2 b = none ∨ ∃ xs, H2 b = some (.tup xs)) ∧ (∀ b, b < D → H1 b = none → H2 b = none) ∧ H2 Cc = none) ?_ (hi + 1 - lo).toNat ⟨0, _, by omega, I4, st4, ⟨_, n4⟩, fun b u e => ?_, upd_same, fun b hb => ?_, fun b hb e => ?_, ?_⟩
    · rintro n s5 ⟨j, H2, hn, I5, st5, ⟨m5, ns5⟩, hold, hDd, habove, hbelow, hCcn⟩
      have hneD : Cc ≠ D := by
        rw [z3]; exact Nat.succ_ne_self D
      have hne : Cc ≠ Cg := by
        rw [z3]; exact Nat.ne_of_gt (Nat.lt_succ_of_lt hCgD)
      have hCgn : H2 Cg = none := hbelow Cg hCgD (I1.hok.fresh gC)
      have fCg : FpOk X pins H2 Cg := fp Cg H2 gC hCgn
      have hB : ∀ b, D ≤ b → FpOk X pins H2 b ∨ ∀ o, s5.heap.get? b = some o → ¬ RI o := fun b hb => by
        by_cases e : b = D
        · right
          intro o ho hri
          obtain ⟨_, _, _, _, oo, es, ep, e1, e2, e3, _⟩ := (show ObjOk X.prog X.w H2 s5.heap D (.dT (tal lo j)) from I5.hok D _ hDd)
          rw [e, e1] at ho
          cases ho
          obtain ⟨_, vs, e4⟩ := hri
          rw [e3] at e4; cases e4
        · rcases habove b (by omega) with z | ⟨xs, z⟩
          · exact .inl (fp b H2 (hCc b hb) z)
          · right
            intro o ho hri
            obtain ⟨_, its, _, oo, e1, e2, _, e3⟩ := (show ObjOk X.prog X.w H2 s5.heap b (.tup xs) from I5.hok b _ z)
            rw [e1] at ho
            cases ho
            obtain ⟨_, vs, e4⟩ := hri
            rw [e3] at e4; cases e4
      by_cases hj : j < (hi + 1 - lo).toNat
      · refine gen_item hr.hd rm gB' gne csz cszC I5.bare st5 hj fun t s6 st6 bare6 os6 dr6 kp6 => ?_
        have I6 := inv_gen I5 fCg hB kp6 os6 bare6
        have ns6 : s6.heap.Ns Cc m5 := by
          obtain ⟨oo, es, ep, e1, e2, e3⟩ := ns5
          exact ⟨oo, es, ep, kp6 _ _ hne (.inr fun z => by obtain ⟨_, vs, e4⟩ := z; rw [e2] at e4; cases e4) e1, e2, e3⟩
        have hki : ce.kindOf x = some .local := cX
        have hp : (ce.scope.kind == .class || (ce.scope.kind == .module && ce.locals != ce.globals)) = false := by rw [cK]; rfl
        refine wpAny_of_eq (rfl : letOwnedTupleGo (.Name x px) (.ref ga) _ = pure ()) ?_
        refine wpAny_assign_Name (wpAny_storeName_local hki (by rw [cL]; exact ns6) (fun h7 ns7 hs7 => ?_) hp)
        have fCc : FpOk X pins H2 Cc := fp Cc H2 (hCc Cc (by omega)) hCcn
        rw [cL] at hs7
        have I7 : Inv X pins σ H2 { s6 with heap := h7 } := by
          obtain ⟨f0, f1, f2, f3, f4, f5⟩ := fCc
          exact I6.turned (t' := s6.toks) (fun b o hb e => hs7.extBut b o hb e) f0 f1 f3 f4 f5
        have st7 : GenSt X.prog X.w X.A D Cg lo (hi + 1 - lo).toNat ga g (j + 1) { s6 with heap := h7 } := st6.frame (tk := s6.toks) gB' csz fun b o hb e => hs7.extBut b o (by
          rintro rfl
          rcases hb with hb | hb
          · omega
          · obtain ⟨oo, es, ep, e1, e2, e3⟩ := ns6
            rw [e1] at e; cases e
            obtain ⟨_, vs, e4⟩ := hb
            rw [e2] at e4; cases e4) e
        refine wpAny_pure ?_
        rw [if_pos rfl]
        refine wpAny_Tuple_spliced (Calls.spliced_cons (ldl (v := .int (lo + (j : Int)) t) ns7 (by simp) (Calls.spliced_cons (ldl (v := .int (lo + (j : Int)) t) ns7 (by simp) (Calls.spliced_nil ⟨by rw [sizeLine_eq]; exact (by decide : 2 ≤ 16777216), ?_⟩) cK cX hxd)) cK cX hxd))
        refine wpAny_Constant_int ?_
        have kp8 : ∀ b o, h7.get? b = some o → (h7.push { cls := .type "tuple", data := .seq #[.int (lo + (j : Int)) t, .int (lo + (j : Int)) t] }).get? b = some o := fun b o e => Heap.get?_push_of_some _ e
        have I8 : ∀ tk, Inv X pins σ (upd H2 h7.objs.size (.tup [.int (lo + (j : Int)), .int (lo + (j : Int))])) { s6 with heap := h7.push { cls := .type "tuple", data := .seq #[.int (lo + (j : Int)) t, .int (lo + (j : Int)) t] }, toks := tk } := fun tk =>
          I7.laid (t' := tk) kp8 (Nat.le_refl _) ⟨by rw [sizeLine_eq]; exact (by decide : 2 ≤ 16777216), [.int (lo + (j : Int)) t, .int (lo + (j : Int)) t], .cons ⟨t, rfl⟩ (.cons ⟨t, rfl⟩ .nil), ⟨_, Heap.get?_push_size _ rfl, rfl, _, rfl⟩⟩
        have hTn : H2 h7.objs.size = none := I7.hok.fresh (Nat.le_refl _)
        have hDlt : D < h7.objs.size := I7.hok.lt hDd
        have hCclt : Cc < h7.objs.size := by rw [← cL]; exact ns7.lt
        have st8 : ∀ tk, GenSt X.prog X.w X.A D Cg lo (hi + 1 - lo).toNat ga g (j + 1) { s6 with heap := h7.push { cls := .type "tuple", data := .seq #[.int (lo + (j : Int)) t, .int (lo + (j : Int)) t] }, toks := tk } := fun tk =>
          st7.frame (tk := tk) gB' csz fun b o _ e => kp8 b o e
        have ns8 := ns7.keeps kp8
        rw [cL] at ns8
        generalize h7.push { cls := .type "tuple", data := .seq #[.int (lo + (j : Int)) t, .int (lo + (j : Int)) t] } = h8 at I8 st8 ns8 ⊢
        generalize hT : h7.objs.size = T at I8 hTn hDlt hCclt ⊢
        have hD8 : upd H2 T (.tup [.int (lo + (j : Int)), .int (lo + (j : Int))]) D = some (.dT (tal lo j)) := by
          rw [upd_ne (Nat.ne_of_lt hDlt)]; exact hDd
        have hT8 : upd H2 T (.tup [.int (lo + (j : Int)), .int (lo + (j : Int))]) T = some (.tup (([.inl (lo + (j : Int)), .inl (lo + (j : Int))] : List Key).map kV)) := upd_same
        obtain ⟨z, hd, xs, rel, dd⟩ := dt_of (I8 0).hok hD8
        have hz : xs.length ≤ sizeLine := by rw [← Paired.length rel]; exact z
        have hl : (tal lo (j + 1)).length ≤ sizeLine := by rw [tal_len, sizeLine_eq]; omega
        refine wpAny_dictSet_heap (knd := tupleKind (mixKind X.prog X.w)) (hsz := hz) ?_ (key_of (I8 0).hok hT8) dd fun h9 dd9 hs9 => ?_
        · show X.A.units < cLine
          omega
        · obtain ⟨oo, es, ep, hq, e2, e3, e4, _, e5⟩ := dd9
          replace hs9 : Heap.SameBut D h8 h9 := hs9
          have rel9 : KT _ _ (storedH xs [.inl (lo + (j : Int)), .inl (lo + (j : Int))] T (.int 1 (s6.toks + 1))) := rel.put [.inl (lo + (j : Int)), .inl (lo + (j : Int))] hT8 (show RelV (.int 1) (.int 1 (s6.toks + 1)) from ⟨_, rfl⟩)
          rw [tal_put] at rel9
          have I9 : ∀ tk, Inv X pins σ (upd (upd H2 T (.tup [.int (lo + (j : Int)), .int (lo + (j : Int))])) D (.dT (tal lo (j + 1)))) { s6 with heap := h9, toks := tk } := fun tk =>
            d_write (s := { s6 with heap := h8, toks := 0 }) (I8 0) (by rw [hD8]; exact True.intro) hs9 ⟨oo, hq⟩ ⟨hl, hd, _, KT.keeps rel9 fun c ys ec => by rw [upd_ne (ne_of ec hD8 (fun z => nomatch z))]; exact ec, oo, es, ep, hq, e2, e3, e4, e5⟩
          have notD : ∀ {b o}, h8.get? b = some o → (b < D ∨ RI o) → b ≠ D := fun {b o} e hb z => by
            subst z
            rcases hb with hb | hb
            · exact absurd hb (Nat.lt_irrefl _)
            · obtain ⟨_, _, _, _, o1, es1, ep1, q1, q2, q3, _⟩ := (show ObjOk X.prog X.w _ h8 b (.dT (tal lo j)) from (I8 0).hok b _ hD8)
              rw [q1] at e
              cases e
              obtain ⟨_, vs, q4⟩ := hb
              rw [q3] at q4; cases q4
          refine ⟨n - 1, by omega, j + 1, _, by omega, I9 _, (st8 0).frame gB' csz fun b o hb e => hs9.extBut b o (notD e hb) e, ⟨_, ns8.at' fun o e => hs9.extBut Cc o hneD e⟩, fun b u e => ?_, upd_same, fun b hb => ?_, fun b hb e => ?_, ?_⟩
          · rw [upd_ne (ne_of_none e hDn), upd_ne (ne_of_none (hold b u e) hTn)]
            exact hold b u e
          · rw [upd_ne (Nat.ne_of_gt hb)]
            by_cases q : b = T
            · exact .inr ⟨_, by rw [q]; exact upd_same⟩
            · rw [upd_ne q]; exact habove b hb
          · rw [upd_ne (Nat.ne_of_lt hb), upd_ne (Nat.ne_of_lt (Nat.lt_trans hb hDlt))]
            exact hbelow b hb e
          · rw [upd_ne hneD, upd_ne (Nat.ne_of_lt hCclt)]
            exact hCcn
      · have hjn : j = (hi + 1 - lo).toNat := by omega
        subst hjn
        refine gen_done hr.hd rm gB' gne I5.bare st5 fun s6 bare6 os6 dr6 kp6 => ?_
        have I6 := inv_gen I5 fCg hB kp6 os6 bare6
        have ns6 : s6.heap.Ns Cc m5 := by
          obtain ⟨oo, es, ep, e1, e2, e3⟩ := ns5
          exact ⟨oo, es, ep, kp6 _ _ hne (.inr fun z => by obtain ⟨_, vs, e4⟩ := z; rw [e2] at e4; cases e4) e1, e2, e3⟩
        refine ⟨m5, ns6, fun h' sb => ?_⟩
        obtain ⟨f0, f1, f2, f3, f4, f5⟩ := fp Cc H2 (hCc Cc (by omega)) hCcn
        exact ⟨.ref D, H2, I6.turned (t' := s6.toks) (fun b o hb e => (sb.2 b hb).trans e) f0 f1 f3 f4 f5, rfl, q D H2 hold hDn hDd⟩
    · rw [upd_ne (ne_of_none e hDn)]; exact e
    · left
      rw [upd_ne (Nat.ne_of_gt hb)]
      exact I2.hok.fresh (by omega)
    · rw [upd_ne (Nat.ne_of_lt hb)]; exact e
    · rw [upd_ne (show Cc ≠ D by omega)]
      exact I2.hok.fresh (by omega)
  exact codeAny_compStart_dict loop (wpAny_pyIter_gen st4.1 loop)
end
end
end Wr
-- WrSort
/-! sorted(d.items()), the keys pairs of ints, the values ints -/
namespace Wr
open PySem L2 PySem.Spec PyProof.Rows
/-- a row: its bounds, its number -/
abbrev Row := (Int × Int) × Int
def rowD (r : Row) : PyData := .tuple [.tuple [.int r.1.1, .int r.1.2], .int r.2]
def rowK (r : Row) : List L2.Key × V := ([.inl r.1.1, .inl r.1.2], .int r.2)
def rowLe (p q : Row) : Bool := decide (p.1.1 < q.1.1 ∨ (p.1.1 = q.1.1 ∧ (p.1.2 < q.1.2 ∨ (p.1.2 = q.1.2 ∧ p.2 ≤ q.2))))
theorem rowD_le : PySem.W.dataLe false rowD = rowLe := by
  funext p q
  rw [PySem.W.dataLe_eq]
  show (!PySem.W.dataLt (rowD q) (rowD p)) = _
  unfold rowD
  rw [PySem.W.dataLt_pair (by simp [PySem.W.alike, PySem.W.alikeAll]) (by simp [PySem.W.alike]), PySem.W.dataLt_ii, PySem.W.dataLt_int]
  simp only [PyData.eqv, PyData.eqvAll, Bool.and_true, Bool.and_eq_true, beq_iff_eq]
  unfold rowLe
  by_cases h : p.1.1 < q.1.1 ∨ (p.1.1 = q.1.1 ∧ (p.1.2 < q.1.2 ∨ (p.1.2 = q.1.2 ∧ p.2 ≤ q.2)))
  · rw [decide_eq_true h]
    split
    · split
      · rfl
      · simp; omega
    · simp; omega
  · rw [decide_eq_false h]
    split
    · split
      · exfalso; omega
      · simp; omega
    · simp; omega
/-- the rows in order -/
def rowSort (bs : List Row) : List Row := bs.mergeSort rowLe

section
variable {X : Cx}
/-- the pairs at as stand for the rows bs -/
def RowsAt (H : Hp) (as : List Addr) (bs : List Row) : Prop := Paired (fun (a : Addr) (b : Row) => ∃ q, H a = some (.tup [.ref q, .int b.2]) ∧ H q = some (.tup [.int b.1.1, .int b.1.2])) as bs
def rSortII : List V → Hp → VK → Prop := fun vs H Q => ∃ (p a : Addr) (bs : List Row), vs = [.ref p] ∧ H p = some (DX.itemsO p a) ∧ H a = some (.dT (bs.map rowK)) ∧ bs.length ≤ 1000000 ∧
  ∀ (H' : Hp) (l : Addr) (as : List Addr), (∀ b o, H b = some o → H' b = some o) → H' l = some (.lst (as.map V.ref)) → RowsAt H' as (rowSort bs) → Q (.ref l) H'
theorem cr_sortedII (hc : X.calm = true) (hu : X.A.units + 64 < cLine) : CallR X (.builtin "sorted") rSortII := by
  intro pins s σ H xs us Q I r h
  obtain ⟨p, a, bs, rfl, hp, ha, h64, q⟩ := h
  obtain rfl := Vals.ref1 r
  have view : s.heap.IsItemsView p a := (show ObjOk X.prog X.w H s.heap p (DX.itemsO p a) from I.hok p _ hp).1
  obtain ⟨z, hd, xs', rel, o, es, ep, ho, hx, hdat, hes, his, hn⟩ := dt_of I.hok ha
  have l1 : (bs.map rowK).length = xs'.length := Paired.length rel
  rw [List.length_map] at l1
  have l2 : es.size = xs'.length := size_of_entries hes
  have hh : X.A.handled = none := I.ok.hd hc
  refine DT.sortedI (es := es) (ep := ep) hh view ⟨o, ho, hx, hdat⟩ (by rw [sizeLine_eq]; omega) fun h' tk as hk hlt hl hG => ?_
  have lak : as.length = bs.length := by omega
  have nd : as.Nodup := List.Pairwise.imp (fun h => Nat.ne_of_lt h) hG.rise
  -- the pairs that were made
  have pr : ∀ (j : Nat) (b : Addr), as[j]? = some b → ∃ (e : Row) (kq : Addr) (t : Tok), bs[j]? = some e ∧ H kq = some (.tup [.int e.1.1, .int e.1.2]) ∧ h'.get? b = some { cls := .type "tuple", data := .seq #[Value.ref kq, Value.int e.2 t] } := by
    intro j b hj
    obtain ⟨en, he, hg⟩ := hG.pairs j b hj
    rw [entry_at hes j] at he
    cases hxj : xs'[j]? with
    | none =>
      rw [hxj] at he
      exact nomatch (show (none : Option DictEntry) = some en from he)
    | some x =>
      rw [hxj] at he
      have een : entryOfKey (tupleKind (mixKind X.prog X.w)) x = en := Option.some.inj he
      obtain ⟨e0, he0, r1, r2, r3⟩ := DX.pget rel hxj
      rw [List.getElem?_map] at he0
      cases hkj : bs[j]? with
      | none =>
        rw [hkj] at he0
        exact nomatch (show (none : Option (List L2.Key × V)) = some e0 from he0)
      | some e =>
        rw [hkj] at he0
        have ee : rowK e = e0 := Option.some.inj he0
        rw [← ee] at r2 r3
        obtain ⟨t, r3'⟩ := (show ∃ t, x.2.2 = Value.int e.2 t from r3)
        refine ⟨e, x.2.1, t, rfl, r2, ?_⟩
        rw [hg, ← een, ← r3']
        all_goals rfl
  have hob : (h'.push { cls := .type "list", data := .seq (as.map Value.ref).toArray }).get? h'.objs.size = some (seqObj "list" (as.map Value.ref).toArray 0) := Heap.get?_push_size _ rfl
  have kb : ∀ b o, s.heap.get? b = some o → (h'.push { cls := .type "list", data := .seq (as.map Value.ref).toArray }).get? b = some o := fun b o e => Heap.get?_push_of_some _ (hk b o e)
  have ne0 : ∀ b o, h'.get? b = some o → b ≠ h'.objs.size := fun b o e => Nat.ne_of_lt (Heap.lt_size e)
  generalize hh2 : h'.push { cls := .type "list", data := .seq (as.map Value.ref).toArray } = h2 at hob kb ⊢
  have ka : ∀ b o, h'.get? b = some o → h2.get? b = some o := fun b o e => by rw [← hh2]; exact Heap.get?_push_of_some _ e
  have kq2 : ∀ (e : Row) kq, H kq = some (.tup [.int e.1.1, .int e.1.2]) → ∃ (ot : Obj) (t1 t2 : Tok) (nt : Nat), s.heap.get? kq = some ot ∧ ot.cls = .type "tuple" ∧ ot.data = .seq #[.int e.1.1 t1, .int e.1.2 t2] nt := by
    intro e kq hkq
    obtain ⟨_, its, rv, ot, hot, hct, nt, hdt⟩ := (show ObjOk X.prog X.w H s.heap kq (.tup [.int e.1.1, .int e.1.2]) from I.hok kq _ hkq)
    cases rv with
    | cons r1 r2 =>
      cases r2 with
      | cons r2 r3 =>
        cases r3
        obtain ⟨t1, rfl⟩ := r1
        obtain ⟨t2, rfl⟩ := r2
        exact ⟨ot, t1, t2, nt, hot, hct, hdt⟩
  have each : PySem.W.EachIs (fun (v : Value) (b : Row) => ∃ (j : Nat) (c : Addr), v = .ref c ∧ as[j]? = some c ∧ bs[j]? = some b) (as.map Value.ref) bs := by
    refine PySem.W.EachIs.of_zip (by rw [List.length_map]; exact lak) fun z hz => ?_
    obtain ⟨j, hj⟩ := List.mem_iff_getElem?.mp hz
    obtain ⟨h1, h2⟩ := List.getElem?_zip_eq_some.mp hj
    rw [List.getElem?_map] at h1
    cases e : as[j]? with
    | none => rw [e] at h1; cases h1
    | some c => rw [e] at h1; exact ⟨j, c, (Option.some.inj h1).symm, e, h2⟩
  have hread : PySem.W.EachIs (fun (v : Value) (b : Row) => ∃ as, Reads h2 v (rowD b) as ∧ h'.objs.size ∉ as) (as.map Value.ref) bs := by
    refine each.mono fun v b h => ?_
    obtain ⟨j, c, e1, e2, e3⟩ := h
    obtain ⟨e, kq, t, he, hkq, hg⟩ := pr j c e2
    have ee : e = b := Option.some.inj (he.symm.trans e3)
    subst ee
    obtain ⟨ot, t1, t2, nt, hot, hct, hdt⟩ := kq2 e kq hkq
    have hcl : c ≠ h'.objs.size := ne0 _ _ hg
    have rd : Reads h2 (.ref c) (rowD e) ([] ++ ([] ++ [])) :=
      .tuple (ka _ _ hg) rfl rfl (.cons (.tuple (kb _ _ hot) hct hdt (.cons (.int _ _) (.cons (.int _ _) .nil))) (.cons (.int _ _) .nil))
    exact ⟨_, by rw [e1]; exact rd, by simp⟩
  have hdep : ∀ b, b ∈ bs → X.A.in1.units + 1 + (rowD b).depth < cLine := fun b hb => by
    have : (rowD b).depth ≤ 2 := by simp [rowD, PyData.depth, PyData.depthAll]
    show X.A.units + 1 + 1 + _ < cLine
    omega
  refine PySem.W.list_sort_data (enc := rowD) hob each hread (PySem.W.AllAlike.of fun b b' => by simp [rowD, PySem.W.alike, PySem.W.alikeAll]) (PySem.W.Sortable.tuples fun b => ⟨_, _, rfl⟩) (by rw [sizeLine_eq]; omega) hdep fun out ho eo => ?_
  · show EP X pins σ Q (.ref h'.objs.size) { s with heap := sortedHeap h2 h'.objs.size (as.map Value.ref) out.toArray, toks := tk }
    rw [rowD_le] at eo
    have split : ∀ {us : List Value} {rs : List Row}, PySem.W.EachIs (fun (v : Value) (b : Row) => ∃ (j : Nat) (c : Addr), v = .ref c ∧ as[j]? = some c ∧ bs[j]? = some b) us rs →
        ∃ cs : List Addr, us = cs.map Value.ref ∧ Paired (fun (c : Addr) (b : Row) => ∃ j : Nat, as[j]? = some c ∧ bs[j]? = some b) cs rs := by
      intro us rs h
      induction h with
      | nil => exact ⟨[], rfl, .nil⟩
      | cons h1 _ ih =>
        obtain ⟨j, c, rfl, h2, h3⟩ := h1
        obtain ⟨cs, e, p⟩ := ih
        exact ⟨c :: cs, by rw [e]; rfl, .cons ⟨j, h2, h3⟩ p⟩
    obtain ⟨cs, rfl, pc⟩ := split eo
    have kF : ∀ b o, b ≠ h'.objs.size → h2.get? b = some o → (sortedHeap h2 h'.objs.size (as.map Value.ref) (cs.map Value.ref).toArray).get? b = some o := fun b o hb e => (PyProof.Rows.sortedHeap_old hb (Heap.lt_size e)).trans e
    have kS : ∀ b o, s.heap.get? b = some o → (sortedHeap h2 h'.objs.size (as.map Value.ref) (cs.map Value.ref).toArray).get? b = some o := fun b o e => kF b o (ne0 _ _ (hk b o e)) (kb b o e)
    obtain ⟨eF, heF⟩ := PyProof.Rows.sortedHeap_at (vs := as.map Value.ref) (out := (cs.map Value.ref).toArray) hob
    have I1 : Inv X pins σ H { s with heap := sortedHeap h2 h'.objs.size (as.map Value.ref) (cs.map Value.ref).toArray, toks := tk } := I.kept (t' := tk) kS
    have hn0 : H h'.objs.size = none := I.hok.fresh (Nat.le_of_lt hlt)
    have hlen : (cs.map V.ref).length ≤ sizeLine := by
      rw [List.length_map] at ho ⊢
      rw [sizeLine_eq]
      omega
    have I2 : Inv X pins σ (upd H h'.objs.size (.lst (cs.map V.ref))) { s with heap := sortedHeap h2 h'.objs.size (as.map Value.ref) (cs.map Value.ref).toArray, toks := tk } :=
      I1.take (h' := sortedHeap h2 h'.objs.size (as.map Value.ref) (cs.map Value.ref).toArray) (t' := tk) (fun b ob _ e => e) (I.fpOk (Nat.le_of_lt hlt) hn0) ⟨hlen, cs.map Value.ref, eF, vals_maps V.ref Value.ref cs fun _ _ => rfl, heF⟩
    obtain ⟨H2, I3, g, qt⟩ := DX.takeT (P := fun b vs => ∃ (j : Nat) (e : Row) (kq : Addr), as[j]? = some b ∧ bs[j]? = some e ∧ vs = [.ref kq, .int e.2] ∧ H kq = some (.tup [.int e.1.1, .int e.1.2])) I as _ I2 nd fun b hb => by
      obtain ⟨j, hj⟩ := List.mem_iff_getElem?.mp hb
      obtain ⟨e, kq, t, he, hkq, hg⟩ := pr j b hj
      have hbl : s.heap.objs.size ≤ b := Nat.le_of_lt (hG.above b hb)
      refine ⟨hbl, ?_, [.ref kq, .int e.2], ⟨j, e, kq, hj, he, rfl, hkq⟩, fun H3 => ⟨(by rw [sizeLine_eq]; show 2 ≤ 16777216; omega), [Value.ref kq, Value.int e.2 t], .cons rfl (.cons ⟨t, rfl⟩ .nil), ⟨_, kF _ _ (ne0 _ _ hg) (ka _ _ hg), rfl, 0, rfl⟩⟩⟩
      rw [upd_ne (ne0 _ _ hg)]
      exact I.hok.fresh hbl
    have gr : ∀ b o, H b = some o → H2 b = some o := fun b o e => g b o (by rw [upd_ne (ne_of_none e hn0)]; exact e)
    refine ⟨.ref h'.objs.size, H2, I3, rfl, q H2 h'.objs.size cs gr (g _ _ upd_same) ?_⟩
    refine Paired.mapP pc fun c b ⟨j, h1, h2⟩ => ?_
    obtain ⟨vs, ⟨i, e, kq, i1, i2, ev, hkq⟩, hH⟩ := qt c (List.mem_of_getElem? h1)
    have eij : j = i := (List.getElem?_inj (List.getElem?_eq_some_iff.mp h1).1 nd).mp (h1.trans i1.symm)
    subst eij
    have ee : e = b := Option.some.inj (i2.symm.trans h2)
    subst ee
    rw [ev] at hH
    exact ⟨kq, hH, gr _ _ hkq⟩
end
end Wr
-- WrStr
/-! str(a tuple of rows); defs called where no text is being written (guards) -/
namespace Wr
open PySem L2 PySem.Spec PyProof.Rows
def rowP (r : Row) : PyData := .tuple [.int r.1.1, .int r.1.2, .int r.2]
def tabText (bs : List Row) : Str := PyData.shown (.tuple (bs.map rowP))
def RowSmall (b : Row) : Prop := b.1.1.natAbs < 10 ^ 9 ∧ b.1.2.natAbs < 10 ^ 9 ∧ b.2.natAbs < 10 ^ 9
theorem shown_small {i : Int} (h : i.natAbs < 10 ^ 9) : (PyData.shown (.int i)).length ≤ 100 := by
  show (Str.ofString (toString i)).length ≤ 100
  rw [PySem.ofString_length]
  have := int_text_length_le10 (k := 9) (by decide) h
  omega
theorem log_small {i : Int} (h : i.natAbs < 10 ^ 9) : i.natAbs.log2 < 1920 := by
  by_cases h0 : i.natAbs = 0
  · rw [h0]; decide
  · exact (Nat.log2_lt h0).mpr (Nat.lt_of_lt_of_le h (Nat.le_trans (by decide : 10 ^ 9 ≤ 2 ^ 30) (Nat.pow_le_pow_right (by decide : 0 < 2) (by decide : 30 ≤ 1920))))
theorem tab_short : ∀ bs : List Row, (∀ b ∈ bs, RowSmall b) → PyData.leavesShortAll 100 (bs.map rowP) = true
  | [], _ => rfl
  | b :: bs, h => by
    obtain ⟨h1, h2, h3⟩ := h b (List.mem_cons_self ..)
    show (PyData.leavesShort 100 (rowP b) && PyData.leavesShortAll 100 (bs.map rowP)) = true
    rw [tab_short bs fun c hc => h c (List.mem_cons_of_mem _ hc), Bool.and_true]
    simp only [rowP, PyData.leavesShort, PyData.leavesShortAll, Bool.and_true, Bool.and_eq_true, decide_eq_true_eq]
    exact ⟨shown_small h1, shown_small h2, shown_small h3⟩
theorem tab_show : ∀ bs : List Row, (∀ b ∈ bs, RowSmall b) → PyData.showableAll (bs.map rowP) = true
  | [], _ => rfl
  | b :: bs, h => by
    obtain ⟨h1, h2, h3⟩ := h b (List.mem_cons_self ..)
    show (PyData.showable (rowP b) && PyData.showableAll (bs.map rowP)) = true
    rw [tab_show bs fun c hc => h c (List.mem_cons_of_mem _ hc), Bool.and_true]
    simp only [rowP, PyData.showable, PyData.showableAll, Bool.and_true, Bool.and_eq_true, decide_eq_true_eq]
    exact ⟨log_small h1, log_small h2, log_small h3⟩
theorem tab_bulk : ∀ bs : List Row, PyData.bulkAll (bs.map rowP) = 4 * bs.length
  | [] => rfl
  | b :: bs => by
    show (rowP b).bulk + 1 + PyData.bulkAll (bs.map rowP) = _
    rw [tab_bulk bs]
    simp only [rowP, PyData.bulk, PyData.bulkAll, List.length_cons]
    omega
theorem tab_depth : ∀ bs : List Row, PyData.depthAll (bs.map rowP) ≤ 1
  | [] => by simp [PyData.depthAll]
  | b :: bs => by
    have := tab_depth bs
    show PyData.depthAll (rowP b :: bs.map rowP) ≤ 1
    simp only [PyData.depthAll, rowP, PyData.depth] at this ⊢
    omega
theorem tab_len {bs : List Row} (h : ∀ b ∈ bs, RowSmall b) (hl : bs.length ≤ 1000) : (tabText bs).length ≤ 500000 := by
  have := PyData.shown_le_bulk 100 (by decide) (.tuple (bs.map rowP)) (by simpa only [PyData.leavesShort] using tab_short bs h)
  have e : (PyData.tuple (bs.map rowP)).bulk = 4 * bs.length := by simpa only [PyData.bulk] using tab_bulk bs
  rw [e] at this
  show (PyData.shown (.tuple (bs.map rowP))).length ≤ _
  omega
/-- the tuples at as are the rows bs -/
def Rows3 (H : Hp) (as : List Addr) (bs : List Row) : Prop := Paired (fun (c : Addr) (b : Row) => H c = some (.tup [.int b.1.1, .int b.1.2, .int b.2])) as bs
theorem vals_refs : ∀ {as : List Addr} {its : List Value}, Vals (as.map V.ref) its → its = as.map Value.ref
  | [], _, .nil => rfl
  | c :: as, _, .cons r1 r2 => by
    cases r1
    rw [vals_refs r2]; rfl
section
variable {X : Cx}
def rStrRows : List V → Hp → VK → Prop := fun xs H Q => ∃ (a : Addr) (as : List Addr) (bs : List Row), xs = [.ref a] ∧ H a = some (.tup (as.map V.ref)) ∧ Rows3 H as bs ∧ bs.length ≤ 1000 ∧ (∀ b ∈ bs, RowSmall b) ∧ Q (.str (tabText bs)) H
theorem reads_rows {P : Program} {w : World} {H : Hp} {h : Heap} (ok : HOk P w H h) {as : List Addr} {bs : List Row} (r : Rows3 H as bs) : ReadsAll h (as.map Value.ref) (bs.map rowP) (bs.map fun _ => ([] : List Addr)).flatten := by
  induction r with
  | nil => exact .nil
  | @cons c b as bs hc _ ih =>
    obtain ⟨_, its, rv, ot, hot, hct, nt, hdt⟩ := (show ObjOk P w H h c (.tup [.int b.1.1, .int b.1.2, .int b.2]) from ok c _ hc)
    cases rv with
    | cons r1 r2 =>
      cases r2 with
      | cons r2 r3 =>
        cases r3 with
        | cons r3 r4 =>
          cases r4
          obtain ⟨t1, rfl⟩ := r1
          obtain ⟨t2, rfl⟩ := r2
          obtain ⟨t3, rfl⟩ := r3
          exact .cons (as := []) (.tuple (as := [] ++ ([] ++ ([] ++ []))) hot hct hdt (.cons (.int _ _) (.cons (.int _ _) (.cons (.int _ _) .nil)))) ih
theorem call_strRows (hg : X.A.guards = some []) (hu : X.A.units + 64 < cLine) : CallR X (.type "str") rStrRows := by
  intro pins s σ H xs us Q I r h
  obtain ⟨a, as, bs, rfl, ha, hr, hl, hs, q⟩ := h
  obtain ⟨u, rfl, ru⟩ := vals1 r
  cases (show u = Value.ref a from ru)
  obtain ⟨_, its, rv, ot, hot, hct, nt, hdt⟩ := (show ObjOk X.prog X.w H s.heap a (.tup (as.map V.ref)) from I.hok a _ ha)
  have e : its = as.map Value.ref := vals_refs rv
  subst e
  have hd : (PyData.tuple (bs.map rowP)).depth ≤ 2 := by
    have := tab_depth bs
    simp only [PyData.depth]
    omega
  have len := tab_len hs hl
  refine str_of_reads (h₀ := s.heap) (d := .tuple (bs.map rowP)) (.tuple hot hct hdt (reads_rows I.hok hr)) (by simpa only [PyData.showable] using tab_show bs hs) (fun hx => ?_) hg (by omega) (fun _ _ e => e) (fun h' u tk hk => ?_) (by rw [sizeLine_eq]; show (tabText bs).length ≤ _; omega)
  · intro hm
    clear hr q hs hl len
    have : ∀ l : List Row, sysModules ∉ (l.map fun _ => ([] : List Addr)).flatten := fun l => by
      induction l with
      | nil => simp
      | cons b l ih => simpa using ih
    exact this bs hm
  · exact ⟨.str (tabText bs), H, I.kept (t' := tk) hk, ⟨u, rfl⟩, q⟩
end
end Wr
-- WrG
/-! defs whose promise holds where the guards of the stack are known (none): for str of a container -/
namespace Wr
open PySem L2 PySem.Spec PyProof.Rows
/-- a def's promise, at calls over a stack without guards -/
structure FnG (P : Program) (w : World) (K : PySem.W.Frag) (mg : Str → Option Value) (base : Heap) (k : Nat) (f : Addr) (fd : FuncData) (ps : List Str) (sp : Sp) : Prop where
  len : ∀ vs H Q E, sp vs H Q E → vs.length = ps.length
  run : ∀ (A : Around) (outer : List Env) (s : Shared) (H : Hp) (args : Args) (us : List Value) (vs : List V) (Q : VK) (E : XK), Room k A → A.guards = some [] → Env0 P w K mg base A outer s H → BindsTo s fd args (ps.zip us) → Vals vs us → sp vs H Q E →
    codeAny (model P w) A (.call (.ref f) args) (CR CX0 outer P w H s Q E) s
section
variable {P : Program} {w : World} {K : PySem.W.Frag} {mg : Str → Option Value} {base : Heap}
/-- by its body -/
theorem fnG_of {x qual : Str} {st : Stmt} {f : Addr} {fd : FuncData} {N ps : List Str} {k : Nat} {sp : Sp} (F : L2.Fun K x qual st f fd) (S : FnScope N ps (defScope st)) (len : ∀ vs H Q E, sp vs H Q E → vs.length = ps.length)
    (hbody : ∀ (cdv : Value) (A : Around) (outer : List Env) (s : Shared) (H : Hp) (vs : List V) (Q : VK) (E : XK), Room k (A.deeper (envOfC qual (defScope st) s.heap.objs.size f cdv)) → A.guards = some [] → sp vs H Q E →
      ∃ t, PSs (cxOf CX0 P w K mg base N qual (defScope st) f cdv A outer s H E).nox (defBody st) t ∧ t { nx := fun _ H' => Q .non H', rt := Q } (start N vs) H) : FnG P w K mg base (k + 1) f fd ps sp := by
  obtain ⟨oc, od, kV, doc, pm, an, cdv, ct, osl, rfl, lk, hcd⟩ := F.ex
  refine ⟨len, fun A outer s H args us vs Q E hr hg e0 hb r hsp => ?_⟩
  obtain ⟨t, ht, hq⟩ := hbody cdv A outer s H vs Q E (hr.deeper _) hg hsp
  have KX : K.In s.heap := e0.mod.kin.keeps fun b o e => (e0.bs b o e).1
  have lim : s.heap.NoLimit := e0.mod.nolimit.keeps fun b o e => (e0.bs b o e).1
  refine codeAny_call_function hr.depth (KX _ _ lk) rfl S.co S.gen rfl (PySem.W.codeRec_of KX hcd) (hb _ _ _ _ (wpAny_newFunctionEnv_cells S.kind (fun y hy => ?_) fun env he s1 x => ?_))
  · rcases S.par y.1 (List.of_mem_zip (show (y.1, y.2) ∈ ps.zip us from hy)).1 with q | q
    · exact .inl q
    · exact .inr ⟨q, PySem.W.cellsFrom_some _ _ _ (.inl q)⟩
  subst he
  have I : Inv (cxOf CX0 P w K mg base N qual (defScope st) f cdv A outer s H E) [] (start N vs) H s1 := inv_start S hr.hd e0 (len _ _ _ _ hsp) r x
  refine ⟨lim.keeps x.toInCall.keep, codeAny_func (wpAny_mono (ht.nox.run [] s1 (start N vs) H _ I hq) (fun fl s' hs => ?_) fun e s' hs => hs)⟩
  cases fl with
  | ret u =>
    obtain ⟨v, σ', H', J, rv, q⟩ := hs
    exact ⟨v, H', J.os, J.bare, J.base, J.hok, rv, q⟩
  | next =>
    obtain ⟨σ', H', J, q⟩ := hs
    exact ⟨V.non, H', J.os, J.bare, J.base, J.hok, rfl, q⟩
  | brk => exact hs.elim fun _ z => z.elim fun _ z => z.2.elim
  | cont => exact hs.elim fun _ z => z.elim fun _ z => z.2.elim
end
section
variable {X : Cx} {x : Str} {p pos : Pos} {e : Expr} {es : List Expr} {t : TA} {k : Nat} {f : Addr} {fd : FuncData} {ps : List Str} {sp : Sp}
/-- f(e, ..) -/
theorem pe_callG (F : FnG X.prog X.w X.K X.mg X.base k f fd ps sp) (hr : Room k X.A) (hgd : X.A.guards = some []) (hg : Gl X x) (hm : X.mg x = some (.ref f)) (hk : PySem.W.keepIn X.K (.ref f) = true) (hb : Binds X.K fd ps [])
    (ha : PA X (e :: es) t) (hdb : (x == ("__debug__" : Str)) = false := by decide) (he : starEach (e :: es) X.env = (false, eval e X.env) :: starEach es X.env := by rfl) (hpl : (backTo pos (starEach es X.env)).any (·.1) = false := by rfl) :
    PE X (.Call (.Name x p) (e :: es) [] pos) (tCall sp [] E0 t) := by
  refine ⟨fun pins s σ H Q I h => wpAny_Call_Name_kw (ld_glob I hg hm ?_ hdb)⟩
  refine PySem.W.callWith_K (h₀ := X.base) I.ok.mod.kin hk (thn (ha.run pos pins s σ H _ I h) fun us s1 ⟨vs, H1, I1, r, q⟩ => ⟨I1.kIn, ?_⟩) he hpl
  have q : sp vs H1 Q E0 := by
    have q' : sp (vs ++ []) H1 Q E0 := q
    rw [List.append_nil] at q'
    exact q'
  have hl : (us ++ ([] : List Value)).length = ps.length := by rw [List.append_nil, ← r.length]; exact F.len _ _ _ _ q
  have hbb := hb s1 us I1.kIn hl
  rw [List.append_nil] at hbb
  refine wpAny_call (codeAny_mono (F.run X.A X.stack s1 H1 ⟨us, []⟩ us vs Q E0 hr hgd I1.env0 hbb r q) fun r s' hq => ?_)
  match r, hq with
  | .ok (.ret u), hq => exact I1.after hq
  | .ok .next, hq => exact hq.elim
  | .ok .brk, hq => exact hq.elim
  | .ok .cont, hq => exact hq.elim
  | .error e, hq => exact hq.elim
end

/-- the law's call, over the heap behind the top -/
theorem call_lawG {P : Program} {w : World} {K : PySem.W.Frag} {mg mb : Str → Option Value} {k : Nat} {fa a : Addr} {fd : FuncData} {x : Str} {sp : Sp} {s₁ : Shared} {vs : List Value} {ns : List Int}
    (KX : K.In s₁.heap) (hns : s₁.heap.Ns mainGlobals mg) (hb : s₁.heap.Ns builtinsNs mb) (hbb : ∀ x : Str, x ≠ "__name__" → mb x = bootBuiltins x) (hlim : s₁.heap.NoLimit) (hg : s₁.gens = #[])
    (ha : s₁.heap.get? a = some { cls := .type "list", data := .seq vs.toArray }) (hi : IntsAre vs ns) (hl : ns.length ≤ sizeLine) (hr : Room k callerA)
    (F : ∀ base : Heap, K.In base → base.Ns mainGlobals mg → FnG P w K mg base k fa fd [x] sp) (hbind : ∀ (s : Shared) (u : Value), BindsTo s fd ⟨[u], []⟩ [(x, u)])
    (hsp : ∀ H : Hp, Only H → SqL K H a (ns.map V.int) → sp [.ref a] H (fun v _ => v = .bl true) E0) :
    codeAny (model P w) callerA (.call (.ref fa) ⟨[.ref a], []⟩) (fun r s' => r = .ok (.ret (.bool true)) ∧ OldK s₁.heap s'.heap ∧ s'.os = s₁.os ∧ AllBare s'.gens) s₁ := by
  have rv := vals_ints hi
  have zl : vs.toArray.size ≤ sizeLine := by rw [List.size_toArray, hi.length]; exact hl
  -- where at most the script is tracked, and no object of the text
  have main : ∀ H : Hp, (∀ b u, H b = some u → b = a ∧ u = .frz { cls := .type "list", data := .seq vs.toArray } (.lst (ns.map V.int)) ∧ K.lookup a = none) → SqL K H a (ns.map V.int) →
      codeAny (model P w) callerA (.call (.ref fa) ⟨[.ref a], []⟩) (fun r s' => r = .ok (.ret (.bool true)) ∧ OldK s₁.heap s'.heap ∧ s'.os = s₁.os ∧ AllBare s'.gens) s₁ := by
    intro H one hS
    have only : Only H := fun b => by
      cases q : H b with
      | none => exact .inl rfl
      | some u => exact .inr ⟨_, _, by rw [(one b u q).2.1]⟩
    have ok : HOk P w H s₁.heap := fun b u q => by
      obtain ⟨rfl, rfl, _⟩ := one b u q
      exact ⟨ha, by rw [List.length_map]; exact hl, vs, _, rv, ha⟩
    have nods : ∀ {b : Addr} {m : Str → Option Value}, s₁.heap.Ns b m → (hidT s₁.heap H).Ns b m := fun {b m} ⟨o, es, ep, e, d, r⟩ => by
      refine ⟨o, es, ep, hidT_get e ?_, d, r⟩
      cases q : H b with
      | none => rfl
      | some u =>
        obtain ⟨rfl, _, _⟩ := one b u q
        rw [ha] at e
        cases e
        cases d
    have kin : K.In (hidT s₁.heap H) := fun b o e => hidT_get (KX b o e) (by
      cases q : H b with
      | none => rfl
      | some u =>
        obtain ⟨rfl, _, z⟩ := one b u q
        rw [z] at e; cases e)
    have e0 : Env0 P w K mg (hidT s₁.heap H) callerA [] s₁ H :=
      ⟨rfl, ⟨kin, nods hns, ⟨mb, nods hb, hbb⟩, hlim.imp fun _ z => ⟨nods z.1, z.2⟩⟩, fun b o e => of_hidT e, Nat.le_of_eq (hidT_size _ _), trivial, (fun b z => absurd (show b ∈ ([] : List Addr) from z) (by simp)), ok, .of_eq hg⟩
    refine codeAny_mono ((F _ kin (nods hns)).run callerA [] s₁ H ⟨[.ref a], []⟩ [.ref a] [.ref a] _ _ hr rfl e0 (hbind s₁ (.ref a)) (.cons rfl .nil) (hsp H only hS)) fun r s' h => ?_
    match r, h with
    | .ok (.ret u), h =>
      obtain ⟨v, H', os, bare, un, ok', r', q⟩ := h
      obtain rfl : v = .bl true := q
      obtain rfl : u = Value.bool true := r'
      refine ⟨rfl, OldK.of_keep fun b o e => ?_, os, bare⟩
      cases q : H b with
      | none => exact un.keep b o e q (fun z => absurd (show b ∈ ([] : List Addr) from z) (by simp)) (by simp)
      | some u =>
        obtain ⟨rfl, rfl, _⟩ := one b u q
        have z := (ok' b _ (un.frzs b _ _ q)).1
        rw [ha] at e
        cases e
        exact z
    | .ok .next, h => exact h.elim
    | .ok .brk, h => exact h.elim
    | .ok .cont, h => exact h.elim
    | .error e, h => exact h.elim
  by_cases hk : ∃ o, K.lookup a = some o
  · obtain ⟨o, hk⟩ := hk
    have e := KX a o hk
    rw [ha] at e
    cases e
    exact main (fun _ => none) (fun b u z => nomatch (show (none : Option HO) = some u from z)) (.inr ⟨_, vs.toArray, _, hk, rfl, rfl, rfl, zl, by simpa using rv⟩)
  · have hkn : K.lookup a = none := by
      cases q : K.lookup a with
      | none => rfl
      | some o => exact absurd ⟨o, q⟩ hk
    refine main (fun b => if b = a then some (.frz { cls := .type "list", data := .seq vs.toArray } (.lst (ns.map V.int))) else none) (fun b u z => ?_) (.inl (.inr ⟨_, if_pos rfl⟩))
    by_cases hb : b = a
    · rw [if_pos hb] at z
      exact ⟨hb, (Option.some.inj z).symm, hkn⟩
    · rw [if_neg hb] at z; cases z
theorem walkG {l : PySem.W.OpenLaw} {n k : Nat} {q : Program} {loose : List Str} {XP : (Str → Option Value) → Heap → Prop} {YP : World → Heap → Prop} {d : DefRec} {x : Str}
    (hn : l.most = some n) (hn2 : n ≤ sizeLine) (hdf : d.params.defaults = []) (hr : Room k callerA)
    (F : ∀ (w : World) (mg : Str → Option Value) (fa : Addr) (h : Heap), YP w h → h.Ns mainGlobals mg → mg d.name = some (.ref fa) →
      ∃ (K : PySem.W.Frag) (fd : FuncData) (sp : Sp), K.In h ∧ (∀ (s : Shared) (u : Value), BindsTo s fd ⟨[u], []⟩ [(x, u)]) ∧
        (∀ (H : Hp) (a : Addr) (ns : List Int), ns.length ≤ n → Only H → SqL K H a (ns.map V.int) → sp [.ref a] H (fun v _ => v = .bl true) E0) ∧
        ∀ base : Heap, K.In base → base.Ns mainGlobals mg → FnG l.prog w K mg base k fa fd [x] sp) :
    PySem.W.WalkO q loose XP YP l.row.toRowW d [] (fun f vs => PySem.call f vs) :=
  Att.attach_call hn hdf fun w s₀ s₁ mg mb fa o pm cd doc a vs ns G Y ho hd hcd hmg hobj hints hlen hg => by
    obtain ⟨K, fd, sp, KX, hb, hsp, hF⟩ := F w mg fa _ Y G.T.g hmg
    exact call_lawG KX G.T.g G.T.b G.T.builtins G.T.nolimit hg hobj hints (Nat.le_trans hlen hn2) hr hF hb fun H hO hS => hsp H a ns hlen hO hS
end Wr
-- WrStep
/-! [a, b][::k], k one or minus one -/
namespace Wr
open PySem L2 PySem.Spec PyProof.Rows
section
variable {X : Cx} {e k : Expr} {te tk : TE} {p2 pos : Pos}
def tStep (K : PySem.W.Frag) (te tk : TE) : TE := fun σ H Q => te σ H fun x H1 => tk σ H1 fun c H2 => ∃ (a : Addr) (y z : V), x = .ref a ∧ SqL K H2 a [y, z] ∧
  ((c = .int 1 ∧ ∀ p, H2 p = none → Q (.ref p) (upd H2 p (.lst [y, z]))) ∨ (c = .int (-1) ∧ ∀ p, H2 p = none → Q (.ref p) (upd H2 p (.lst [z, y]))))
theorem pick_one (u v : Value) : slicePick #[u, v] none none (some 1) = #[u, v] := by
  have e : sliceRange (sliceBounds none none (some 1) 2).1 (sliceBounds none none (some 1) 2).2.1 (sliceBounds none none (some 1) 2).2.2 = [0, 1] := by decide
  show ((sliceRange (sliceBounds none none (some 1) 2).1 (sliceBounds none none (some 1) 2).2.1 (sliceBounds none none (some 1) 2).2.2).filterMap (#[u, v][·]?)).toArray = _
  rw [e]
  rfl
theorem pick_back (u v : Value) : slicePick #[u, v] none none (some (-1)) = #[v, u] := by
  have e : sliceRange (sliceBounds none none (some (-1)) 2).1 (sliceBounds none none (some (-1)) 2).2.1 (sliceBounds none none (some (-1)) 2).2.2 = [1, 0] := by decide
  show ((sliceRange (sliceBounds none none (some (-1)) 2).1 (sliceBounds none none (some (-1)) 2).2.1 (sliceBounds none none (some (-1)) 2).2.2).filterMap (#[u, v][·]?)).toArray = _
  rw [e]
  rfl
theorem pe_step (he : PE X e te) (hk : PE X k tk) : PE X (.Subscript e (.Slice none none (some k) p2) pos) (tStep X.K te tk) := by
  refine ⟨fun pins s σ H Q I h => ?_⟩
  refine Subscript_ (thn (he.run pins s σ H _ I h) fun v s1 ⟨x, H1, I1, r1, q1⟩ => ?_)
  refine wpAny_Slice ?_
  rw [evalPart_none]
  refine wpAny_pure (wpAny_pure ?_)
  rw [evalPart_some]
  refine thn (hk.run pins s1 σ H1 _ I1 q1) fun w s2 ⟨c, H2, I2, r2, a, y, z, ex, hx, q2⟩ => ?_
  subst ex
  obtain rfl : v = Value.ref a := r1
  have I3 : Inv X pins σ H2 { s2 with heap := s2.heap.push { cls := .type "slice", data := .fields #[.none, .none, w] } } := I2.kept (t' := s2.toks) fun b ob q => Heap.get?_push_of_some _ q
  obtain ⟨its, r, ht, hz⟩ := I3.list hx
  obtain ⟨u1, u2, rfl, g1, g2⟩ := vals2 r
  have fin : ∀ (i : Int) (out : List V) (outs : Array Value) (t : Tok), w = .int i t → i ≠ 0 → slicePick #[u1, u2] none none (some i) = outs → Vals out outs.toList → out.length ≤ 2 → (∀ p, H2 p = none → Q (.ref p) (upd H2 p (.lst out))) →
      wpAny (model X.prog X.w) X.A (getItem (.ref a) (.ref s2.heap.objs.size)) (EP X pins σ Q) X.xe { s2 with heap := s2.heap.push { cls := .type "slice", data := .fields #[.none, .none, w] } } := by
    intro i out outs t ew hi ep rv hl q
    subst ew
    refine wpAny_getItem_list_slice ht.isList (Heap.IsSliceOf.new ..) .none .none (.int i t) (fun z => hi (by injection z)) ?_ (by rw [List.size_toArray, sizeLine_eq]; exact (by decide : 2 ≤ 16777216))
    have ep' : slicePick [u1, u2].toArray none none (some i) = outs := ep
    rw [ep']
    refine ⟨.ref _, _, I3.laid (t' := s2.toks) (o := .lst out) (fun b ob q => Heap.get?_push_of_some _ q) (Nat.le_refl _) ?_, rfl, q _ (I3.hok.fresh (Nat.le_refl _))⟩
    exact ⟨by rw [sizeLine_eq]; omega, outs.toList, 0, rv, by rw [Array.toArray_toList]; exact Heap.get?_push_size _ rfl⟩
  have hget : wpAny (model X.prog X.w) X.A (getItem (.ref a) (.ref s2.heap.objs.size)) (EP X pins σ Q) X.xe { s2 with heap := s2.heap.push { cls := .type "slice", data := .fields #[.none, .none, w] } } := by
    rcases q2 with ⟨ec, q⟩ | ⟨ec, q⟩
    · subst ec
      obtain ⟨t, rfl⟩ := r2
      exact fin 1 _ _ t rfl (by decide) (pick_one u1 u2) (.cons g1 (.cons g2 .nil)) (Nat.le_refl _) q
    · subst ec
      obtain ⟨t, rfl⟩ := r2
      exact fin (-1) _ _ t rfl (by decide) (pick_back u1 u2) (.cons g2 (.cons g1 .nil)) (Nat.le_refl _) q
  show wpAny (model X.prog X.w) X.A (subscriptTail e (.Slice none none (some k) p2) (.ref a) (.ref s2.heap.objs.size)) (EP X pins σ Q) X.xe { s2 with heap := s2.heap.push { cls := .type "slice", data := .fields #[.none, .none, w] } }
  exact tail_any (ops := [.ref a, .ref s2.heap.objs.size]) ht.isList.typeIs slot_list_getitem.lookup hget (by with_unfolding_all rfl)
end
end Wr
-- WrNet
/-! series-parallel nets, by values: parallel merge, series merge, progress -/
namespace Wr
/-- two operations, each in any order and grouping -/
structure Alg (α : Type) where
  ser : α → α → α
  par : α → α → α
  serA : ∀ a b c, ser (ser a b) c = ser a (ser b c)
  serC : ∀ a b, ser a b = ser b a
  parA : ∀ a b c, par (par a b) c = par a (par b c)
  parC : ∀ a b, par a b = par b a
section
variable {P α : Type} {G : Alg α}
/-- the edges E (in any order) between a and b over the middles M, of the value v -/
inductive SPN (G : Alg α) : P → P → List P → List (P × P × α) → α → Prop
  | edge {a b : P} {v : α} : a ≠ b → SPN G a b [] [(a, b, v)] v
  | flip {a b : P} {v : α} : a ≠ b → SPN G a b [] [(b, a, v)] v
  | ser {a b m : P} {M1 M2 : List P} {E1 E2 : List (P × P × α)} {v1 v2 : α} : SPN G a m M1 E1 v1 → SPN G m b M2 E2 v2 → (a :: b :: m :: (M1 ++ M2)).Nodup → SPN G a b (m :: (M1 ++ M2)) (E1 ++ E2) (G.ser v1 v2)
  | par {a b : P} {M1 M2 : List P} {E1 E2 : List (P × P × α)} {v1 v2 : α} : SPN G a b M1 E1 v1 → SPN G a b M2 E2 v2 → (a :: b :: (M1 ++ M2)).Nodup → SPN G a b (M1 ++ M2) (E1 ++ E2) (G.par v1 v2)
  | perm {a b : P} {M M' : List P} {E E' : List (P × P × α)} {v : α} : SPN G a b M E v → M.Perm M' → E.Perm E' → SPN G a b M' E' v
abbrev Ends (e : P × P × α) (u w : P) : Prop := (e.1 = u ∧ e.2.1 = w) ∨ (e.1 = w ∧ e.2.1 = u)
abbrev Touches (e : P × P × α) (p : P) : Prop := e.1 = p ∨ e.2.1 = p

theorem split1 {β : Type} {A B R : List β} {e : β} (h : (A ++ B).Perm (e :: R)) : (∃ A', A.Perm (e :: A') ∧ R.Perm (A' ++ B)) ∨ (∃ B', B.Perm (e :: B') ∧ R.Perm (A ++ B')) := by
  have hm : e ∈ A ++ B := h.mem_iff.mpr (List.mem_cons_self ..)
  rcases List.mem_append.mp hm with hm | hm
  · obtain ⟨s, t, rfl⟩ := List.append_of_mem hm
    refine .inl ⟨s ++ t, List.perm_middle, ?_⟩
    have h2 : (e :: ((s ++ t) ++ B)).Perm (e :: R) := by
      refine List.Perm.trans ?_ h
      have := (List.perm_middle (a := e) (l₁ := s) (l₂ := t)).symm.append_right B
      simpa using this
    exact h2.cons_inv.symm
  · obtain ⟨s, t, rfl⟩ := List.append_of_mem hm
    refine .inr ⟨s ++ t, List.perm_middle, ?_⟩
    have h2 : (e :: (A ++ (s ++ t))).Perm (e :: R) := by
      refine List.Perm.trans ?_ h
      have h3 : (A ++ s ++ e :: t).Perm (e :: (A ++ s ++ t)) := List.perm_middle
      have h4 := h3.symm
      simpa using h4
    exact h2.cons_inv.symm
theorem split2 {β : Type} {A B R : List β} {e f : β} (h : (A ++ B).Perm (e :: f :: R)) :
    (∃ A', A.Perm (e :: f :: A') ∧ R.Perm (A' ++ B)) ∨ (∃ B', B.Perm (e :: f :: B') ∧ R.Perm (A ++ B')) ∨ (∃ A' B', A.Perm (e :: A') ∧ B.Perm (f :: B') ∧ R.Perm (A' ++ B')) ∨ (∃ A' B', A.Perm (f :: A') ∧ B.Perm (e :: B') ∧ R.Perm (A' ++ B')) := by
  rcases split1 h with ⟨A', h1, h2⟩ | ⟨B', h1, h2⟩
  · rcases split1 h2.symm with ⟨A'', h3, h4⟩ | ⟨B'', h3, h4⟩
    · exact .inl ⟨A'', h1.trans (h3.cons e), h4⟩
    · exact .inr (.inr (.inl ⟨A', B'', h1, h3, h4⟩))
  · rcases split1 h2.symm with ⟨A'', h3, h4⟩ | ⟨B'', h3, h4⟩
    · exact .inr (.inr (.inr ⟨A'', B', h3, h1, h4⟩))
    · exact .inr (.inl ⟨B'', h1.trans (h3.cons e), h4⟩)
theorem one_perm {β : Type} {x e : β} {R : List β} (h : [x].Perm (e :: R)) : e = x ∧ R = [] := by
  have hl := h.length_eq
  have hR : R = [] := List.length_eq_zero_iff.mp (by simpa using hl.symm)
  subst hR
  have : e ∈ [x] := h.mem_iff.mpr (List.mem_cons_self ..)
  exact ⟨by simpa using this, rfl⟩

namespace SPN
variable {a b : P} {M : List P} {E : List (P × P × α)} {v : α}
theorem nodup (h : SPN G a b M E v) : (a :: b :: M).Nodup := by
  induction h with
  | edge h => simpa using h
  | flip h => simpa using h
  | ser _ _ h _ _ => exact h
  | par _ _ h _ _ => exact h
  | perm _ p _ ih => exact ((p.cons _).cons _).nodup_iff.mp ih
theorem ends (h : SPN G a b M E v) : ∀ e ∈ E, e.1 ≠ e.2.1 ∧ e.1 ∈ a :: b :: M ∧ e.2.1 ∈ a :: b :: M := by
  induction h with
  | edge h => intro e he; rw [List.mem_singleton.mp he]; exact ⟨h, by simp, by simp⟩
  | flip h => intro e he; rw [List.mem_singleton.mp he]; exact ⟨Ne.symm h, by simp, by simp⟩
  | ser _ _ h ih1 ih2 =>
    intro e he
    rcases List.mem_append.mp he with he | he
    · obtain ⟨h1, h2, h3⟩ := ih1 e he
      refine ⟨h1, ?_, ?_⟩
      · simp at h2 ⊢; grind
      · simp at h3 ⊢; grind
    · obtain ⟨h1, h2, h3⟩ := ih2 e he
      refine ⟨h1, ?_, ?_⟩
      · simp at h2 ⊢; grind
      · simp at h3 ⊢; grind
  | par _ _ h ih1 ih2 =>
    intro e he
    rcases List.mem_append.mp he with he | he
    · obtain ⟨h1, h2, h3⟩ := ih1 e he
      refine ⟨h1, ?_, ?_⟩
      · simp at h2 ⊢; grind
      · simp at h3 ⊢; grind
    · obtain ⟨h1, h2, h3⟩ := ih2 e he
      refine ⟨h1, ?_, ?_⟩
      · simp at h2 ⊢; grind
      · simp at h3 ⊢; grind
  | perm _ p q ih =>
    intro e he
    obtain ⟨h1, h2, h3⟩ := ih e (q.mem_iff.mpr he)
    exact ⟨h1, ((p.cons _).cons _).mem_iff.mp h2, ((p.cons _).cons _).mem_iff.mp h3⟩
theorem touch (h : SPN G a b M E v) : ∀ p ∈ a :: b :: M, ∃ e ∈ E, Touches e p := by
  induction h with
  | edge h => intro p hp; refine ⟨_, List.mem_singleton.mpr rfl, ?_⟩; simp at hp; grind
  | flip h => intro p hp; refine ⟨_, List.mem_singleton.mpr rfl, ?_⟩; simp at hp; grind
  | ser _ _ h ih1 ih2 =>
    intro p hp
    simp only [List.mem_cons, List.mem_append] at hp ih1 ih2 ⊢
    grind
  | par _ _ h ih1 ih2 =>
    intro p hp
    simp only [List.mem_cons, List.mem_append] at hp ih1 ih2 ⊢
    grind
  | perm _ p q ih =>
    intro x hx
    obtain ⟨e, he, ht⟩ := ih x (((p.cons _).cons _).mem_iff.mpr hx)
    exact ⟨e, q.mem_iff.mp he, ht⟩
theorem ne (h : SPN G a b M E v) : E ≠ [] := by
  intro z
  obtain ⟨e, he, _⟩ := h.touch a (List.mem_cons_self ..)
  rw [z] at he
  cases he
theorem rev (h : SPN G a b M E v) : SPN G b a M E v := by
  induction h with
  | edge h => exact .flip (Ne.symm h)
  | flip h => exact .edge (Ne.symm h)
  | @ser a b m M1 M2 E1 E2 v1 v2 _ _ h ih1 ih2 =>
    rw [G.serC]
    refine .perm (.ser ih2 ih1 ?_) (List.perm_append_comm.cons m) List.perm_append_comm
    refine (List.Perm.nodup_iff ?_).mp h
    exact (List.Perm.swap _ _ _).trans (((List.perm_append_comm.cons m).cons _).cons _)
  | @par a b M1 M2 E1 E2 v1 v2 _ _ h ih1 ih2 =>
    refine .par ih1 ih2 ?_
    exact (List.Perm.nodup_iff (List.Perm.swap _ _ _)).mp h
  | perm _ p q ih => exact .perm ih p q

/-- an edge between the ends themselves stands beside the rest -/
theorem top (h : SPN G a b M E v) : ∀ e R, E.Perm (e :: R) → Ends e a b → (R = [] ∧ M = [] ∧ v = e.2.2) ∨ ∃ v', SPN G a b M R v' ∧ v = G.par e.2.2 v' := by
  induction h with
  | edge h => intro e R hp he; obtain ⟨rfl, rfl⟩ := one_perm hp; exact .inl ⟨rfl, rfl, rfl⟩
  | flip h => intro e R hp he; obtain ⟨rfl, rfl⟩ := one_perm hp; exact .inl ⟨rfl, rfl, rfl⟩
  | @ser a b m M1 M2 E1 E2 v1 v2 h1 h2 nd _ _ =>
    intro e R hp he
    exfalso
    have hm : e ∈ E1 ++ E2 := hp.mem_iff.mpr (List.mem_cons_self ..)
    rcases List.mem_append.mp hm with hm | hm
    · obtain ⟨_, q1, q2⟩ := h1.ends e hm
      simp at q1 q2 nd
      grind
    · obtain ⟨_, q1, q2⟩ := h2.ends e hm
      simp at q1 q2 nd
      grind
  | @par a b M1 M2 E1 E2 v1 v2 h1 h2 nd ih1 ih2 =>
    intro e R hp he
    have nd2 : (a :: b :: (M2 ++ M1)).Nodup := (List.Perm.nodup_iff ((List.perm_append_comm.cons _).cons _)).mp nd
    rcases split1 hp with ⟨A, p1, p2⟩ | ⟨B, p1, p2⟩
    · right
      rcases ih1 e A p1 he with ⟨rfl, rfl, rfl⟩ | ⟨v', q1, rfl⟩
      · exact ⟨v2, .perm h2 (List.Perm.refl _) (by simpa using p2.symm), rfl⟩
      · exact ⟨G.par v' v2, .perm (.par q1 h2 nd) (List.Perm.refl _) p2.symm, G.parA _ _ _⟩
    · right
      rcases ih2 e B p1 he with ⟨rfl, rfl, rfl⟩ | ⟨v', q1, rfl⟩
      · exact ⟨v1, .perm h1 (by simp) (by simpa using p2.symm), G.parC _ _⟩
      · refine ⟨G.par v1 v', .perm (.par h1 q1 nd) (List.Perm.refl _) p2.symm, ?_⟩
        rw [← G.parA, G.parC v1, G.parA]
  | perm _ p q ih =>
    intro e R hp he
    rcases ih e R (q.trans hp) he with ⟨r1, r2, r3⟩ | ⟨v', q1, q2⟩
    · subst r2
      exact .inl ⟨r1, List.Perm.eq_nil p.symm, r3⟩
    · exact .inr ⟨v', .perm q1 p (List.Perm.refl _), q2⟩
theorem beside {x y z : P} {w : α} (hxy : Ends (x, y, w) a b) (hab : a ≠ b) : SPN G a b [] [(x, y, w)] w := by
  rcases hxy with ⟨h1, h2⟩ | ⟨h1, h2⟩
  · have h1 : x = a := h1
    have h2 : y = b := h2
    subst h1 h2
    exact .edge hab
  · have h1 : x = b := h1
    have h2 : y = a := h2
    subst h1 h2
    exact .flip hab
/-- two edges between the same posts may be one -/
theorem merge (h : SPN G a b M E v) : ∀ e f R, E.Perm (e :: f :: R) → Ends f e.1 e.2.1 → ∀ x y, Ends (x, y, G.par e.2.2 f.2.2) e.1 e.2.1 → SPN G a b M ((x, y, G.par e.2.2 f.2.2) :: R) v := by
  induction h with
  | edge h => intro e f R hp; exact absurd hp.length_eq (by simp)
  | flip h => intro e f R hp; exact absurd hp.length_eq (by simp)
  | @ser a b m M1 M2 E1 E2 v1 v2 h1 h2 nd ih1 ih2 =>
    intro e f R hp hef x y hxy
    have cross : ∀ e ∈ E1, ∀ f ∈ E2, Ends f e.1 e.2.1 → False := fun e he f hf hef => by
      obtain ⟨q0, q1, q2⟩ := h1.ends e he
      obtain ⟨q3, q4, q5⟩ := h2.ends f hf
      simp at q1 q2 q4 q5 nd
      grind
    rcases split2 hp with ⟨A, p1, p2⟩ | ⟨B, p1, p2⟩ | ⟨A, B, p1, p2, p3⟩ | ⟨A, B, p1, p2, p3⟩
    · exact .perm (.ser (ih1 e f A p1 hef x y hxy) h2 nd) (List.Perm.refl _) (p2.symm.cons _)
    · refine .perm (.ser h1 (ih2 e f B p1 hef x y hxy) nd) (List.Perm.refl _) (List.perm_middle.trans (p2.symm.cons _))
    · exact (cross e (p1.mem_iff.mpr (by simp)) f (p2.mem_iff.mpr (by simp)) hef).elim
    · refine (cross f (p1.mem_iff.mpr (by simp)) e (p2.mem_iff.mpr (by simp)) ?_).elim
      grind
  | @par a b M1 M2 E1 E2 v1 v2 h1 h2 nd ih1 ih2 =>
    intro e f R hp hef x y hxy
    have hab : a ≠ b := by simp at nd; grind
    -- one in each: both between the ends
    have cross : ∀ e ∈ E1, ∀ f ∈ E2, Ends f e.1 e.2.1 → Ends e a b ∧ Ends f a b := fun e he f hf hef => by
      obtain ⟨q0, q1, q2⟩ := h1.ends e he
      obtain ⟨q3, q4, q5⟩ := h2.ends f hf
      simp at q1 q2 q4 q5 nd
      constructor <;> grind
    have two : ∀ (e f : P × P × α) (A B : List (P × P × α)), E1.Perm (e :: A) → E2.Perm (f :: B) → Ends f e.1 e.2.1 → ∀ x y, Ends (x, y, G.par e.2.2 f.2.2) e.1 e.2.1 → SPN G a b (M1 ++ M2) ((x, y, G.par e.2.2 f.2.2) :: (A ++ B)) (G.par v1 v2) := by
      intro e f A B p1 p2 hef x y hxy
      obtain ⟨c1, c2⟩ := cross e (p1.mem_iff.mpr (by simp)) f (p2.mem_iff.mpr (by simp)) hef
      have hab' : Ends (x, y, G.par e.2.2 f.2.2) a b := by grind
      have one : SPN G a b [] [(x, y, G.par e.2.2 f.2.2)] (G.par e.2.2 f.2.2) := beside (z := a) hab' hab
      rcases h1.top e A p1 c1 with ⟨rfl, rfl, rfl⟩ | ⟨v1', q1, rfl⟩
      · rcases h2.top f B p2 c2 with ⟨rfl, rfl, rfl⟩ | ⟨v2', q2, rfl⟩
        · exact one
        · rw [← G.parA]
          exact .par one q2 (by simpa using nd)
      · rcases h2.top f B p2 c2 with ⟨rfl, rfl, rfl⟩ | ⟨v2', q2, rfl⟩
        · have e1 : G.par (G.par e.2.2 v1') f.2.2 = G.par (G.par e.2.2 f.2.2) v1' := by rw [G.parA, G.parC v1', ← G.parA]
          rw [e1]
          refine .perm (.par one q1 (by simpa using nd)) (by simp) (by simp)
        · have e1 : G.par (G.par e.2.2 v1') (G.par f.2.2 v2') = G.par (G.par e.2.2 f.2.2) (G.par v1' v2') := by
            rw [G.parA, ← G.parA v1', G.parC v1', G.parA f.2.2, ← G.parA]
          rw [e1]
          exact .par (M1 := []) one (.par q1 q2 nd) (by simpa using nd)
    rcases split2 hp with ⟨A, p1, p2⟩ | ⟨B, p1, p2⟩ | ⟨A, B, p1, p2, p3⟩ | ⟨A, B, p1, p2, p3⟩
    · exact .perm (.par (ih1 e f A p1 hef x y hxy) h2 nd) (List.Perm.refl _) (p2.symm.cons _)
    · refine .perm (.par h1 (ih2 e f B p1 hef x y hxy) nd) (List.Perm.refl _) (List.perm_middle.trans (p2.symm.cons _))
    · exact .perm (two e f A B p1 p2 hef x y hxy) (List.Perm.refl _) (p3.symm.cons _)
    · have := two f e A B p1 p2 (by grind) x y (by grind)
      rw [G.parC f.2.2] at this
      exact .perm this (List.Perm.refl _) (p3.symm.cons _)
  | perm _ p q ih =>
    intro e f R hp hef x y hxy
    exact .perm (ih e f R (q.trans hp) hef x y hxy) p (List.Perm.refl _)

theorem off {p : P} (h : SPN G a b M E v) (hp : p ∉ a :: b :: M) : ∀ e ∈ E, ¬ Touches e p := fun e he ht => by
  obtain ⟨_, q1, q2⟩ := h.ends e he
  rcases ht with ht | ht
  · exact hp (ht ▸ q1)
  · exact hp (ht ▸ q2)
/-- one edge at the end b: the rest ends at its other post -/
theorem endp (h : SPN G a b M E v) : ∀ e R, E.Perm (e :: R) → Touches e b → (∀ g ∈ R, ¬ Touches g b) → (R = [] ∧ M = [] ∧ v = e.2.2 ∧ Ends e a b) ∨ ∃ o M' v', M.Perm (o :: M') ∧ Ends e o b ∧ SPN G a o M' R v' ∧ v = G.ser v' e.2.2 := by
  induction h with
  | edge h => intro e R hp he _; obtain ⟨rfl, rfl⟩ := one_perm hp; exact .inl ⟨rfl, rfl, rfl, .inl ⟨rfl, rfl⟩⟩
  | flip h => intro e R hp he _; obtain ⟨rfl, rfl⟩ := one_perm hp; exact .inl ⟨rfl, rfl, rfl, .inr ⟨rfl, rfl⟩⟩
  | @ser a b m M1 M2 E1 E2 v1 v2 h1 h2 nd _ ih2 =>
    intro e R hp he hR
    have hb : b ∉ a :: m :: M1 := by simp at nd ⊢; grind
    rcases split1 hp with ⟨A, p1, p2⟩ | ⟨B, p1, p2⟩
    · exact (h1.off hb e (p1.mem_iff.mpr (by simp)) he).elim
    · right
      rcases ih2 e B p1 he (fun g hg => hR g (p2.mem_iff.mpr (List.mem_append_right _ hg))) with ⟨rfl, rfl, rfl, q⟩ | ⟨o, M', v', q1, q2, q3, rfl⟩
      · exact ⟨m, M1, v1, by simp, q, .perm h1 (List.Perm.refl _) (by simpa using p2.symm), rfl⟩
      · have q4 : (m :: (M1 ++ M2)).Perm (o :: m :: (M1 ++ M')) := by
          have z1 : (M1 ++ M2).Perm (o :: (M1 ++ M')) := (q1.append_left M1).trans List.perm_middle
          exact (z1.cons m).trans (List.Perm.swap _ _ _)
        refine ⟨o, m :: (M1 ++ M'), G.ser v1 v', q4, q2, .perm (.ser h1 q3 ?_) (List.Perm.refl _) p2.symm, (G.serA _ _ _).symm⟩
        have nd2 := ((q4.cons b).cons a).nodup_iff.mp nd
        simp at nd2 ⊢
        grind
  | @par a b M1 M2 E1 E2 v1 v2 h1 h2 nd _ _ =>
    intro e R hp he hR
    exfalso
    rcases split1 hp with ⟨A, p1, p2⟩ | ⟨B, p1, p2⟩
    · obtain ⟨f, hf, ht⟩ := h2.touch b (by simp)
      exact hR f (p2.mem_iff.mpr (List.mem_append_right _ hf)) ht
    · obtain ⟨f, hf, ht⟩ := h1.touch b (by simp)
      exact hR f (p2.mem_iff.mpr (List.mem_append_left _ hf)) ht
  | perm _ p q ih =>
    intro e R hp he hR
    rcases ih e R (q.trans hp) he hR with ⟨r1, r2, r3⟩ | ⟨o, M', v', q1, q2⟩
    · subst r2
      exact .inl ⟨r1, List.Perm.eq_nil p.symm, r3⟩
    · exact .inr ⟨o, M', v', p.symm.trans q1, q2⟩
/-- a middle with two edges may be left out -/
theorem chain (h : SPN G a b M E v) : ∀ m M' e f R, M.Perm (m :: M') → E.Perm (e :: f :: R) → ∀ o1 o2, Ends e m o1 → Ends f m o2 → o1 ≠ o2 → (∀ g ∈ R, ¬ Touches g m) → ∀ x y, Ends (x, y, G.ser e.2.2 f.2.2) o1 o2 →
    SPN G a b M' ((x, y, G.ser e.2.2 f.2.2) :: R) v := by
  induction h with
  | edge h => intro m M' e f R hM; exact absurd hM.length_eq (by simp)
  | flip h => intro m M' e f R hM; exact absurd hM.length_eq (by simp)
  | @ser a b m0 M1 M2 E1 E2 v1 v2 h1 h2 nd ih1 ih2 =>
    intro m M' e f R hM hp o1 o2 he hf hne hR x y hxy
    have te : Touches e m := by grind
    have tf : Touches f m := by grind
    have hm : m ∈ m0 :: (M1 ++ M2) := hM.mem_iff.mpr (by simp)
    by_cases hm0 : m = m0
    · subst hm0
      have hM' : (M1 ++ M2).Perm M' := hM.cons_inv
      have two : ∀ (e f : P × P × α) (A B : List (P × P × α)) (o1 o2 : P), E1.Perm (e :: A) → E2.Perm (f :: B) → (∀ g ∈ A ++ B, ¬ Touches g m) → Ends e m o1 → Ends f m o2 → ∀ x y, Ends (x, y, G.ser e.2.2 f.2.2) o1 o2 → SPN G a b (M1 ++ M2) ((x, y, G.ser e.2.2 f.2.2) :: (A ++ B)) (G.ser v1 v2) := by
        intro e f A B o1 o2 p1 p2 hAB he hf x y hxy
        have c1 := h1.endp e A p1 (by grind) (fun g hg => hAB g (List.mem_append_left _ hg))
        have c2 := h2.rev.endp f B p2 (by grind) (fun g hg => hAB g (List.mem_append_right _ hg))
        rcases c1 with ⟨rfl, rfl, rfl, q1⟩ | ⟨o, N1, w1, q1, q2, q3, rfl⟩
        · have eo1 : o1 = a := by simp at nd; grind
          subst eo1
          rcases c2 with ⟨rfl, rfl, rfl, q4⟩ | ⟨o', N2, w2, q4, q5, q6, rfl⟩
          · have eo2 : o2 = b := by simp at nd; grind
            subst eo2
            exact beside (z := o1) hxy (by simp at nd; grind)
          · have eo2 : o2 = o' := by
              have := q4.mem_iff.mpr (List.mem_cons_self ..)
              simp at nd; grind
            subst eo2
            have nd2 : (o1 :: b :: m :: ([] ++ (o2 :: N2))).Nodup := (List.Perm.nodup_iff (((q4.cons m).cons b).cons o1)).mp nd
            have e1 : G.ser e.2.2 (G.ser w2 f.2.2) = G.ser (G.ser e.2.2 f.2.2) w2 := by rw [G.serC w2, ← G.serA]
            rw [e1]
            refine .perm (.ser (beside (z := o1) hxy (by simp at nd2; grind)) q6.rev ?_) q4.symm (List.Perm.refl _)
            simp at nd2 ⊢
            grind
        · have eo1 : o1 = o := by
            have := q1.mem_iff.mpr (List.mem_cons_self ..)
            simp at nd; grind
          subst eo1
          rcases c2 with ⟨rfl, rfl, rfl, q4⟩ | ⟨o', N2, w2, q4, q5, q6, rfl⟩
          · have eo2 : o2 = b := by simp at nd; grind
            subst eo2
            have nd2 : (a :: o2 :: m :: (o1 :: N1 ++ [])).Nodup := (List.Perm.nodup_iff ((((q1.append_right []).cons m).cons o2).cons a)).mp nd
            have e1 : G.ser (G.ser w1 e.2.2) f.2.2 = G.ser w1 (G.ser e.2.2 f.2.2) := G.serA _ _ _
            rw [e1]
            refine .perm (.ser q3 (beside (z := o1) hxy (by simp at nd2; grind)) ?_) (by simpa using q1.symm) (by simp)
            simp at nd2 ⊢
            grind
          · have eo2 : o2 = o' := by
              have := q4.mem_iff.mpr (List.mem_cons_self ..)
              simp at nd; grind
            subst eo2
            have z1 : (M1 ++ M2).Perm (o1 :: (N1 ++ (o2 :: N2))) := (q1.append q4)
            have nd2 : (a :: b :: m :: o1 :: (N1 ++ (o2 :: N2))).Nodup := (List.Perm.nodup_iff (((z1.cons m).cons b).cons a)).mp nd
            have e1 : G.ser (G.ser w1 e.2.2) (G.ser w2 f.2.2) = G.ser w1 (G.ser (G.ser e.2.2 f.2.2) w2) := by rw [G.serA, G.serC w2, ← G.serA e.2.2]
            rw [e1]
            have s1 : SPN G o1 b (o2 :: ([] ++ N2)) ([(x, y, G.ser e.2.2 f.2.2)] ++ B) (G.ser (G.ser e.2.2 f.2.2) w2) := .ser (beside (z := o1) hxy (by simp at nd2; grind)) q6.rev (by simp at nd2 ⊢; grind)
            refine .perm (.ser q3 s1 (by simp at nd2 ⊢; grind)) z1.symm (by simp)
      rcases split2 hp with ⟨A, p1, p2⟩ | ⟨B, p1, p2⟩ | ⟨A, B, p1, p2, p3⟩ | ⟨A, B, p1, p2, p3⟩
      · obtain ⟨g, hg, ht⟩ := h2.touch m (by simp)
        exact (hR g (p2.mem_iff.mpr (List.mem_append_right _ hg)) ht).elim
      · obtain ⟨g, hg, ht⟩ := h1.touch m (by simp)
        exact (hR g (p2.mem_iff.mpr (List.mem_append_left _ hg)) ht).elim
      · exact .perm (two e f A B o1 o2 p1 p2 (fun g hg => hR g (p3.mem_iff.mpr hg)) he hf x y hxy) hM' (p3.symm.cons _)
      · have := two f e A B o2 o1 p1 p2 (fun g hg => hR g (p3.mem_iff.mpr hg)) hf he x y (by grind)
        rw [G.serC f.2.2] at this
        exact .perm this hM' (p3.symm.cons _)
    · have hm1 : m ∈ M1 ∨ m ∈ M2 := by simpa [hm0] using hm
      rcases hm1 with hm1 | hm1
      · have hoff : m ∉ m0 :: b :: M2 := by simp at nd ⊢; grind
        obtain ⟨s, t, rfl⟩ := List.append_of_mem hm1
        have hN : (s ++ m :: t).Perm (m :: (s ++ t)) := List.perm_middle
        have hM2 : (m0 :: ((s ++ t) ++ M2)).Perm M' := by
          have z : (m :: m0 :: ((s ++ t) ++ M2)).Perm (m :: M') := by
            refine List.Perm.trans ?_ hM
            exact (List.Perm.swap _ _ _).trans ((hN.symm.append_right M2).cons m0)
          exact z.cons_inv
        have nd2 : (a :: b :: m0 :: ((s ++ t) ++ M2)).Nodup := by simp at nd ⊢; grind
        rcases split2 hp with ⟨A, p1, p2⟩ | ⟨B, p1, p2⟩ | ⟨A, B, p1, p2, p3⟩ | ⟨A, B, p1, p2, p3⟩
        · exact .perm (.ser (ih1 m (s ++ t) e f A hN p1 o1 o2 he hf hne (fun g hg => hR g (p2.mem_iff.mpr (List.mem_append_left _ hg))) x y hxy) h2 nd2) hM2 (p2.symm.cons _)
        · exact (h2.off hoff e (p1.mem_iff.mpr (by simp)) te).elim
        · exact (h2.off hoff f (p2.mem_iff.mpr (by simp)) tf).elim
        · exact (h2.off hoff e (p2.mem_iff.mpr (by simp)) te).elim
      · have hoff : m ∉ a :: m0 :: M1 := by simp at nd ⊢; grind
        obtain ⟨s, t, rfl⟩ := List.append_of_mem hm1
        have hN : (s ++ m :: t).Perm (m :: (s ++ t)) := List.perm_middle
        have hM2 : (m0 :: (M1 ++ (s ++ t))).Perm M' := by
          have z : (m :: m0 :: (M1 ++ (s ++ t))).Perm (m :: M') := by
            refine List.Perm.trans ?_ hM
            refine (List.Perm.swap _ _ _).trans (List.Perm.cons m0 ?_)
            exact (List.perm_middle.symm).trans (hN.symm.append_left M1)
          exact z.cons_inv
        have nd2 : (a :: b :: m0 :: (M1 ++ (s ++ t))).Nodup := by simp at nd ⊢; grind
        rcases split2 hp with ⟨A, p1, p2⟩ | ⟨B, p1, p2⟩ | ⟨A, B, p1, p2, p3⟩ | ⟨A, B, p1, p2, p3⟩
        · exact (h1.off hoff e (p1.mem_iff.mpr (by simp)) te).elim
        · refine .perm (.ser h1 (ih2 m (s ++ t) e f B hN p1 o1 o2 he hf hne (fun g hg => hR g (p2.mem_iff.mpr (List.mem_append_right _ hg))) x y hxy) nd2) hM2 (List.perm_middle.trans (p2.symm.cons _))
        · exact (h1.off hoff e (p1.mem_iff.mpr (by simp)) te).elim
        · exact (h1.off hoff f (p1.mem_iff.mpr (by simp)) tf).elim
  | @par a b M1 M2 E1 E2 v1 v2 h1 h2 nd ih1 ih2 =>
    intro m M' e f R hM hp o1 o2 he hf hne hR x y hxy
    have te : Touches e m := by grind
    have tf : Touches f m := by grind
    have hm : m ∈ M1 ++ M2 := hM.mem_iff.mpr (by simp)
    rcases List.mem_append.mp hm with hm1 | hm1
    · have hoff : m ∉ a :: b :: M2 := by simp at nd ⊢; grind
      obtain ⟨s, t, rfl⟩ := List.append_of_mem hm1
      have hN : (s ++ m :: t).Perm (m :: (s ++ t)) := List.perm_middle
      have hM2 : ((s ++ t) ++ M2).Perm M' := by
        have z : (m :: ((s ++ t) ++ M2)).Perm (m :: M') := List.Perm.trans (hN.symm.append_right M2) hM
        exact z.cons_inv
      have nd2 : (a :: b :: ((s ++ t) ++ M2)).Nodup := by simp at nd ⊢; grind
      rcases split2 hp with ⟨A, p1, p2⟩ | ⟨B, p1, p2⟩ | ⟨A, B, p1, p2, p3⟩ | ⟨A, B, p1, p2, p3⟩
      · exact .perm (.par (ih1 m (s ++ t) e f A hN p1 o1 o2 he hf hne (fun g hg => hR g (p2.mem_iff.mpr (List.mem_append_left _ hg))) x y hxy) h2 nd2) hM2 (p2.symm.cons _)
      · exact (h2.off hoff e (p1.mem_iff.mpr (by simp)) te).elim
      · exact (h2.off hoff f (p2.mem_iff.mpr (by simp)) tf).elim
      · exact (h2.off hoff e (p2.mem_iff.mpr (by simp)) te).elim
    · have hoff : m ∉ a :: b :: M1 := by simp at nd ⊢; grind
      obtain ⟨s, t, rfl⟩ := List.append_of_mem hm1
      have hN : (s ++ m :: t).Perm (m :: (s ++ t)) := List.perm_middle
      have hM2 : (M1 ++ (s ++ t)).Perm M' := by
        have z : (m :: (M1 ++ (s ++ t))).Perm (m :: M') := by
          refine List.Perm.trans ?_ hM
          exact (List.perm_middle.symm).trans (hN.symm.append_left M1)
        exact z.cons_inv
      have nd2 : (a :: b :: (M1 ++ (s ++ t))).Nodup := by simp at nd ⊢; grind
      rcases split2 hp with ⟨A, p1, p2⟩ | ⟨B, p1, p2⟩ | ⟨A, B, p1, p2, p3⟩ | ⟨A, B, p1, p2, p3⟩
      · exact (h1.off hoff e (p1.mem_iff.mpr (by simp)) te).elim
      · refine .perm (.par h1 (ih2 m (s ++ t) e f B hN p1 o1 o2 he hf hne (fun g hg => hR g (p2.mem_iff.mpr (List.mem_append_right _ hg))) x y hxy) nd2) hM2 (List.perm_middle.trans (p2.symm.cons _))
      · exact (h1.off hoff e (p1.mem_iff.mpr (by simp)) te).elim
      · exact (h1.off hoff f (p1.mem_iff.mpr (by simp)) tf).elim
  | perm _ p q ih =>
    intro m M' e f R hM hp
    exact ih m M' e f R (p.trans hM) (q.trans hp)
/-- more than one edge: two beside each other, or a middle with two -/
theorem progress (h : SPN G a b M E v) : (∃ e, E = [e]) ∨ (∃ e f R, E.Perm (e :: f :: R) ∧ Ends f e.1 e.2.1) ∨ ∃ m ∈ M, ∃ e f R, E.Perm (e :: f :: R) ∧ Touches e m ∧ Touches f m ∧ ∀ g ∈ R, ¬ Touches g m := by
  induction h with
  | edge h => exact .inl ⟨_, rfl⟩
  | flip h => exact .inl ⟨_, rfl⟩
  | @ser a b m0 M1 M2 E1 E2 v1 v2 h1 h2 nd ih1 ih2 =>
    rcases ih1 with ⟨e1, rfl⟩ | ⟨e, f, R, p, q⟩ | ⟨m, hm, e, f, R, p, t1, t2, t3⟩
    · rcases ih2 with ⟨e2, rfl⟩ | ⟨e, f, R, p, q⟩ | ⟨m, hm, e, f, R, p, t1, t2, t3⟩
      · obtain ⟨g, hg, ht⟩ := h1.touch m0 (by simp)
        obtain ⟨g', hg', ht'⟩ := h2.touch m0 (by simp)
        rw [List.mem_singleton.mp hg] at ht
        rw [List.mem_singleton.mp hg'] at ht'
        exact .inr (.inr ⟨m0, by simp, e1, e2, [], List.Perm.refl _, ht, ht', by simp⟩)
      · refine .inr (.inl ⟨e, f, e1 :: R, ?_, q⟩)
        have z : ([e1] ++ E2).Perm (e1 :: e :: f :: R) := p.cons e1
        exact z.trans ((List.Perm.swap _ _ _).trans ((List.Perm.swap _ _ _).cons e))
      · have hoff : m ∉ a :: m0 :: M1 := by simp at nd ⊢; grind
        refine .inr (.inr ⟨m, by simp [hm], e, f, e1 :: R, ?_, t1, t2, fun g hg => ?_⟩)
        · have z : ([e1] ++ E2).Perm (e1 :: e :: f :: R) := p.cons e1
          exact z.trans ((List.Perm.swap _ _ _).trans ((List.Perm.swap _ _ _).cons e))
        · rcases List.mem_cons.mp hg with rfl | hg
          · exact h1.off hoff g (by simp)
          · exact t3 g hg
    · exact .inr (.inl ⟨e, f, R ++ E2, p.append_right E2, q⟩)
    · have hoff : m ∉ m0 :: b :: M2 := by simp at nd ⊢; grind
      refine .inr (.inr ⟨m, by simp [hm], e, f, R ++ E2, p.append_right E2, t1, t2, fun g hg => ?_⟩)
      rcases List.mem_append.mp hg with hg | hg
      · exact t3 g hg
      · exact h2.off hoff g hg
  | @par a b M1 M2 E1 E2 v1 v2 h1 h2 nd ih1 ih2 =>
    rcases ih1 with ⟨e1, rfl⟩ | ⟨e, f, R, p, q⟩ | ⟨m, hm, e, f, R, p, t1, t2, t3⟩
    · rcases ih2 with ⟨e2, rfl⟩ | ⟨e, f, R, p, q⟩ | ⟨m, hm, e, f, R, p, t1, t2, t3⟩
      · refine .inr (.inl ⟨e1, e2, [], List.Perm.refl _, ?_⟩)
        obtain ⟨g, hg, ht⟩ := h1.touch a (by simp)
        obtain ⟨g2, hg2, ht2⟩ := h1.touch b (by simp)
        obtain ⟨g3, hg3, ht3⟩ := h2.touch a (by simp)
        obtain ⟨g4, hg4, ht4⟩ := h2.touch b (by simp)
        rw [List.mem_singleton.mp hg] at ht
        rw [List.mem_singleton.mp hg2] at ht2
        rw [List.mem_singleton.mp hg3] at ht3
        rw [List.mem_singleton.mp hg4] at ht4
        simp at nd
        grind
      · refine .inr (.inl ⟨e, f, e1 :: R, ?_, q⟩)
        have z : ([e1] ++ E2).Perm (e1 :: e :: f :: R) := p.cons e1
        exact z.trans ((List.Perm.swap _ _ _).trans ((List.Perm.swap _ _ _).cons e))
      · have hoff : m ∉ a :: b :: M1 := by simp at nd ⊢; grind
        refine .inr (.inr ⟨m, by simp [hm], e, f, e1 :: R, ?_, t1, t2, fun g hg => ?_⟩)
        · have z : ([e1] ++ E2).Perm (e1 :: e :: f :: R) := p.cons e1
          exact z.trans ((List.Perm.swap _ _ _).trans ((List.Perm.swap _ _ _).cons e))
        · rcases List.mem_cons.mp hg with rfl | hg
          · exact h1.off hoff g (by simp)
          · exact t3 g hg
    · exact .inr (.inl ⟨e, f, R ++ E2, p.append_right E2, q⟩)
    · have hoff : m ∉ a :: b :: M2 := by simp at nd ⊢; grind
      refine .inr (.inr ⟨m, by simp [hm], e, f, R ++ E2, p.append_right E2, t1, t2, fun g hg => ?_⟩)
      rcases List.mem_append.mp hg with hg | hg
      · exact t3 g hg
      · exact h2.off hoff g hg
  | perm _ p q ih =>
    rcases ih with ⟨e, rfl⟩ | ⟨e, f, R, p', q'⟩ | ⟨m, hm, e, f, R, p', t⟩
    · exact .inl ⟨e, List.perm_singleton.mp q.symm⟩
    · exact .inr (.inl ⟨e, f, R, q.symm.trans p', q'⟩)
    · exact .inr (.inr ⟨m, p.mem_iff.mp hm, e, f, R, q.symm.trans p', t⟩)
/-- one edge left: it is the whole -/
theorem last (h : SPN G a b M E v) : ∀ e, E = [e] → M = [] ∧ v = e.2.2 ∧ Ends e a b := by
  induction h with
  | edge h => intro e he; cases he; exact ⟨rfl, rfl, .inl ⟨rfl, rfl⟩⟩
  | flip h => intro e he; cases he; exact ⟨rfl, rfl, .inr ⟨rfl, rfl⟩⟩
  | ser h1 h2 _ _ _ =>
    intro e he
    have := congrArg List.length he
    have z1 := List.length_pos_iff.mpr h1.ne
    have z2 := List.length_pos_iff.mpr h2.ne
    simp at this; omega
  | par h1 h2 _ _ _ =>
    intro e he
    have := congrArg List.length he
    have z1 := List.length_pos_iff.mpr h1.ne
    have z2 := List.length_pos_iff.mpr h2.ne
    simp at this; omega
  | perm _ p q ih =>
    intro e he
    subst he
    obtain ⟨rfl, r⟩ := ih e (List.perm_singleton.mp q)
    exact ⟨List.Perm.eq_nil p.symm, r⟩
end SPN
end
end Wr
-- WrVal
/-! plans, their spans, their choices, tallies -/
namespace Wr
open PySem
abbrev S2 := Int × Int
def addS (a b : S2) : S2 := (max 0 (a.1 - b.2) + max 0 (b.1 - a.2), a.2 + b.2)
def andS (a b : S2) : Option S2 := if max a.1 b.1 ≤ min a.2 b.2 then some (max a.1 b.1, min a.2 b.2) else none
def okS (a : S2) : Prop := 0 ≤ a.1 ∧ a.1 ≤ a.2
/-- in a row (false), side by side (true) -/
def opS (p : Bool) (a b : S2) : Option S2 := if p then andS a b else some (addS a b)
def opO (p : Bool) (a b : Option S2) : Option S2 := a.bind fun x => b.bind fun y => opS p x y
theorem add_ok {a b : S2} (ha : okS a) (hb : okS b) : okS (addS a b) := by
  unfold okS addS at *; omega
theorem op_ok {p : Bool} {a b c : S2} (ha : okS a) (hb : okS b) (h : opS p a b = some c) : okS c := by
  unfold opS at h
  cases p with
  | false => simp at h; rw [← h]; exact add_ok ha hb
  | true =>
    simp only [if_true] at h
    unfold andS at h
    split at h
    · cases h; unfold okS at *; simp only; omega
    · cases h
theorem opS_comm (p : Bool) (a b : S2) : opS p a b = opS p b a := by
  cases p with
  | false =>
    show some (addS a b) = some (addS b a)
    unfold addS
    congr 1
    ext <;> simp <;> omega
  | true =>
    show andS a b = andS b a
    unfold andS
    rw [Int.max_comm a.1, Int.min_comm a.2]
theorem opS_assoc (p : Bool) {a b c : S2} (ha : okS a) (hb : okS b) (hc : okS c) : (opS p a b).bind (fun x => opS p x c) = (opS p b c).bind fun y => opS p a y := by
  cases p with
  | false =>
    show some (addS (addS a b) c) = some (addS a (addS b c))
    unfold addS okS at *
    congr 1
    ext
    · simp only; omega
    · simp only; omega
  | true =>
    show (andS a b).bind (fun x => andS x c) = (andS b c).bind fun y => andS a y
    unfold andS okS at *
    by_cases h1 : max a.1 b.1 ≤ min a.2 b.2
    · rw [if_pos h1]
      by_cases h2 : max b.1 c.1 ≤ min b.2 c.2
      · rw [if_pos h2]
        simp only [Option.bind_some]
        by_cases h3 : max (max a.1 b.1) c.1 ≤ min (min a.2 b.2) c.2
        · rw [if_pos h3, if_pos (by omega)]
          congr 1
          ext <;> simp <;> omega
        · rw [if_neg h3, if_neg (by omega)]
      · rw [if_neg h2]
        simp only [Option.bind_some, Option.bind_none]
        rw [if_neg (by omega)]
    · rw [if_neg h1]
      simp only [Option.bind_none]
      by_cases h2 : max b.1 c.1 ≤ min b.2 c.2
      · rw [if_pos h2]
        simp only [Option.bind_some]
        rw [if_neg (by omega)]
      · rw [if_neg h2]; rfl

/-- a span, or none: what a piece is worth -/
def V2 := { o : Option S2 // ∀ s, o = some s → okS s }
def opV (p : Bool) (a b : V2) : V2 := ⟨opO p a.1 b.1, fun s h => by
  obtain ⟨x, hx, h⟩ := Option.bind_eq_some_iff.mp h
  obtain ⟨y, hy, h⟩ := Option.bind_eq_some_iff.mp h
  exact op_ok (a.2 x hx) (b.2 y hy) h⟩
theorem opV_comm (p : Bool) (a b : V2) : opV p a b = opV p b a := by
  obtain ⟨a, ha⟩ := a
  obtain ⟨b, hb⟩ := b
  apply Subtype.ext
  show opO p a b = opO p b a
  cases a <;> cases b <;> try rfl
  exact opS_comm p _ _
theorem opV_assoc (p : Bool) (a b c : V2) : opV p (opV p a b) c = opV p a (opV p b c) := by
  obtain ⟨a, ha⟩ := a
  obtain ⟨b, hb⟩ := b
  obtain ⟨c, hc⟩ := c
  apply Subtype.ext
  show opO p (opO p a b) c = opO p a (opO p b c)
  cases a with
  | none => rfl
  | some a =>
    cases b with
    | none => rfl
    | some b =>
      cases c with
      | none => show (opS p a b).bind (fun _ => none) = none; cases opS p a b <;> rfl
      | some c => exact opS_assoc p (ha a rfl) (hb b rfl) (hc c rfl)
def spanAlg : Alg V2 where
  ser := opV false
  par := opV true
  serA := opV_assoc false
  serC := opV_comm false
  parA := opV_assoc true
  parC := opV_comm true

/-- a plan, a piece, a tree: the law's tuples, the program's pieces, the program's trees all have this shape -/
inductive Plan where
  | leaf (x : Str) (lo hi : Int)
  | op (par : Bool) (l r : Plan)
namespace Plan
def span : Plan → Option S2
  | leaf _ lo hi => some (lo, hi)
  | op p l r => opO p l.span r.span
/-- every tie has a span within the line -/
def ok (B : Int) : Plan → Prop
  | leaf _ lo hi => 0 ≤ lo ∧ lo ≤ hi ∧ hi ≤ B
  | op _ l r => l.ok B ∧ r.ok B
def names : Plan → List Str
  | leaf x _ _ => [x]
  | op _ l r => l.names ++ r.names
def size : Plan → Nat
  | leaf _ _ _ => 1
  | op _ l r => l.size + r.size
/-- how many are in a row: so many middles -/
def joints : Plan → Nat
  | leaf _ _ _ => 0
  | op p l r => l.joints + r.joints + (if p then 0 else 1)
def flip : Plan → Plan
  | leaf x lo hi => leaf x lo hi
  | op p l r => if p then op p l.flip r.flip else op p r.flip l.flip
theorem span_ok {B : Int} : ∀ {p : Plan}, p.ok B → ∀ s, p.span = some s → okS s
  | leaf _ lo hi, h, s, e => by cases e; exact ⟨h.1, h.2.1⟩
  | op q l r, h, s, e => by
    obtain ⟨x, hx, e⟩ := Option.bind_eq_some_iff.mp e
    obtain ⟨y, hy, e⟩ := Option.bind_eq_some_iff.mp e
    exact op_ok (span_ok h.1 x hx) (span_ok h.2 y hy) e
def val {B : Int} (p : Plan) (h : p.ok B) : V2 := ⟨p.span, span_ok h⟩
theorem flip_ok {B : Int} : ∀ {p : Plan}, p.ok B → p.flip.ok B
  | leaf _ _ _, h => h
  | op true l r, h => ⟨flip_ok h.1, flip_ok h.2⟩
  | op false l r, h => ⟨flip_ok h.2, flip_ok h.1⟩
theorem flip_span : ∀ p : Plan, p.flip.span = p.span
  | leaf _ _ _ => rfl
  | op true l r => by
    show opO true l.flip.span r.flip.span = opO true l.span r.span
    rw [flip_span l, flip_span r]
  | op false l r => by
    show opO false r.flip.span l.flip.span = opO false l.span r.span
    rw [flip_span l, flip_span r]
    cases l.span <;> cases r.span <;> try rfl
    exact opS_comm false _ _
theorem size_pos : ∀ p : Plan, 0 < p.size
  | leaf _ _ _ => Nat.one_pos
  | op _ l r => Nat.add_pos_left (size_pos l) _
theorem joints_lt : ∀ p : Plan, p.joints < p.size
  | leaf _ _ _ => Nat.one_pos
  | op q l r => by
    have := joints_lt l
    have := joints_lt r
    show l.joints + r.joints + (if q then 0 else 1) < l.size + r.size
    split <;> omega
theorem names_len : ∀ p : Plan, p.names.length = p.size
  | leaf _ _ _ => rfl
  | op _ l r => by
    show (l.names ++ r.names).length = l.size + r.size
    rw [List.length_append, names_len l, names_len r]
/-- one choice of lengths for each tie: what is left between the ends -/
def choices : Plan → List S2
  | leaf _ lo hi => (List.range (hi + 1 - lo).toNat).map fun (i : Nat) => (lo + (i : Int), lo + (i : Int))
  | op p l r => l.choices.flatMap fun a => r.choices.filterMap fun b => opS p a b
theorem choices_ok {B : Int} : ∀ {p : Plan}, p.ok B → ∀ c ∈ p.choices, okS c
  | leaf _ lo hi, h, c, hc => by
    obtain ⟨i, _, rfl⟩ := List.mem_map.mp hc
    obtain ⟨h1, _⟩ := h
    unfold okS; simp only; omega
  | op q l r, h, c, hc => by
    obtain ⟨a, ha, hc⟩ := List.mem_flatMap.mp hc
    obtain ⟨b, hb, e⟩ := List.mem_filterMap.mp hc
    exact op_ok (choices_ok h.1 a ha) (choices_ok h.2 b hb) e
end Plan
end Wr
-- WrTab
/-! tallies of choices; three plans in any order and grouping -/
namespace Wr
open PySem
def lsum (cs : List S2) (g : S2 → Int) : Int := (cs.map g).sum
def rsum (T : List Row) (g : S2 → Int) : Int := (T.map fun r => r.2 * g r.1).sum
/-- T counts the choices cs -/
structure Tally (T : List Row) (cs : List S2) : Prop where
  nd : (T.map (·.1)).Nodup
  pos : ∀ r ∈ T, 0 < r.2
  sum : ∀ g, rsum T g = lsum cs g
theorem lsum_append (A B : List S2) (g : S2 → Int) : lsum (A ++ B) g = lsum A g + lsum B g := by
  unfold lsum; rw [List.map_append, List.sum_append]
theorem rsum_append (A B : List Row) (g : S2 → Int) : rsum (A ++ B) g = rsum A g + rsum B g := by
  unfold rsum; rw [List.map_append, List.sum_append]
theorem lsum_perm {A B : List S2} (h : A.Perm B) (g : S2 → Int) : lsum A g = lsum B g := by
  induction h with
  | nil => rfl
  | cons x _ ih => unfold lsum at *; simp only [List.map_cons, List.sum_cons, ih]
  | swap x y l => unfold lsum; simp only [List.map_cons, List.sum_cons]; omega
  | trans _ _ h1 h2 => exact h1.trans h2
theorem rsum_perm {A B : List Row} (h : A.Perm B) (g : S2 → Int) : rsum A g = rsum B g := by
  induction h with
  | nil => rfl
  | cons x _ ih => unfold rsum at *; simp only [List.map_cons, List.sum_cons, ih]
  | swap x y l => unfold rsum; simp only [List.map_cons, List.sum_cons]; omega
  | trans _ _ h1 h2 => exact h1.trans h2
/-- what g says of a and b put together -/
def gOp (p : Bool) (g : S2 → Int) (a b : S2) : Int := match opS p a b with | some c => g c | none => 0
theorem lsum_filterMap (f : S2 → Option S2) (g : S2 → Int) : ∀ B : List S2, lsum (B.filterMap f) g = lsum B fun b => match f b with | some c => g c | none => 0
  | [] => rfl
  | b :: B => by
    have ih := lsum_filterMap f g B
    unfold lsum at *
    rw [List.filterMap_cons, List.map_cons, List.sum_cons, ← ih]
    cases h : f b <;> simp
theorem lsum_flatMap (F : S2 → List S2) (g : S2 → Int) : ∀ A : List S2, lsum (A.flatMap F) g = lsum A fun a => lsum (F a) g
  | [] => rfl
  | a :: A => by
    rw [List.flatMap_cons, lsum_append, lsum_flatMap F g A]
    show _ = ((a :: A).map fun a => lsum (F a) g).sum
    rw [List.map_cons, List.sum_cons]
    rfl
theorem lsum_op (p : Bool) (l r : Plan) (g : S2 → Int) : lsum (Plan.op p l r).choices g = lsum l.choices fun a => lsum r.choices (gOp p g a) := by
  show lsum (l.choices.flatMap fun a => r.choices.filterMap fun b => opS p a b) g = _
  rw [lsum_flatMap]
  congr 1
  funext a
  exact lsum_filterMap _ _ _

/-! ### a tally grows -/
def rowGet (T : List Row) (k : S2) : Int := match T.find? fun r => decide (r.1 = k) with | some r => r.2 | none => 0
def rowAdd (T : List Row) (k : S2) (n : Int) : List Row := if T.any (fun r => decide (r.1 = k)) then T.map (fun r => if r.1 = k then (r.1, rowGet T k + n) else r) else T ++ [(k, rowGet T k + n)]
theorem get_mem : ∀ {T : List Row} {k : S2}, (T.any fun r => decide (r.1 = k)) = true → (k, rowGet T k) ∈ T
  | [], k, h => by simp at h
  | r :: T, k, h => by
    unfold rowGet
    rw [List.find?_cons]
    by_cases e : r.1 = k
    · simp [e]
      left
      rw [← e]
    · have h' : (T.any fun r => decide (r.1 = k)) = true := by simpa [e] using h
      have := get_mem h'
      unfold rowGet at this
      simp [e]
      right
      exact this
theorem get_none {T : List Row} {k : S2} (h : ¬ (T.any fun r => decide (r.1 = k)) = true) : rowGet T k = 0 := by
  unfold rowGet
  have : (T.find? fun r => decide (r.1 = k)) = none := by
    rw [List.find?_eq_none]
    intro r hr hk
    exact h (List.any_eq_true.mpr ⟨r, hr, hk⟩)
  rw [this]
theorem rowAdd_keys (T : List Row) (k : S2) (n : Int) : (rowAdd T k n).map (·.1) = if T.any (fun r => decide (r.1 = k)) then T.map (·.1) else T.map (·.1) ++ [k] := by
  unfold rowAdd
  split
  · rw [List.map_map]
    congr 1
    funext r
    simp only [Function.comp]
    split <;> rfl
  · rw [List.map_append]; rfl
theorem rowAdd_nd {T : List Row} {k : S2} {n : Int} (h : (T.map (·.1)).Nodup) : ((rowAdd T k n).map (·.1)).Nodup := by
  rw [rowAdd_keys]
  split
  · exact h
  · rename_i hk
    rw [List.nodup_append]
    refine ⟨h, by simp, fun a ha b hb => ?_⟩
    rw [List.mem_singleton.mp hb]
    rintro rfl
    obtain ⟨r, hr, e⟩ := List.mem_map.mp ha
    exact hk (List.any_eq_true.mpr ⟨r, hr, decide_eq_true e⟩)
theorem rowAdd_pos {T : List Row} {k : S2} {n : Int} (h : ∀ r ∈ T, 0 < r.2) (hn : 0 < n) : ∀ r ∈ rowAdd T k n, 0 < r.2 := by
  intro r hr
  unfold rowAdd at hr
  split at hr
  · rename_i hk
    obtain ⟨q, hq, rfl⟩ := List.mem_map.mp hr
    have := h _ (get_mem hk)
    split
    · simp only at *; omega
    · exact h q hq
  · rename_i hk
    rcases List.mem_append.mp hr with hr | hr
    · exact h r hr
    · rw [List.mem_singleton.mp hr, get_none hk]; simp only; omega
theorem rsum_repl (k : S2) (m m' : Int) (g : S2 → Int) : ∀ {T : List Row}, (T.map (·.1)).Nodup → (k, m) ∈ T → rsum (T.map fun r => if r.1 = k then (r.1, m') else r) g = rsum T g + (m' - m) * g k
  | [], _, h => by simp at h
  | r :: T, nd, h => by
    rw [List.map_cons, List.nodup_cons] at nd
    obtain ⟨hr, nd⟩ := nd
    have rest : ∀ {S : List Row}, k ∉ S.map (·.1) → S.map (fun r => if r.1 = k then (r.1, m') else r) = S := by
      intro S hS
      have : ∀ r ∈ S, (fun r : Row => if r.1 = k then (r.1, m') else r) r = r := fun r hr => if_neg fun e => hS (by rw [← e]; exact List.mem_map.mpr ⟨r, hr, rfl⟩)
      rw [List.map_congr_left this]
      simp
    rcases List.mem_cons.mp h with h | h
    · subst h
      have hk : k ∉ T.map (·.1) := hr
      unfold rsum
      rw [List.map_cons, rest hk]
      simp only [List.map_cons, List.sum_cons, if_true]
      rw [Int.sub_mul]
      omega
    · have hne : r.1 ≠ k := fun e => hr (by rw [e]; exact List.mem_map.mpr ⟨(k, m), h, rfl⟩)
      have ih := rsum_repl k m m' g nd h
      unfold rsum at *
      rw [List.map_cons, if_neg hne]
      simp only [List.map_cons, List.sum_cons]
      rw [ih]
      omega
theorem rsum_add {T : List Row} (nd : (T.map (·.1)).Nodup) (k : S2) (n : Int) (g : S2 → Int) : rsum (rowAdd T k n) g = rsum T g + n * g k := by
  unfold rowAdd
  split
  · rename_i hk
    rw [rsum_repl k (rowGet T k) _ g nd (get_mem hk)]
    have e : rowGet T k + n - rowGet T k = n := by omega
    rw [e]
  · rename_i hk
    rw [rsum_append, get_none hk]
    simp [rsum]
/-- the dict's own step -/
theorem rowAdd_put (T : List Row) (k : S2) (n : Int) : L2.putK (T.map rowK) [.inl k.1, .inl k.2] (.int (rowGet T k + n)) = (rowAdd T k n).map rowK := by
  have hk : ∀ r : Row, ((rowK r).1 = [Sum.inl k.1, Sum.inl k.2]) = (r.1 = k) := fun r => by
    obtain ⟨⟨a, b⟩, m⟩ := r
    obtain ⟨c, d⟩ := k
    simp [rowK]
  have e : ((T.map rowK).any fun kv => decide (kv.1 = [Sum.inl k.1, Sum.inl k.2])) = T.any fun r => decide (r.1 = k) := by
    rw [List.any_map]
    congr 1
    funext r
    simp only [Function.comp, hk]
  unfold L2.putK rowAdd
  rw [e]
  split
  · rw [List.map_map, List.map_map]
    congr 1
    funext r
    simp only [Function.comp, hk]
    split
    · rename_i e; simp [rowK, e]
    · rfl
  · rw [List.map_append]; rfl
theorem rowGet_val (T : List Row) (k : S2) : L2.valV (T.map rowK) [.inl k.1, .inl k.2] = (T.find? fun r => decide (r.1 = k)).map fun r => L2.V.int r.2 := by
  have hk : ∀ r : Row, ((rowK r).1 = [Sum.inl k.1, Sum.inl k.2]) = (r.1 = k) := fun r => by
    obtain ⟨⟨a, b⟩, m⟩ := r
    obtain ⟨c, d⟩ := k
    simp [rowK]
  induction T with
  | nil => rfl
  | cons r T ih =>
    by_cases e : r.1 = k
    · rw [List.map_cons, L2.valV_pos (by rw [hk]; exact e), List.find?_cons_of_pos (by simpa using e)]
      rfl
    · rw [List.map_cons, List.find?_cons_of_neg (by simpa using e), ← ih]
      unfold L2.valV
      rw [List.find?_cons_of_neg (by simpa [hk] using e)]

/-! ### one order -/
def ind (k : S2) : S2 → Int := fun c => if c = k then 1 else 0
theorem rsum_ind (k : S2) : ∀ {T : List Row}, (T.map (·.1)).Nodup → (∀ n, (k, n) ∈ T → rsum T (ind k) = n) ∧ ((∀ n, (k, n) ∉ T) → rsum T (ind k) = 0)
  | [], _ => ⟨fun n h => by simp at h, fun _ => rfl⟩
  | r :: T, nd => by
    rw [List.map_cons, List.nodup_cons] at nd
    obtain ⟨hr, nd⟩ := nd
    obtain ⟨i1, i2⟩ := rsum_ind k nd
    have e : rsum (r :: T) (ind k) = r.2 * ind k r.1 + rsum T (ind k) := by unfold rsum; rw [List.map_cons, List.sum_cons]
    by_cases h : r.1 = k
    · have none : ∀ n, (k, n) ∉ T := fun n hn => hr (by rw [h]; exact List.mem_map.mpr ⟨_, hn, rfl⟩)
      rw [e, i2 none]
      constructor
      · intro n hn
        rcases List.mem_cons.mp hn with hn | hn
        · rw [← hn]; simp [ind]
        · exact absurd hn (none n)
      · intro h0
        exact absurd (List.mem_cons_self ..) (by have := h0 r.2; rw [← h] at this; exact this)
    · rw [e]
      have z : ind k r.1 = 0 := if_neg h
      rw [z]
      constructor
      · intro n hn
        rcases List.mem_cons.mp hn with hn | hn
        · exact absurd (by rw [← hn]) h
        · rw [i1 n hn]; omega
      · intro h0
        rw [i2 fun n hn => h0 n (List.mem_cons_of_mem _ hn)]; omega
theorem Tally.mem {T T' : List Row} {cs cs' : List S2} (h : Tally T cs) (h' : Tally T' cs') (hp : cs.Perm cs') : ∀ r, r ∈ T → r ∈ T' := by
  rintro ⟨k, n⟩ hr
  have e : rsum T (ind k) = rsum T' (ind k) := by rw [h.sum, h'.sum, lsum_perm hp]
  rw [(rsum_ind k h.nd).1 n hr] at e
  by_cases hx : ∃ m, (k, m) ∈ T'
  · obtain ⟨m, hm⟩ := hx
    rw [(rsum_ind k h'.nd).1 m hm] at e
    rw [e]; exact hm
  · rw [(rsum_ind k h'.nd).2 fun m hm => hx ⟨m, hm⟩] at e
    have := h.pos _ hr
    simp only at this
    omega
theorem nodup_of_map {β γ : Type} (f : β → γ) : ∀ {l : List β}, (l.map f).Nodup → l.Nodup
  | [], _ => List.nodup_nil
  | x :: l, h => by
    rw [List.map_cons, List.nodup_cons] at h
    exact List.nodup_cons.mpr ⟨fun hx => h.1 (List.mem_map.mpr ⟨x, hx, rfl⟩), nodup_of_map f h.2⟩
theorem Tally.perm {T T' : List Row} {cs cs' : List S2} (h : Tally T cs) (h' : Tally T' cs') (hp : cs.Perm cs') : T.Perm T' :=
  (List.perm_ext_iff_of_nodup (nodup_of_map _ h.nd) (nodup_of_map _ h'.nd)).mpr fun r => ⟨h.mem h' hp r, h'.mem h hp.symm r⟩
theorem rowLe_iff (p q : Row) : rowLe p q = true ↔ (p.1.1 < q.1.1 ∨ (p.1.1 = q.1.1 ∧ (p.1.2 < q.1.2 ∨ (p.1.2 = q.1.2 ∧ p.2 ≤ q.2)))) := by
  unfold rowLe; rw [decide_eq_true_eq]
theorem rowSort_perm {T T' : List Row} (h : T.Perm T') : rowSort T = rowSort T' := by
  have tr : ∀ a b c : Row, rowLe a b = true → rowLe b c = true → rowLe a c = true := fun a b c h1 h2 => by
    rw [rowLe_iff] at *; omega
  have to : ∀ a b : Row, (rowLe a b || rowLe b a) = true := fun a b => by
    rw [Bool.or_eq_true, rowLe_iff, rowLe_iff]; omega
  refine List.Perm.eq_of_pairwise (le := fun a b => rowLe a b = true) (fun a b _ _ h1 h2 => ?_) (List.pairwise_mergeSort tr to T) (List.pairwise_mergeSort tr to T') ?_
  · rw [rowLe_iff] at h1 h2
    obtain ⟨⟨a1, a2⟩, a3⟩ := a
    obtain ⟨⟨b1, b2⟩, b3⟩ := b
    simp only at h1 h2
    have e1 : a1 = b1 := by omega
    have e2 : a2 = b2 := by omega
    have e3 : a3 = b3 := by omega
    rw [e1, e2, e3]
  · exact (List.mergeSort_perm T rowLe).trans (h.trans (List.mergeSort_perm T' rowLe).symm)
theorem Tally.sort {T T' : List Row} {cs cs' : List S2} (h : Tally T cs) (h' : Tally T' cs') (hp : cs.Perm cs') : rowSort T = rowSort T' := rowSort_perm (h.perm h' hp)
end Wr
-- WrThree
namespace Wr
open PySem
/-- the same span, the same choices -/
def Same2 (p q : Plan) : Prop := p.span = q.span ∧ p.choices.Perm q.choices
theorem Same2.refl (p : Plan) : Same2 p p := ⟨rfl, List.Perm.refl _⟩
theorem Same2.symm {p q : Plan} (h : Same2 p q) : Same2 q p := ⟨h.1.symm, h.2.symm⟩
theorem Same2.trans {p q r : Plan} (h : Same2 p q) (g : Same2 q r) : Same2 p r := ⟨h.1.trans g.1, h.2.trans g.2⟩
theorem flatMap_swap {α β γ : Type} (f : α → β → Option γ) : ∀ (A : List α) (B : List β), (A.flatMap fun a => B.filterMap fun b => f a b).Perm (B.flatMap fun b => A.filterMap fun a => f a b)
  | [], B => by
    have : (B.flatMap fun b => ([] : List α).filterMap fun a => f a b) = [] := by simp
    rw [this]
    exact List.Perm.refl _
  | a :: A, B => by
    have ih := flatMap_swap f A B
    rw [List.flatMap_cons]
    have key : ∀ B : List β, (B.filterMap (fun b => f a b) ++ B.flatMap fun b => A.filterMap fun a => f a b).Perm (B.flatMap fun b => (a :: A).filterMap fun a => f a b) := by
      intro B
      induction B with
      | nil => exact List.Perm.refl _
      | cons b B ihB =>
        rw [List.filterMap_cons, List.flatMap_cons, List.flatMap_cons, List.filterMap_cons]
        cases h : f a b with
        | none =>
          simp only
          refine List.Perm.trans ?_ (ihB.append_left _)
          rw [← List.append_assoc, ← List.append_assoc]
          exact List.perm_append_comm.append_right _
        | some c =>
          simp only [List.cons_append]
          refine List.Perm.cons c ?_
          refine List.Perm.trans ?_ (ihB.append_left _)
          rw [← List.append_assoc, ← List.append_assoc]
          exact List.perm_append_comm.append_right _
    exact (ih.append_left _).trans (key B)
theorem op_comm2 (s : Bool) (a b : Plan) : Same2 (.op s a b) (.op s b a) := by
  constructor
  · show opO s a.span b.span = opO s b.span a.span
    cases a.span <;> cases b.span <;> try rfl
    exact opS_comm s _ _
  · show (a.choices.flatMap fun x => b.choices.filterMap fun y => opS s x y).Perm (b.choices.flatMap fun x => a.choices.filterMap fun y => opS s x y)
    refine (flatMap_swap (fun x y => opS s x y) _ _).trans ?_
    have e : (fun x => a.choices.filterMap fun y => opS s y x) = fun x => a.choices.filterMap fun y => opS s x y := by
      funext x
      congr 1
      funext y
      exact opS_comm s y x
    rw [e]
theorem op_assoc2 {B : Int} (s : Bool) {a b c : Plan} (ha : a.ok B) (hb : b.ok B) (hc : c.ok B) : Same2 (.op s (.op s a b) c) (.op s a (.op s b c)) := by
  constructor
  · have := congrArg Subtype.val (opV_assoc s (a.val ha) (b.val hb) (c.val hc))
    exact this
  · have e : (Plan.op s (.op s a b) c).choices = (Plan.op s a (.op s b c)).choices := by
      show ((a.choices.flatMap fun x => b.choices.filterMap fun y => opS s x y).flatMap fun x => c.choices.filterMap fun y => opS s x y) =
        a.choices.flatMap fun x => (b.choices.flatMap fun x => c.choices.filterMap fun y => opS s x y).filterMap fun y => opS s x y
      rw [List.flatMap_assoc]
      have cong : ∀ {α β : Type} {f g : α → List β} {l : List α}, (∀ x ∈ l, f x = g x) → l.flatMap f = l.flatMap g := by
        intro α β f g l h
        induction l with
        | nil => rfl
        | cons x l ih => rw [List.flatMap_cons, List.flatMap_cons, h x (List.mem_cons_self ..), ih fun y hy => h y (List.mem_cons_of_mem _ hy)]
      refine cong fun x hx => ?_
      rw [List.filterMap_flatMap]
      have fm : ∀ (l : List S2), (∀ y ∈ l, okS y) → (l.filterMap fun y => opS s x y).flatMap (fun z => c.choices.filterMap fun w => opS s z w) = l.flatMap fun y => (c.choices.filterMap fun w => opS s y w).filterMap fun z => opS s x z := by
        intro l hl
        induction l with
        | nil => rfl
        | cons y l ih =>
          have ih := ih fun z hz => hl z (List.mem_cons_of_mem _ hz)
          have hy := hl y (List.mem_cons_self ..)
          rw [List.filterMap_cons, List.flatMap_cons, ← ih]
          have one : ∀ l : List S2, (∀ w ∈ l, okS w) → (match opS s x y with | some z => l.filterMap fun w => opS s z w | none => []) = (l.filterMap fun w => opS s y w).filterMap fun z => opS s x z := by
            intro l hl
            rw [List.filterMap_filterMap]
            induction l with
            | nil => cases opS s x y <;> rfl
            | cons w l ih =>
              have ih := ih fun z hz => hl z (List.mem_cons_of_mem _ hz)
              have as := opS_assoc s (Plan.choices_ok ha x hx) hy (hl w (List.mem_cons_self ..))
              rw [List.filterMap_cons, ← as, ← ih]
              cases h : opS s x y with
              | none => rfl
              | some z =>
                simp only [Option.bind_some]
                rw [List.filterMap_cons]
          rw [← one c.choices fun w hw => Plan.choices_ok hc w hw]
          cases opS s x y with
          | none => rfl
          | some z => simp only [List.flatMap_cons]
      exact fm b.choices fun y hy => Plan.choices_ok hb y hy
    rw [e]
theorem op_congr2 (s : Bool) {a a' b b' : Plan} (h : Same2 a a') (g : Same2 b b') : Same2 (.op s a b) (.op s a' b') := by
  constructor
  · show opO s a.span b.span = opO s a'.span b'.span
    rw [h.1, g.1]
  · show (a.choices.flatMap fun x => b.choices.filterMap fun y => opS s x y).Perm (a'.choices.flatMap fun x => b'.choices.filterMap fun y => opS s x y)
    refine (h.2.flatMap_right _).trans ?_
    have key : ∀ l : List S2, (l.flatMap fun x => b.choices.filterMap fun y => opS s x y).Perm (l.flatMap fun x => b'.choices.filterMap fun y => opS s x y) := by
      intro l
      induction l with
      | nil => exact List.Perm.refl _
      | cons x l ih => rw [List.flatMap_cons, List.flatMap_cons]; exact (g.2.filterMap _).append ih
    exact key _
def joinP (s late : Bool) (a b c : Plan) : Plan := if late then .op s a (.op s b c) else .op s (.op s a b) c
theorem joinP_ok {B : Int} {s late : Bool} {a b c : Plan} (ha : a.ok B) (hb : b.ok B) (hc : c.ok B) : (joinP s late a b c).ok B := by
  unfold joinP
  split
  · exact ⟨ha, hb, hc⟩
  · exact ⟨⟨ha, hb⟩, hc⟩
theorem joinP_size {s late : Bool} {a b c : Plan} : (joinP s late a b c).size = a.size + b.size + c.size := by
  unfold joinP
  split
  · show a.size + (b.size + c.size) = _; omega
  · rfl
theorem perm3 {α : Type} {q1 q2 q3 p1 p2 p3 : α} (h : [q1, q2, q3].Perm [p1, p2, p3]) :
    (q1 = p1 ∧ q2 = p2 ∧ q3 = p3) ∨ (q1 = p1 ∧ q2 = p3 ∧ q3 = p2) ∨ (q1 = p2 ∧ q2 = p1 ∧ q3 = p3) ∨ (q1 = p2 ∧ q2 = p3 ∧ q3 = p1) ∨ (q1 = p3 ∧ q2 = p1 ∧ q3 = p2) ∨ (q1 = p3 ∧ q2 = p2 ∧ q3 = p1) := by
  have two : ∀ {a b c d : α}, [a, b].Perm [c, d] → (a = c ∧ b = d) ∨ (a = d ∧ b = c) := by
    intro a b c d h
    have ha : a ∈ [c, d] := h.mem_iff.mp (by simp)
    simp only [List.mem_cons, List.not_mem_nil, or_false] at ha
    rcases ha with rfl | rfl
    · have := List.perm_singleton.mp h.cons_inv
      simp at this
      exact .inl ⟨rfl, this⟩
    · have := List.perm_singleton.mp (h.trans (List.Perm.swap _ _ _)).cons_inv
      simp at this
      exact .inr ⟨rfl, this⟩
  have hq : q1 ∈ [p1, p2, p3] := h.mem_iff.mp (by simp)
  simp only [List.mem_cons, List.not_mem_nil, or_false] at hq
  rcases hq with rfl | rfl | rfl
  · rcases two h.cons_inv with ⟨a, b⟩ | ⟨a, b⟩
    · exact .inl ⟨rfl, a, b⟩
    · exact .inr (.inl ⟨rfl, a, b⟩)
  · rcases two (h.trans (List.Perm.swap _ _ _)).cons_inv with ⟨a, b⟩ | ⟨a, b⟩
    · exact .inr (.inr (.inl ⟨rfl, a, b⟩))
    · exact .inr (.inr (.inr (.inl ⟨rfl, a, b⟩)))
  · have z : [p1, p2, q1].Perm [q1, p1, p2] := ((List.Perm.swap _ _ []).cons p1).trans (List.Perm.swap _ _ _)
    rcases two (h.trans z).cons_inv with ⟨a, b⟩ | ⟨a, b⟩
    · exact .inr (.inr (.inr (.inr (.inl ⟨rfl, a, b⟩))))
    · exact .inr (.inr (.inr (.inr (.inr ⟨rfl, a, b⟩))))
/-- three in any order, grouped in any way -/
theorem three {B : Int} {s late late' : Bool} {q1 q2 q3 p1 p2 p3 : Plan} (h : [q1, q2, q3].Perm [p1, p2, p3]) (h1 : p1.ok B) (h2 : p2.ok B) (h3 : p3.ok B) : Same2 (joinP s late q1 q2 q3) (joinP s late' p1 p2 p3) := by
  have norm : ∀ {l : Bool} {a b c : Plan}, a.ok B → b.ok B → c.ok B → Same2 (joinP s l a b c) (.op s a (.op s b c)) := by
    intro l a b c ha hb hc
    cases l with
    | true => exact Same2.refl _
    | false => exact op_assoc2 s ha hb hc
  have sw1 : ∀ {a b c : Plan}, a.ok B → b.ok B → c.ok B → Same2 (.op s a (.op s b c)) (.op s b (.op s a c)) := fun ha hb hc =>
    (op_assoc2 s ha hb hc).symm.trans ((op_congr2 s (op_comm2 s _ _) (Same2.refl _)).trans (op_assoc2 s hb ha hc))
  have sw2 : ∀ {a b c : Plan}, Same2 (.op s a (.op s b c)) (.op s a (.op s c b)) := op_congr2 s (Same2.refl _) (op_comm2 s _ _)
  refine Same2.trans ?_ (norm h1 h2 h3).symm
  rcases perm3 h with ⟨rfl, rfl, rfl⟩ | ⟨rfl, rfl, rfl⟩ | ⟨rfl, rfl, rfl⟩ | ⟨rfl, rfl, rfl⟩ | ⟨rfl, rfl, rfl⟩ | ⟨rfl, rfl, rfl⟩
  · exact norm h1 h2 h3
  · exact (norm h1 h3 h2).trans sw2
  · exact (norm h2 h1 h3).trans (sw1 h2 h1 h3)
  · exact (norm h2 h3 h1).trans (sw2.trans (sw1 h2 h1 h3))
  · exact (norm h3 h1 h2).trans ((sw1 h3 h1 h2).trans sw2)
  · exact (norm h3 h2 h1).trans (sw2.trans ((sw1 h3 h1 h2).trans sw2))

/-! ### bounds -/
theorem opS_le {p : Bool} {a b c : S2} {m n : Int} (ha : a.2 ≤ m) (hb : b.2 ≤ n) (h0 : okS a) (h1 : okS b) (h : opS p a b = some c) : c.2 ≤ m + n := by
  unfold opS at h
  cases p with
  | false => simp at h; rw [← h]; unfold addS; simp only; omega
  | true =>
    simp only [if_true] at h
    unfold andS at h
    split at h
    · cases h; unfold okS at *; simp only; omega
    · cases h
theorem choices_le {B : Int} (hB : 0 ≤ B) : ∀ {p : Plan}, p.ok B → ∀ c ∈ p.choices, c.2 ≤ B * p.size
  | .leaf _ lo hi, h, c, hc => by
    obtain ⟨i, hi', rfl⟩ := List.mem_map.mp hc
    have := List.mem_range.mp hi'
    obtain ⟨h1, h2, h3⟩ := h
    show lo + (i : Int) ≤ B * ((1 : Nat) : Int)
    omega
  | .op q l r, h, c, hc => by
    obtain ⟨a, ha, hc⟩ := List.mem_flatMap.mp hc
    obtain ⟨b, hb, e⟩ := List.mem_filterMap.mp hc
    have := opS_le (choices_le hB h.1 a ha) (choices_le hB h.2 b hb) (Plan.choices_ok h.1 a ha) (Plan.choices_ok h.2 b hb) e
    have e : B * ((Plan.op q l r).size : Nat) = B * (l.size : Int) + B * (r.size : Int) := by
      show B * ((l.size + r.size : Nat) : Int) = _
      rw [Int.natCast_add, Int.mul_add]
    rw [e]; exact this
theorem span_le {B : Int} (hB : 0 ≤ B) : ∀ {p : Plan}, p.ok B → ∀ s, p.span = some s → s.2 ≤ B * p.size
  | .leaf _ lo hi, h, s, e => by
    cases e
    obtain ⟨h1, h2, h3⟩ := h
    show hi ≤ B * ((1 : Nat) : Int)
    omega
  | .op q l r, h, s, e => by
    obtain ⟨x, hx, e⟩ := Option.bind_eq_some_iff.mp e
    obtain ⟨y, hy, e⟩ := Option.bind_eq_some_iff.mp e
    have := opS_le (span_le hB h.1 x hx) (span_le hB h.2 y hy) (Plan.span_ok h.1 x hx) (Plan.span_ok h.2 y hy) e
    have e : B * ((Plan.op q l r).size : Nat) = B * (l.size : Int) + B * (r.size : Int) := by
      show B * ((l.size + r.size : Nat) : Int) = _
      rw [Int.natCast_add, Int.mul_add]
    rw [e]; exact this
theorem choices_len {N : Nat} : ∀ {p : Plan}, p.ok (N : Int) → p.choices.length ≤ (N + 1) ^ p.size
  | .leaf _ lo hi, h => by
    obtain ⟨h1, h2, h3⟩ := h
    show ((List.range (hi + 1 - lo).toNat).map _).length ≤ (N + 1) ^ 1
    rw [List.length_map, List.length_range, Nat.pow_one]
    omega
  | .op q l r, h => by
    have h1 := choices_len h.1
    have h2 := choices_len h.2
    show (l.choices.flatMap fun a => r.choices.filterMap fun b => opS q a b).length ≤ (N + 1) ^ (l.size + r.size)
    rw [Nat.pow_add]
    refine Nat.le_trans ?_ (Nat.mul_le_mul h1 h2)
    have key : ∀ A : List S2, (A.flatMap fun a => r.choices.filterMap fun b => opS q a b).length ≤ A.length * r.choices.length := by
      intro A
      induction A with
      | nil => simp
      | cons a A ih =>
        rw [List.flatMap_cons, List.length_append, List.length_cons, Nat.succ_mul]
        have := List.length_filterMap_le (fun b => opS q a b) r.choices
        omega
    exact key _
theorem nat_nodup : ∀ (n : Nat) (l : List Nat), l.Nodup → (∀ x ∈ l, x < n) → l.length ≤ n
  | 0, l, _, h => by
    cases l with
    | nil => exact Nat.le_refl _
    | cons x l => exact absurd (h x (List.mem_cons_self ..)) (Nat.not_lt_zero _)
  | n + 1, l, nd, h => by
    by_cases hn : n ∈ l
    · obtain ⟨s, t, rfl⟩ := List.append_of_mem hn
      have p : (s ++ n :: t).Perm (n :: (s ++ t)) := List.perm_middle
      have nd2 := p.nodup_iff.mp nd
      have := nat_nodup n (s ++ t) (List.nodup_cons.mp nd2).2 fun x hx => by
        have h1 := h x (p.mem_iff.mpr (List.mem_cons_of_mem _ hx))
        have h2 : x ≠ n := fun e => (List.nodup_cons.mp nd2).1 (e ▸ hx)
        omega
      rw [p.length_eq, List.length_cons]; omega
    · have := nat_nodup n l nd fun x hx => by
        have h1 := h x hx
        have h2 : x ≠ n := fun e => hn (e ▸ hx)
        omega
      omega
/-- rows whose keys stand in a box are few -/
theorem box_len {m : Nat} {T : List Row} (nd : (T.map (·.1)).Nodup) (h : ∀ r ∈ T, 0 ≤ r.1.1 ∧ r.1.1 ≤ r.1.2 ∧ r.1.2 ≤ (m : Int)) : T.length ≤ (m + 1) * (m + 1) := by
  have key : ((T.map (·.1)).map fun k : S2 => k.1.toNat * (m + 1) + k.2.toNat).Nodup := by
    have inj : ∀ {l : List S2}, l.Nodup → (∀ k ∈ l, 0 ≤ k.1 ∧ k.1 ≤ k.2 ∧ k.2 ≤ (m : Int)) → (l.map fun k : S2 => k.1.toNat * (m + 1) + k.2.toNat).Nodup := by
      intro l nd hl
      induction l with
      | nil => exact List.nodup_nil
      | cons k l ih =>
        rw [List.nodup_cons] at nd
        rw [List.map_cons, List.nodup_cons]
        refine ⟨fun hx => ?_, ih nd.2 fun x hx => hl x (List.mem_cons_of_mem _ hx)⟩
        obtain ⟨q, hq, e⟩ := List.mem_map.mp hx
        obtain ⟨a1, a2, a3⟩ := hl k (List.mem_cons_self ..)
        obtain ⟨b1, b2, b3⟩ := hl q (List.mem_cons_of_mem _ hq)
        have ek : k = q := by
          have l1 : k.2.toNat < m + 1 := by omega
          have l2 : q.2.toNat < m + 1 := by omega
          have e1 : q.1.toNat = k.1.toNat := by
            have d1 := Nat.mul_add_div (show 0 < m + 1 by omega) q.1.toNat q.2.toNat
            have d2 := Nat.mul_add_div (show 0 < m + 1 by omega) k.1.toNat k.2.toNat
            rw [Nat.mul_comm, Nat.div_eq_of_lt l2] at d1
            rw [Nat.mul_comm, Nat.div_eq_of_lt l1] at d2
            rw [e, d2] at d1
            omega
          rw [e1] at e
          ext <;> omega
        exact nd.1 (ek ▸ hq)
    exact inj nd fun k hk => by
      obtain ⟨r, hr, rfl⟩ := List.mem_map.mp hk
      exact h r hr
  have := nat_nodup ((m + 1) * (m + 1)) _ key fun x hx => by
    obtain ⟨k, hk, rfl⟩ := List.mem_map.mp hx
    obtain ⟨r, hr, rfl⟩ := List.mem_map.mp hk
    obtain ⟨a1, a2, a3⟩ := h r hr
    have l1 : r.1.1.toNat ≤ m := by omega
    have l2 : r.1.2.toNat ≤ m := by omega
    have := Nat.mul_le_mul_right (m + 1) l1
    have e : (m + 1) * (m + 1) = m * (m + 1) + (m + 1) := Nat.succ_mul m (m + 1)
    omega
  simpa using this
end Wr
-- WrCtx
/-! what the promises speak of -/
namespace Wr
open PySem L2
/-- all but x is as it was -/
def Keep (x : Addr) (H H' : Hp) : Prop := ∀ b o, b ≠ x → H b = some o → H' b = some o
theorem Keep.refl (x : Addr) (H : Hp) : Keep x H H := fun _ _ _ h => h
theorem Keep.trans {x : Addr} {H H1 H2 : Hp} (a : Keep x H H1) (b : Keep x H1 H2) : Keep x H H2 := fun c o n h => b c o n (a c o n h)
theorem Keep.of_same {x : Addr} {H H' : Hp} (a : Same H H') : Keep x H H' := fun c o _ h => a c o h
theorem Keep.put {x : Addr} {H : Hp} {o : HO} : Keep x H (L2.upd H x o) := fun b u n h => by rw [upd_ne n]; exact h
theorem Keep.fresh {x a : Addr} {H : Hp} {o : HO} (n : H a = none) : Keep x H (L2.upd H a o) := fun b u _ h => by rw [upd_ne (ne_of_none h n)]; exact h
theorem same_new {a : Addr} {H : Hp} {o : HO} (n : H a = none) : Same H (upd H a o) := fun b u h => by rw [upd_ne (ne_of_none h n)]; exact h
/-- a def, found by its name, with its promise -/
structure Dv (P : Program) (w : World) (K : PySem.W.Frag) (mg : Str → Option Value) (base : Heap) (CX : CXT) (k : Nat) (x : Str) (ps : List Str) (sp : Sp) : Prop where
  ex : ∃ f fd, FnOk P w K mg base CX k f fd ps sp ∧ mg x = some (.ref f) ∧ PySem.W.keepIn K (.ref f) = true ∧ Binds K fd ps []
theorem Dv.imp {P : Program} {w : World} {K : PySem.W.Frag} {mg : Str → Option Value} {base : Heap} {CX : CXT} {j k : Nat} {x : Str} {ps : List Str} {sp sp' : Sp} (D : Dv P w K mg base CX j x ps sp) (hk : j ≤ k) (h : ∀ vs H Q E, sp' vs H Q E → sp vs H Q E) : Dv P w K mg base CX k x ps sp' := by
  obtain ⟨f, fd, F, r⟩ := D.ex
  exact ⟨f, fd, (F.mono hk).imp h, r⟩
section
variable {X : Cx} {CX : CXT} {k : Nat} {x : Str} {ps : List Str} {sp : Sp} {E : XK} {e : Expr} {es : List Expr} {t : TA} {p pos : Pos}
/-- x(e, ..) -/
theorem pe_dv (D : Dv X.prog X.w X.K X.mg X.base CX k x ps sp) (hr : Room k X.A) (hx : Passes CX X E) (ha : PA X (e :: es) t) (hg : Gl X x := by rfl) (hdb : (x == ("__debug__" : Str)) = false := by decide)
    (he : starEach (e :: es) X.env = (false, eval e X.env) :: starEach es X.env := by rfl) (hpl : (backTo pos (starEach es X.env)).any (·.1) = false := by rfl) : PE X (.Call (.Name x p) (e :: es) [] pos) (fun σ H Q => t σ H fun vs H1 => sp vs H1 Q E) := by
  obtain ⟨f, fd, F, hm, hk, hb⟩ := D.ex
  refine ⟨fun pins s σ H Q I h => (pe_call F hr hg hm hk hb .nil hx ha hdb he hpl).run pins s σ H Q I ?_⟩
  show t σ H fun vs H1 => sp (vs ++ []) H1 Q E
  have e2 : (fun (vs : List V) (H1 : Hp) => sp (vs ++ []) H1 Q E) = fun vs H1 => sp vs H1 Q E := by
    funext vs H1
    rw [List.append_nil]
  rw [e2]
  exact h
end
/-- a class, found by its name, with the promise of its __init__ -/
structure Mv (P : Program) (w : World) (K : PySem.W.Frag) (mg : Str → Option Value) (base : Heap) (CX : CXT) (k : Nat) (x : Str) (C : Addr) (ps : List Str) (sp : Sp) : Prop where
  ex : ∃ f fd, Mk K C f ∧ FnOk P w K mg base CX k f fd ps sp ∧ Binds K fd ps []
  gl : mg x = some (.ref C)
section
variable {X : Cx} {CX : CXT} {k : Nat} {C : Addr} {x : Str} {ps : List Str} {sp : Sp} {E : XK} {e : Expr} {es : List Expr} {t : TA} {te : TE} {p p2 pos : Pos}
/-- what a call of a class asks: the promise of its __init__ at a fresh object -/
def MadeBy (C : Addr) (sp : Sp) (E : XK) (vs : List V) (H : Hp) (Q : VK) : Prop := ∀ x dx, H x = none → H dx = none → dx ≠ x → sp (.ref x :: vs) (upd (upd H dx (.own x)) x (.ins C dx [])) (fun v H2 => v = .non ∧ Q (.ref x) H2) E
/-- x(e, ..), x a class -/
theorem pe_mv (D : Mv X.prog X.w X.K X.mg X.base CX k x C ps sp) (hr : Room (k + 1) X.A) (hx : Passes CX X E) (ha : PA X (e :: es) t) (hg : Gl X x := by rfl) (hdb : (x == ("__debug__" : Str)) = false := by decide)
    (he : starEach (e :: es) X.env = (false, eval e X.env) :: starEach es X.env := by rfl) (hpl : (backTo pos (starEach es X.env)).any (·.1) = false := by rfl) : PE X (.Call (.Name x p) (e :: es) [] pos) (fun σ H Q => t σ H fun vs H1 => MadeBy C sp E vs H1 Q) := by
  obtain ⟨f, fd, M, F, hb⟩ := D.ex
  refine ⟨fun pins s σ H Q I h => (pe_make M F hr hg D.gl hb .nil hx ha hdb he hpl).run pins s σ H Q I ?_⟩
  show t σ H fun vs H1 => ∀ x dx, H1 x = none → H1 dx = none → dx ≠ x → sp (.ref x :: (vs ++ [])) (upd (upd H1 dx (.own x)) x (.ins C dx [])) (fun v H2 => v = .non ∧ Q (.ref x) H2) E
  have e2 : (fun (vs : List V) (H1 : Hp) => ∀ x dx, H1 x = none → H1 dx = none → dx ≠ x → sp (.ref x :: (vs ++ [])) (upd (upd H1 dx (.own x)) x (.ins C dx [])) (fun v H2 => v = .non ∧ Q (.ref x) H2) E) = fun vs H1 => MadeBy C sp E vs H1 Q := by
    funext vs H1
    rw [List.append_nil]
    rfl
  rw [e2]
  exact h
/-- x(*e), x a class -/
theorem pe_mvS (D : Mv X.prog X.w X.K X.mg X.base CX k x C ps sp) (hr : Room (k + 1) X.A) (hx : Passes CX X E) (he : PE X e te) (hg : Gl X x := by rfl) (hdb : (x == ("__debug__" : Str)) = false := by decide)
    (hst : starEach [.Starred e p2] X.env = [(true, eval e X.env)] := by rfl) : PE X (.Call (.Name x p) [.Starred e p2] [] pos) (fun σ H Q => te σ H fun y H1 => ∃ a xs, y = V.ref a ∧ (SqT X.K H1 a xs ∨ SqL X.K H1 a xs) ∧ MadeBy C sp E xs H1 Q) := by
  obtain ⟨f, fd, M, F, hb⟩ := D.ex
  refine ⟨fun pins s σ H Q I h => ?_⟩
  refine wpAny_Call_Name_kw (ld_glob I hg D.gl ?_ hdb)
  refine PySem.W.callWith_S (h₀ := X.base) I.ok.mod.kin M.kp (thn (he.run pins s σ H _ I h) fun v s1 ⟨y, H1, I1, ry, a, xs, ey, hxs, q⟩ => ?_) hst
  subst ey
  obtain rfl : v = Value.ref a := ry
  refine StX.star_any I1 hxs fun us s2 I2 rv => ⟨I2.kIn, run_make M F hr hb .nil hx I2 rv ?_⟩
  rw [List.append_nil]
  exact q
end
/-- a property, by its getter's promise -/
structure Pv (P : Program) (w : World) (K : PySem.W.Frag) (mg : Str → Option Value) (base : Heap) (C : Addr) (x g : Str) : Prop where
  ex : ∃ p f fd, PropOf K C x p f ∧ FnOk P w K mg base CX0 1 f fd ["self"] (getSp C g) ∧ Binds K fd ["self"] []
section
variable {X : Cx} {C : Addr} {x g : Str} {e : Expr} {ta : TE} {pos : Pos}
theorem pe_pv (D : Pv X.prog X.w X.K X.mg X.base C x g) (he : PE X e ta) (c : Cls X.K C) (hr : Room 2 X.A) (hab : attributeBase e x X.env (eval e X.env) = eval e X.env := by rfl) :
    PE X (.Attribute e x pos) (fun σ H Q => ta σ H fun y H1 => ∃ a dx fs v, y = .ref a ∧ H1 a = some (.ins C dx fs) ∧ fs.lookup g = some v ∧ Q v H1) := by
  obtain ⟨p, f, fd, hp, F, hb⟩ := D.ex
  refine ⟨fun pins s σ H Q I h => ?_⟩
  refine attr_of hab (thn (he.run pins s σ H _ I h) fun u s1 ⟨y, H1, I1, rx, a, dx, fs, v, ex, ea, l, q⟩ => ?_)
  subst ex
  obtain rfl : u = Value.ref a := rx
  exact getprop_ok (CX := CX0) (E := E0) (dvs := []) (ds := []) I1 ea c hp F hr hb .nil pass0 ⟨a, dx, fs, v, rfl, ea, l, q⟩
end
/-- a feed: three ints -/
def FeedAt (H : Hp) (f : Addr) : Prop := ∃ a b c : Int, H f = some (.lst [.int a, .int b, .int c])
/-- the feed may have moved, all else is as it was -/
structure Fed (f : Addr) (H H' : Hp) : Prop where
  at_ : FeedAt H' f
  kp : Keep f H H'
theorem Fed.trans {f : Addr} {H H1 H2 : Hp} (a : Fed f H H1) (b : Fed f H1 H2) : Fed f H H2 := ⟨b.at_, a.kp.trans b.kp⟩
theorem FeedAt.same {f : Addr} {H H' : Hp} (a : FeedAt H f) (s : Same H H') : FeedAt H' f := let ⟨x, y, z, e⟩ := a; ⟨x, y, z, s _ _ e⟩
theorem Fed.same {f : Addr} {H H' : Hp} (a : FeedAt H f) (s : Same H H') : Fed f H H' := ⟨a.same s, Keep.of_same s⟩
theorem Fed.step {f : Addr} {H H1 H2 : Hp} (a : Fed f H H1) (s : Same H1 H2) : Fed f H H2 := a.trans (Fed.same a.at_ s)
theorem FeedAt.ne {f b : Addr} {H : Hp} {o : HO} (a : FeedAt H f) (e : H b = some o) (h : ∀ xs, o ≠ .lst xs) : b ≠ f := fun z => by
  obtain ⟨x, y, c, q⟩ := a
  rw [z, q] at e
  cases e
  exact h _ rfl

/-- the classes -/
structure Cs where
  span : Addr
  tie : Addr
  chain : Addr
  bundle : Addr
  snap : Addr
def Cs.op (c : Cs) (p : Bool) : Addr := if p then c.bundle else c.chain
def SpanAt (c : Cs) (H : Hp) (b : Addr) (s : S2) : Prop := ∃ dx, H b = some (.ins c.span dx [("low", .int s.1), ("high", .int s.2)])
def OrdAt (H : Hp) (t : Addr) (n : Nat) : Prop := ∃ xs, H t = some (.tup xs) ∧ xs.length = n
/-- the piece at a is of the shape p -/
def PieceAt (c : Cs) (H : Hp) : Plan → Addr → Prop
  | .leaf x lo hi, a => ∃ dx b t j, H a = some (.ins c.tie dx [("bounds", .ref b), ("order", .ref t), ("joints", .int j), ("name", .str x)]) ∧ SpanAt c H b (lo, hi) ∧ OrdAt H t 1
  | .op p l r, a => ∃ dx b t j u v s, H a = some (.ins (c.op p) dx [("bounds", .ref b), ("order", .ref t), ("joints", .int j), ("left", .ref u), ("right", .ref v)]) ∧ SpanAt c H b s ∧ (Plan.op p l r).span = some s ∧ OrdAt H t (Plan.op p l r).size ∧
      PieceAt c H l u ∧ PieceAt c H r v
/-- what is read of objects that nobody changes: instances, tuples -/
def Stay (H H' : Hp) : Prop := ∀ b o, (∀ xs, o ≠ .lst xs) → H b = some o → H' b = some o
theorem Stay.of_same {H H' : Hp} (s : Same H H') : Stay H H' := fun b o _ h => s b o h
theorem Stay.trans {H H1 H2 : Hp} (a : Stay H H1) (b : Stay H1 H2) : Stay H H2 := fun c o n h => b c o n (a c o n h)
theorem Stay.refl (H : Hp) : Stay H H := fun _ _ _ h => h
theorem Stay.fed {f : Addr} {H H' : Hp} (a : FeedAt H f) (k : Keep f H H') : Stay H H' := fun b o n h => k b o (a.ne h n) h
theorem Stay.keep {f : Addr} {xs : List V} {H H' : Hp} (a : H f = some (.lst xs)) (k : Keep f H H') : Stay H H' := fun b o n h => k b o (fun z => by rw [z, a] at h; cases h; exact n _ rfl) h
theorem SpanAt.stay {c : Cs} {H H' : Hp} {b : Addr} {s : S2} (k : Stay H H') (h : SpanAt c H b s) : SpanAt c H' b s := let ⟨dx, e⟩ := h; ⟨dx, k _ _ (fun _ z => nomatch z) e⟩
theorem OrdAt.stay {H H' : Hp} {t : Addr} {n : Nat} (k : Stay H H') (h : OrdAt H t n) : OrdAt H' t n := let ⟨xs, e, l⟩ := h; ⟨xs, k _ _ (fun _ z => nomatch z) e, l⟩
theorem PieceAt.stay {c : Cs} {H H' : Hp} (k : Stay H H') : ∀ {p : Plan} {a : Addr}, PieceAt c H p a → PieceAt c H' p a
  | .leaf x lo hi, a, ⟨dx, b, t, j, e, h1, h2⟩ => ⟨dx, b, t, j, k _ _ (fun _ z => nomatch z) e, h1.stay k, h2.stay k⟩
  | .op p l r, a, ⟨dx, b, t, j, u, v, s, e, h1, h2, h3, h4, h5⟩ => ⟨dx, b, t, j, u, v, s, k _ _ (fun _ z => nomatch z) e, h1.stay k, h2, h3.stay k, PieceAt.stay k h4, PieceAt.stay k h5⟩
/-- its bounds, its order, its joints -/
theorem PieceAt.head {c : Cs} {H : Hp} {p : Plan} {a : Addr} (h : PieceAt c H p a) : ∃ C dx b t j fs s, H a = some (.ins C dx (("bounds", .ref b) :: ("order", .ref t) :: ("joints", .int j) :: fs)) ∧ (C = c.tie ∨ C = c.chain ∨ C = c.bundle) ∧ SpanAt c H b s ∧ p.span = some s ∧ OrdAt H t p.size := by
  cases p with
  | leaf x lo hi =>
    obtain ⟨dx, b, t, j, e, h1, h2⟩ := h
    exact ⟨_, _, _, _, _, _, _, e, .inl rfl, h1, rfl, h2⟩
  | op p l r =>
    obtain ⟨dx, b, t, j, u, v, s, e, h1, h2, h3, _⟩ := h
    refine ⟨_, _, _, _, _, _, _, e, ?_, h1, h2, h3⟩
    cases p
    · exact .inr (.inl rfl)
    · exact .inr (.inr rfl)
end Wr
-- WrA
/-! small defs of the program: is_whole, is_name, Span -/
namespace Wr
open PySem L2
/-- the built-in names that the text reads -/
def blts : List Str := ["isinstance", "int", "bool", "str", "tuple", "list", "dict", "len", "range", "enumerate", "abs", "min", "max", "sorted", "all"]
section
variable {P : Program} {w : World} {K : PySem.W.Frag} {mg : Str → Option Value} {base : Heap} {f : Addr} {fd : FuncData}

abbrev sIsWhole : Stmt := top 31
theorem scIsWhole : FnScope ["value"] ["value"] (defScope sIsWhole) := ⟨rfl, rfl, rfl, by decide +kernel, rfl, by decide +kernel, by decide +kernel⟩
def spIsWhole : Sp := fun vs H Q _ => ∃ i : Int, vs = [.int i] ∧ Q (.bl true) H
theorem ok_is_whole (hb : ∀ x ∈ blts, mg x = none) (F : L2.Fun K "is_whole" "is_whole" sIsWhole f fd) (hm : mg "is_whole" = some (.ref f)) : Dv P w K mg base CX0 1 "is_whole" ["value"] spIsWhole := by
  refine ⟨f, fd, F.ok scIsWhole (fun vs H Q E h => ?_) (fun cdv A outer s H vs Q E hr h => ?_), hm, F.kp, F.binds fun _ _ _ _ _ _ us hl => match us, hl with | [_], _ => rfl⟩
  · obtain ⟨i, rfl, _⟩ := h
    rfl
  · obtain ⟨i, rfl, k⟩ := h
    refine ⟨_, pss_one (ps_ret (pe_and (pe_callB call_isi rfl (hb _ (by decide)) (by first | rfl | kernel_rfl) (pa_cons (pv 0) (pa_cons (pe_bltn (v := .ty "int") rfl (hb _ (by decide)) (by first | rfl | kernel_rfl) rfl) pa_nil)))
      (pe_one (pe_not (pe_callB call_isi rfl (hb _ (by decide)) (by first | rfl | kernel_rfl) (pa_cons (pv 0) (pa_cons (pe_bltn (v := .ty "bool") rfl (hb _ (by decide)) (by first | rfl | kernel_rfl) rfl) pa_nil))))))), ?_⟩
    refine ⟨_, rfl, .int i, .ty "int", .type "int", .type "int", true, rfl, .ty _, .base (.int i), kit_ty (by first | rfl | decide +kernel), true, rfl, ?_⟩
    refine iteT ⟨_, rfl, .int i, .ty "bool", .type "int", .type "bool", false, rfl, .ty _, .base (.int i), kit_ty (by first | rfl | decide +kernel), false, rfl, k⟩

/-- what of the text Span must have -/
structure SpanC (K : PySem.W.Frag) (mg : Str → Option Value) (c : Cs) : Prop where
  cls : Cls K c.span
  gl : mg "Span" = some (.ref c.span)
  nl : NoAttr K c.span "low"
  nh : NoAttr K c.span "high"
abbrev sSpanI : Stmt := mth 36 0
theorem scSpanI : FnScope ["self", "least", "greatest"] ["self", "least", "greatest"] (defScope sSpanI) := ⟨rfl, rfl, rfl, by decide +kernel, rfl, by decide +kernel, by decide +kernel⟩
def spSpanI (c : Cs) : Sp := fun vs H Q _ => ∃ (x dx : Addr) (s : S2), vs = [.ref x, .int s.1, .int s.2] ∧ okS s ∧ H x = some (.ins c.span dx []) ∧ Q .non (upd H x (.ins c.span dx [("low", .int s.1), ("high", .int s.2)]))
theorem ok_span_init {c : Cs} (C : SpanC K mg c) (D : Dv P w K mg base CX0 1 "is_whole" ["value"] spIsWhole) (F : L2.Fun K "__init__" "Span.__init__" sSpanI f fd) : FnOk P w K mg base CX0 2 f fd ["self", "least", "greatest"] (spSpanI c) := by
  refine F.ok scSpanI (fun vs H Q E h => ?_) (fun cdv A outer s H vs Q E hr h => ?_)
  · obtain ⟨x, dx, s, rfl, _⟩ := h
    rfl
  · obtain ⟨x, dx, s, rfl, hs, hx, k⟩ := h
    obtain ⟨s1, s2⟩ := s
    obtain ⟨h1, h2⟩ := hs
    simp only at h1 h2 k
    refine ⟨_, pss_cons (ps_if (pw_or (pt_not (pt_val (pe_dv D hr pass0 (pa_cons (pv 1) pa_nil)))) (pw_or (pt_not (pt_val (pe_dv D hr pass0 (pa_cons (pv 2) pa_nil)))) (pw_or1 (pt_not (pt_chain op_le op_le pe_int (pv 1) (pv 2)))))).pt pss_never pss_nil)
      (pss_cons (ps_fld (pv 0) (pv 1) rfl) (pss_one (ps_fld (pv 0) (pv 2) rfl))), ?_⟩
    refine ⟨_, rfl, s1, rfl, true, rfl, ?_⟩
    refine iteF ⟨_, rfl, s2, rfl, true, rfl, ?_⟩
    refine iteF ⟨_, rfl, _, _, rfl, rfl, decide (0 ≤ s1), rfl, ?_⟩
    rw [decide_eq_true h1]
    refine iteT ⟨_, rfl, _, _, rfl, rfl, decide (s1 ≤ s2), rfl, ?_⟩
    rw [decide_eq_true h2]
    refine iteF ⟨_, rfl, _, rfl, x, c.span, dx, _, rfl, hx, C.cls, C.nl, by decide, ?_⟩
    refine ⟨_, rfl, _, rfl, x, c.span, dx, _, rfl, upd_same, C.cls, C.nh, (by show 1 < 1000; decide), ?_⟩
    rw [upd_upd]
    exact k

/-- Span(a, b) makes such a span -/
theorem made_span {c : Cs} {H : Hp} {Q : VK} {vs : List V} {s : S2} (hv : vs = [.int s.1, .int s.2]) (hs : okS s) (k : ∀ x H', Same H H' → SpanAt c H' x s → Q (.ref x) H') : MadeBy c.span (spSpanI c) E0 vs H Q := by
  intro x dx nx nd hne
  subst hv
  refine ⟨x, dx, s, rfl, hs, upd_same, rfl, ?_⟩
  rw [upd_upd]
  refine k x _ (Same.made (C := c.span) nx nd fun b o e n => ?_) ⟨dx, upd_same⟩
  rw [upd_ne n] at e ⊢
  exact e
abbrev SpanMv (P : Program) (w : World) (K : PySem.W.Frag) (mg : Str → Option Value) (base : Heap) (c : Cs) : Prop := Mv P w K mg base CX0 2 "Span" c.span ["self", "least", "greatest"] (spSpanI c)

abbrev sSpanAdd : Stmt := mth 36 7
theorem scSpanAdd : FnScope ["self", "other", "least"] ["self", "other"] (defScope sSpanAdd) := ⟨rfl, rfl, rfl, by decide +kernel, rfl, by decide +kernel, by decide +kernel⟩
def spSpanAdd (c : Cs) : Sp := fun vs H Q _ => ∃ (a b : Addr) (s t : S2), vs = [.ref a, .ref b] ∧ SpanAt c H a s ∧ SpanAt c H b t ∧ okS s ∧ okS t ∧ ∀ x H', Same H H' → SpanAt c H' x (addS s t) → Q (.ref x) H'
theorem max_if (i j : Int) : (if j > i then j else i) = max i j := by split <;> omega
theorem min_if (i j : Int) : (if j < i then j else i) = min i j := by split <;> omega
theorem ok_span_add {c : Cs} (hb : ∀ x ∈ blts, mg x = none) (C : SpanC K mg c) (M : SpanMv P w K mg base c) (F : L2.Fun K "__add__" "Span.__add__" sSpanAdd f fd) : FnOk P w K mg base CX0 4 f fd ["self", "other"] (spSpanAdd c) := by
  refine F.ok scSpanAdd (fun vs H Q E h => ?_) (fun cdv A outer s H vs Q E hr h => ?_)
  · obtain ⟨a, b, s, t, rfl, _⟩ := h
    rfl
  · obtain ⟨a, b, s, t, rfl, ⟨dx, ha⟩, ⟨dy, hb'⟩, hs, ht, k⟩ := h
    refine ⟨_, pss_cons (ps_set (i := 2) scSpanAdd.nd rfl (Or.inl rfl) (pe_op op_add (pe_callB (call_max2 rfl) rfl (hb _ (by decide)) (by first | rfl | kernel_rfl) (pa_cons pe_int (pa_cons (pe_op op_sub (pe_fld (pv 0) rfl) (pe_fld (pv 1) rfl)) pa_nil)))
        (pe_callB (call_max2 rfl) rfl (hb _ (by decide)) (by first | rfl | kernel_rfl) (pa_cons pe_int (pa_cons (pe_op op_sub (pe_fld (pv 1) rfl) (pe_fld (pv 0) rfl)) pa_nil)))))
      (pss_one (ps_ret (pe_mv M hr pass0 (pa_cons (pv 2) (pa_cons (pe_op op_add (pe_fld (pv 0) rfl) (pe_fld (pv 1) rfl)) pa_nil))))), ?_⟩
    refine ⟨_, rfl, a, _, dx, _, .int s.1, rfl, ha, C.cls, C.nl, rfl, _, rfl, b, _, dy, _, .int t.2, rfl, hb', C.cls, C.nh, rfl, _, _, rfl, rfl, _, _, rfl, ?_⟩
    refine ⟨_, rfl, b, _, dy, _, .int t.1, rfl, hb', C.cls, C.nl, rfl, _, rfl, a, _, dx, _, .int s.2, rfl, ha, C.cls, C.nh, rfl, _, _, rfl, rfl, _, _, rfl, _, _, rfl, rfl, ?_⟩
    rw [max_if, max_if]
    refine ⟨_, rfl, _, rfl, a, _, dx, _, .int s.2, rfl, ha, C.cls, C.nh, rfl, _, rfl, b, _, dy, _, .int t.2, rfl, hb', C.cls, C.nh, rfl, _, _, rfl, rfl, ?_⟩
    exact made_span (s := addS s t) rfl (add_ok hs ht) k
end
end Wr
-- WrB
/-! Span.__and__, Span.__str__ -/
namespace Wr
open PySem L2
abbrev sSnapI : Stmt := mth 4 0
structure SnapC (P : Program) (K : PySem.W.Frag) (mg : Str → Option Value) (c : Cs) : Prop where
  txt : ∃ f c0 cc, ErrTxt K P "Snapped.__init__" "low" "high" sSnapI c.snap f c0 cc
  gl : mg "Snapped" = some (.ref c.snap)
section
variable {X : Cx} {e1 e2 : Expr} {ta : TA} {c : Cs} {k : Nat} {np pos : Pos}
theorem pmk_snap (S : SnapC X.prog X.K X.mg c) (hr : Room k X.A) (hk : 1 ≤ k) (ha : PA X [e1, e2] ta) (hg : Gl X "Snapped") (he : starEach [e1, e2] X.env = (false, eval e1 X.env) :: starEach [e2] X.env) (hpl : (backTo pos (starEach [e2] X.env)).any (·.1) = false) :
    PMk X (.Call (.Name "Snapped" np) [e1, e2] [] pos) (fun σ H Q => ta σ H fun vs H1 => vs.length = 2 ∧ ∀ d, Q (.ref c.snap) (some d) H1) := by
  obtain ⟨f, c0, cc, T⟩ := S.txt
  refine pmk_err T S.gl hr hk rfl (by decide +kernel) (by decide +kernel) rfl rfl rfl rfl rfl (by decide +kernel) rfl (fun x v1 v2 doc pm ct => rfl) (fun env => ⟨_, rfl⟩) (by decide) (by decide) ha hg (by decide) he hpl
end
section
variable {P : Program} {w : World} {K : PySem.W.Frag} {mg : Str → Option Value} {base : Heap} {f : Addr} {fd : FuncData} {c : Cs}
abbrev sSpanAnd : Stmt := mth 36 10
theorem scSpanAnd : FnScope ["self", "other", "least", "greatest"] ["self", "other"] (defScope sSpanAnd) := ⟨rfl, rfl, rfl, by decide +kernel, rfl, by decide +kernel, by decide +kernel⟩
def spSpanAnd (c : Cs) : Sp := fun vs H Q E => ∃ (a b : Addr) (s t : S2), vs = [.ref a, .ref b] ∧ SpanAt c H a s ∧ SpanAt c H b t ∧ okS s ∧ okS t ∧ (∀ r x H', andS s t = some r → Same H H' → SpanAt c H' x r → Q (.ref x) H') ∧ (andS s t = none → ∀ d, E (.ref c.snap) (some d) H)
theorem ok_span_and (hb : ∀ x ∈ blts, mg x = none) (C : SpanC K mg c) (S : SnapC P K mg c) (M : SpanMv P w K mg base c) (F : L2.Fun K "__and__" "Span.__and__" sSpanAnd f fd) : FnOk P w K mg base (L2.CX P w) 4 f fd ["self", "other"] (spSpanAnd c) := by
  refine F.okX scSpanAnd (fun vs H Q E h => ?_) (fun cdv A outer s H vs Q E hr h => ?_)
  · obtain ⟨a, b, s, t, rfl, _⟩ := h
    rfl
  · obtain ⟨a, b, s, t, rfl, ⟨dx, ha⟩, ⟨dy, hb'⟩, hs, ht, k1, k2⟩ := h
    refine ⟨_, pss_cons (ps_par (i := 2) (j := 3) rfl scSpanAnd.nd rfl rfl (by decide) rfl rfl (pa_cons (pe_callB (call_max2 rfl) rfl (hb _ (by decide)) (by first | rfl | kernel_rfl) (pa_cons (pe_fld (pv 0) rfl) (pa_cons (pe_fld (pv 1) rfl) pa_nil)))
        (pa_cons (pe_callB (call_min2 rfl) rfl (hb _ (by decide)) (by first | rfl | kernel_rfl) (pa_cons (pe_fld (pv 0) rfl) (pa_cons (pe_fld (pv 1) rfl) pa_nil))) pa_nil)) rfl)
      (pss_cons (ps_if (pt_cmpR op_gt (pv 2) (pv 3) (nomark _)) (pss_one (ps_raise rfl (takes_of rfl rfl rfl rfl) (pmk_snap S hr (by decide) (pa_cons (pv 2) (pa_cons (pv 3) pa_nil)) rfl rfl rfl))) pss_nil)
      (pss_one (ps_ret (pe_mv M hr pass0 (pa_cons (pv 2) (pa_cons (pv 3) pa_nil)))))), ?_⟩
    refine ⟨_, rfl, a, _, dx, _, .int s.1, rfl, ha, C.cls, C.nl, rfl, _, rfl, b, _, dy, _, .int t.1, rfl, hb', C.cls, C.nl, rfl, _, _, rfl, ?_⟩
    refine ⟨_, rfl, a, _, dx, _, .int s.2, rfl, ha, C.cls, C.nh, rfl, _, rfl, b, _, dy, _, .int t.2, rfl, hb', C.cls, C.nh, rfl, _, _, rfl, _, _, rfl, ?_⟩
    rw [max_if, min_if]
    refine ⟨_, rfl, _, rfl, _, _, rfl, rfl, _, rfl, ?_⟩
    by_cases h : max s.1 t.1 ≤ min s.2 t.2
    · rw [decide_eq_false (by omega)]
      refine iteF ⟨_, rfl, _, rfl, ?_⟩
      have e : andS s t = some (max s.1 t.1, min s.2 t.2) := by unfold andS; rw [if_pos h]
      exact made_span (s := (max s.1 t.1, min s.2 t.2)) rfl (op_ok (p := true) hs ht e) fun x H' => k1 _ x H' e
    · rw [decide_eq_true (by omega)]
      have e : andS s t = none := by unfold andS; rw [if_neg h]
      exact iteT ⟨_, rfl, _, rfl, rfl, k2 e⟩

abbrev sSpanStr : Stmt := mth 36 15
theorem scSpanStr : FnScope ["self"] ["self"] (defScope sSpanStr) := ⟨rfl, rfl, rfl, by decide +kernel, rfl, by decide +kernel, by decide +kernel⟩
/-- a span's text -/
def spanText (s : S2) : Str := if s.1 = s.2 then (toString s.1 : String) else Str.empty ++ ((toString s.1 : String) : Str) ++ (".." : String) ++ ((toString s.2 : String) : Str)
def spSpanStr (c : Cs) : Sp := fun vs H Q _ => ∃ (a : Addr) (s : S2), vs = [.ref a] ∧ SpanAt c H a s ∧ okS s ∧ s.2 ≤ 1000000 ∧ Q (.str (spanText s)) H
theorem log_of {i : Int} (h0 : 0 ≤ i) (h : i ≤ 1000000) : i.natAbs.log2 < 1920 := log_small (by omega)
theorem int_len {i : Int} (h0 : 0 ≤ i) (h : i ≤ 1000000) : (Str.ofString (toString i)).length ≤ 100 := by
  have := shown_small (i := i) (by omega)
  exact this
theorem ok_span_str {t0 : Tok} (hb : ∀ x ∈ blts, mg x = none) (C : SpanC K mg c) (hD : mg "DOTS" = some (.str ".." t0)) (F : L2.Fun K "__str__" "Span.__str__" sSpanStr f fd) : FnOk P w K mg base CX0 1 f fd ["self"] (spSpanStr c) := by
  refine F.ok scSpanStr (fun vs H Q E h => ?_) (fun cdv A outer s H vs Q E hr h => ?_)
  · obtain ⟨a, s, rfl, _⟩ := h
    rfl
  · obtain ⟨a, s, rfl, ⟨dx, ha⟩, ⟨h1, h2⟩, h3, k⟩ := h
    refine ⟨_, pss_cons (ps_if (pt_cmpR op_eq (pe_fld (pv 0) rfl) (pe_fld (pv 0) rfl) (nomark _)) (pss_one (ps_ret (pe_callTy call_str_int rfl (hb _ (by decide)) (by first | rfl | kernel_rfl) (pa_cons (pe_fld (pv 0) rfl) pa_nil)))) pss_nil)
      (pss_one (ps_ret (pe_joined (.cons (pe_fmt (pe_fld (pv 0) rfl)) (.cons (pe_fmt (pe_glob (v := .str "..") rfl hD ⟨_, rfl⟩)) (.cons (pe_fmt (pe_fld (pv 0) rfl)) .nil)))))), ?_⟩
    refine ⟨_, rfl, a, _, dx, _, .int s.1, rfl, ha, C.cls, C.nl, rfl, _, rfl, a, _, dx, _, .int s.2, rfl, ha, C.cls, C.nh, rfl, rfl, _, rfl, ?_⟩
    unfold spanText at k
    refine ite2 (fun e => ?_) (fun e => ?_)
    · have e := of_decide_eq_true e
      injection e with e
      rw [if_pos e] at k
      exact ⟨_, rfl, a, _, dx, _, .int s.1, rfl, ha, C.cls, C.nl, rfl, _, rfl, log_of h1 (by omega), k⟩
    · have e : ¬ s.1 = s.2 := fun z => e (by rw [z]; simp)
      rw [if_neg e] at k
      have l1 := int_len h1 (by omega)
      have l2 := int_len (i := s.2) (by omega) h3
      refine ⟨_, rfl, a, _, dx, _, .int s.1, rfl, ha, C.cls, C.nl, rfl, .inr ⟨s.1, rfl, log_of h1 (by omega), ?_⟩⟩
      refine ⟨_, rfl, ?_, .inl ⟨_, rfl, by decide, ?_⟩⟩
      · rw [strLen_append, sizeLine_eq]; show 0 + _ ≤ _; omega
      refine ⟨_, rfl, ?_, _, rfl, a, _, dx, _, .int s.2, rfl, ha, C.cls, C.nh, rfl, .inr ⟨s.2, rfl, log_of (by omega) h3, ?_⟩⟩
      · rw [strLen_append, strLen_append, sizeLine_eq]; show 0 + _ + 2 ≤ _; omega
      refine ⟨_, rfl, ?_, k⟩
      · rw [strLen_append, strLen_append, strLen_append, sizeLine_eq]; show 0 + _ + 2 + _ ≤ _; omega
end
end Wr
-- WrC
/-! pieces: their __init__s -/
namespace Wr
open PySem L2 NdefX
/-- what of the text a class of pieces must have -/
structure PcC (K : PySem.W.Frag) (C : Addr) : Prop where
  cls : Cls K C
  nb : NoAttr K C "bounds"
  no : NoAttr K C "order"
  nj : NoAttr K C "joints"
  nn : NoAttr K C "name"
  nl : NoAttr K C "left"
  nr : NoAttr K C "right"
structure PcCs (K : PySem.W.Frag) (c : Cs) : Prop where
  tie : PcC K c.tie
  chain : PcC K c.chain
  bundle : PcC K c.bundle
theorem PcCs.op {K : PySem.W.Frag} {c : Cs} (h : PcCs K c) (p : Bool) : PcC K (c.op p) := by
  cases p
  · exact h.chain
  · exact h.bundle
/-- a bare new instance is none of those that hold something -/
theorem ins_ne {H : Hp} {x b C dx D dy : Addr} {f : Str × V} {fs : List (Str × V)} (hx : H x = some (.ins C dx [])) (hb : H b = some (.ins D dy (f :: fs))) : b ≠ x := fun z => by
  rw [z, hx] at hb
  injection hb with hb
  injection hb with _ _ e
  cases e
/-- what a keeper of a bare new instance keeps of the pieces -/
theorem Stay.bare {H H' : Hp} {x C dx : Addr} (hx : H x = some (.ins C dx [])) (k : Keep x H H') {c : Cs} : (∀ {b s}, SpanAt c H b s → SpanAt c H' b s) ∧ (∀ {t n}, OrdAt H t n → OrdAt H' t n) ∧ ∀ {p : Plan} {a}, PieceAt c H p a → PieceAt c H' p a := by
  have h1 : ∀ {b s}, SpanAt c H b s → SpanAt c H' b s := fun {b s} h => let ⟨db, e⟩ := h; ⟨db, k b _ (ins_ne hx e) e⟩
  have h2 : ∀ {t n}, OrdAt H t n → OrdAt H' t n := fun {t n} h => let ⟨xs, e, l⟩ := h; ⟨xs, k t _ (fun z => by rw [z, hx] at e; cases e) e, l⟩
  refine ⟨h1, h2, ?_⟩
  intro p
  induction p with
  | leaf n lo hi =>
    intro a h
    obtain ⟨dx, b, t, j, e, s1, s2⟩ := h
    exact ⟨dx, b, t, j, k a _ (ins_ne hx e) e, h1 s1, h2 s2⟩
  | op q l r ihl ihr =>
    intro a h
    obtain ⟨dx, b, t, j, u, v, s, e, s1, s2, s3, s4, s5⟩ := h
    exact ⟨dx, b, t, j, u, v, s, k a _ (ins_ne hx e) e, h1 s1, s2, h2 s3, ihl s4, ihr s5⟩
theorem one_le : 1 ≤ sizeLine := by rw [PySem.sizeLine_eq]; exact (by decide : 1 ≤ 16777216)
theorem two_le : 2 ≤ sizeLine := by rw [PySem.sizeLine_eq]; exact (by decide : 2 ≤ 16777216)
theorem three_le : 3 ≤ sizeLine := by rw [PySem.sizeLine_eq]; exact (by decide : 3 ≤ 16777216)
section
variable {P : Program} {w : World} {K : PySem.W.Frag} {mg : Str → Option Value} {base : Heap} {f f2 c0 cc : Addr} {fd fd2 : FuncData} {c : Cs}
abbrev sPieceI : Stmt := mth 53 0
theorem scPieceI : FnScope ["self", "span", "names", "joints"] ["self", "span", "names", "joints"] (defScope sPieceI) := ⟨rfl, rfl, rfl, by decide +kernel, rfl, by decide +kernel, by decide +kernel⟩
def spPieceI (K : PySem.W.Frag) : Sp := fun vs H Q _ => ∃ (x C dx : Addr) (v1 v2 v3 : V), vs = [.ref x, v1, v2, v3] ∧ PcC K C ∧ H x = some (.ins C dx []) ∧ Q .non (upd H x (.ins C dx [("bounds", v1), ("order", v2), ("joints", v3)]))
theorem ok_piece_init {CX : CXT} (F : L2.Fun K "__init__" "Piece.__init__" sPieceI f fd) : FnOk P w K mg base CX0 1 f fd ["self", "span", "names", "joints"] (spPieceI K) := by
  refine F.ok scPieceI (fun vs H Q E h => ?_) (fun cdv A outer s H vs Q E hr h => ?_)
  · obtain ⟨x, C, dx, v1, v2, v3, rfl, _⟩ := h
    rfl
  · obtain ⟨x, C, dx, v1, v2, v3, rfl, pc, hx, k⟩ := h
    refine ⟨_, pss_cons (ps_fld (pv 0) (pv 1) rfl) (pss_cons (ps_fld (pv 0) (pv 2) rfl) (pss_one (ps_fld (pv 0) (pv 3) rfl))), ?_⟩
    refine ⟨_, rfl, _, rfl, x, C, dx, _, rfl, hx, pc.cls, pc.nb, by decide, ?_⟩
    refine ⟨_, rfl, _, rfl, x, C, dx, _, rfl, upd_same, pc.cls, pc.no, (by show 1 < 1000; decide), ?_⟩
    refine ⟨_, rfl, _, rfl, x, C, dx, _, rfl, upd_same, pc.cls, pc.nj, (by show 2 < 1000; decide), ?_⟩
    rw [upd_upd, upd_upd]
    exact k
abbrev sTieI : Stmt := mth 54 0
theorem scTieI : NScope ["self", "name", "span", "__class__"] ["self", "name", "span"] ["__class__"] (defScope sTieI) := nscope_by (by decide +kernel)
def spTieI (c : Cs) : Sp := fun vs H Q _ => ∃ (x dx b : Addr) (nm : Str) (s : S2), vs = [.ref x, .str nm, .ref b] ∧ SpanAt c H b s ∧ H x = some (.ins c.tie dx []) ∧ ∀ H', Keep x H H' → PieceAt c H' (.leaf nm s.1 s.2) x → Q .non H'
theorem ok_tie_init (T : SupTxt K P f "Tie.__init__" sTieI c.tie f2 fd c0 cc) (pc : PcC K c.tie) (G : FnOk P w K mg base CX0 1 f2 fd2 ["self", "span", "names", "joints"] (spPieceI K)) (b2 : Binds K fd2 ["self", "span", "names", "joints"] []) :
    FnOk P w K mg base CX0 3 f fd ["self", "name", "span"] (spTieI c) := by
  refine fn_sup T scTieI rfl (fun doc pm ct us hl => match us, hl with | [_, _, _], _ => rfl) (fun vs H Q E h => ?_) rfl rfl G b2 rfl rfl (fun A outer s H vs Q E hr h => ?_) (fun env => rfl) (fun env => rfl) (fun env => ⟨_, rfl⟩)
  · obtain ⟨x, dx, b, nm, s, rfl, _⟩ := h
    rfl
  · obtain ⟨x, dx, b, nm, s, rfl, hb, hx, k⟩ := h
    refine ⟨x, dx, [], _, _, rfl, hx, fun _ _ _ _ _ _ _ h => h.elim, pa_cons (pv 2) (pa_cons (pe_tup (pa_cons (pv 1) pa_nil)) (pa_cons pe_int pa_nil)), pss_one (ps_fld (pv 0) (pv 1) rfl), ?_⟩
    refine ⟨_, rfl, _, rfl, one_le, fun t ht => ?_⟩
    have xt : x ≠ t := ne_of_none hx ht
    refine ⟨x, c.tie, dx, _, _, _, rfl, pc, (upd_ne xt).trans hx, ?_⟩
    refine ⟨_, rfl, _, rfl, x, c.tie, dx, _, rfl, upd_same, pc.cls, pc.nn, (by show 3 < 1000; decide), ?_⟩
    rw [upd_upd]
    have kp : Keep x H (upd (upd H t (.tup [.str nm])) x (.ins c.tie dx [("bounds", .ref b), ("order", .ref t), ("joints", .int 0), ("name", .str nm)])) := (Keep.fresh ht).trans Keep.put
    refine k _ kp ⟨dx, b, t, 0, upd_same, ?_, [.str nm], ?_, rfl⟩
    · obtain ⟨db, e⟩ := hb
      exact ⟨db, kp b _ (ins_ne hx e) e⟩
    · rw [upd_ne (Ne.symm xt)]
      exact upd_same
end
end Wr
-- WrD
/-! pieces put together -/
namespace Wr
open PySem L2 NdefX
/-- Fam, without a context -/
structure FamD (P : Program) (w : World) (K : PySem.W.Frag) (mg : Str → Option Value) (base : Heap) (CX : CXT) (op : Operator) (k : Nat) (sp : Sp) (PC : Addr → Prop) : Prop where
  one : ∀ C, PC C → ∃ g fd ps, NumOp K op C g ∧ FnOk P w K mg base CX k g fd ps sp ∧ Binds K fd ps []
  two : ∀ C C', PC C → PC C' → PySem.W.subIn K (.ref C') (.ref C) = some false ∨ C' = C
theorem op_fam {X : Cx} {CX : CXT} {op : Operator} {k : Nat} {sp : Sp} {E : XK} {PC : Addr → Prop} (Fa : FamD X.prog X.w X.K X.mg X.base CX op k sp PC) (hr : Room k X.A) (hx : Passes CX X E) : OpR X (binaryOp op) (rNum PC sp E) := op_num ⟨Fa.one, Fa.two⟩ hr hx
section
variable {P : Program} {w : World} {K : PySem.W.Frag} {mg : Str → Option Value} {base : Heap} {f f2 c0 cc : Addr} {fd fd2 : FuncData} {c : Cs}
abbrev AddD (P : Program) (w : World) (K : PySem.W.Frag) (mg : Str → Option Value) (base : Heap) (c : Cs) : Prop := FamD P w K mg base CX0 .Add 4 (spSpanAdd c) (fun C => C = c.span)
abbrev AndD (P : Program) (w : World) (K : PySem.W.Frag) (mg : Str → Option Value) (base : Heap) (c : Cs) : Prop := FamD P w K mg base (L2.CX P w) .BitAnd 4 (spSpanAnd c) (fun C => C = c.span)
theorem PcCs.of {K : PySem.W.Frag} (h : PcCs K c) {C : Addr} (hC : C = c.tie ∨ C = c.chain ∨ C = c.bundle) : PcC K C := by
  rcases hC with rfl | rfl | rfl
  · exact h.tie
  · exact h.chain
  · exact h.bundle
abbrev sChainI : Stmt := mth 55 0
theorem scChainI : NScope ["self", "first", "second", "__class__"] ["self", "first", "second"] ["__class__"] (defScope sChainI) := nscope_by (by decide +kernel)
/-- a chain (p false) or a bundle of two pieces -/
def spOpI (c : Cs) (p : Bool) : Sp := fun vs H Q E => ∃ (x dx u v : Addr) (l r : Plan) (B : Int), vs = [.ref x, .ref u, .ref v] ∧ PieceAt c H l u ∧ PieceAt c H r v ∧ l.ok B ∧ r.ok B ∧ l.size + r.size ≤ 1000 ∧ H x = some (.ins (c.op p) dx []) ∧
  (∀ H', Keep x H H' → PieceAt c H' (.op p l r) x → Q .non H') ∧ ((Plan.op p l r).span = none → ∀ d, E (.ref c.snap) (some d) H)
theorem ok_chain_init (T : SupTxt K P f "Chain.__init__" sChainI c.chain f2 fd c0 cc) (pc : PcCs K c) (A : AddD P w K mg base c) (G : FnOk P w K mg base CX0 1 f2 fd2 ["self", "span", "names", "joints"] (spPieceI K)) (b2 : Binds K fd2 ["self", "span", "names", "joints"] []) :
    FnOk P w K mg base CX0 6 f fd ["self", "first", "second"] (spOpI c false) := by
  refine fn_sup (k := 4) T scChainI rfl (fun doc pm ct us hl => match us, hl with | [_, _, _], _ => rfl) (fun vs H Q E h => ?_) rfl rfl (G.mono (by decide)) b2 rfl rfl (fun A' outer s H vs Q E hr h => ?_) (fun env => rfl) (fun env => rfl) (fun env => ⟨_, rfl⟩)
  · obtain ⟨x, dx, u, v, l, r, B, rfl, _⟩ := h
    rfl
  · obtain ⟨x, dx, u, v, l, r, B, rfl, hl, hr', okl, okr, hsz, hx, k, _⟩ := h
    refine ⟨x, dx, [], _, _, rfl, hx, fun _ _ _ _ _ _ _ h => h.elim, pa_cons (pe_op (op_fam A (hr.mono (by decide)) pass0) (pe_fld (pv 1) rfl) (pe_fld (pv 2) rfl)) (pa_cons (pe_op op_catT (pe_fld (pv 1) rfl) (pe_fld (pv 2) rfl))
      (pa_cons (pe_op op_add (pe_op op_add (pe_fld (pv 1) rfl) (pe_fld (pv 2) rfl)) pe_int) pa_nil)), pss_cons (ps_fld (pv 0) (pv 1) rfl) (pss_one (ps_fld (pv 0) (pv 2) rfl)), ?_⟩
    obtain ⟨C1, dx1, b1, t1, j1, fs1, s1, e1, hC1, p1, es1, o1⟩ := hl.head
    obtain ⟨C2, dx2, b2, t2, j2, fs2, s2, e2, hC2, p2, es2, o2⟩ := hr'.head
    have P1 := pc.of hC1
    have P2 := pc.of hC2
    obtain ⟨db1, eb1⟩ := id p1
    obtain ⟨db2, eb2⟩ := id p2
    obtain ⟨xs1, et1, n1⟩ := o1
    obtain ⟨xs2, et2, n2⟩ := o2
    have z1 := l.size_pos
    have z2 := r.size_pos
    refine ⟨_, rfl, u, C1, dx1, _, .ref b1, rfl, e1, P1.cls, P1.nb, rfl, _, rfl, v, C2, dx2, _, .ref b2, rfl, e2, P2.cls, P2.nb, rfl, b1, _, db1, _, b2, _, db2, _, rfl, rfl, eb1, eb2, rfl, rfl, b1, b2, s1, s2, rfl, p1, p2, Plan.span_ok okl _ es1, Plan.span_ok okr _ es2, fun y H1 k1 py => ?_⟩
    refine ⟨_, rfl, u, C1, dx1, _, .ref t1, rfl, k1 _ _ e1, P1.cls, P1.no, rfl, _, rfl, v, C2, dx2, _, .ref t2, rfl, k1 _ _ e2, P2.cls, P2.no, rfl, t1, t2, xs1, xs2, rfl, rfl, SqT.of (k1 _ _ et1), SqT.of (k1 _ _ et2), ?_, ?_, ?_, fun _ q hq => ?_⟩
    · intro z
      rw [z] at n1
      have : l.size = 0 := n1.symm
      omega
    · rw [PySem.sizeLine_eq]; omega
    · intro z
      rw [z] at n2
      have : r.size = 0 := n2.symm
      omega
    have kq : Keep x H1 (upd H1 q (.tup (xs1 ++ xs2))) := Keep.fresh hq
    have gq : Same H1 (upd H1 q (.tup (xs1 ++ xs2))) := same_new hq
    refine ⟨_, rfl, u, C1, dx1, _, .int j1, rfl, gq _ _ (k1 _ _ e1), P1.cls, P1.nj, rfl, _, rfl, v, C2, dx2, _, .int j2, rfl, gq _ _ (k1 _ _ e2), P2.cls, P2.nj, rfl, _, _, rfl, rfl, _, _, rfl, rfl, ?_⟩
    have hx1 := k1 _ _ hx
    refine ⟨x, c.chain, dx, _, _, _, rfl, pc.chain, gq _ _ hx1, ?_⟩
    refine ⟨_, rfl, _, rfl, x, c.chain, dx, _, rfl, upd_same, pc.chain.cls, pc.chain.nl, (by show 3 < 1000; decide), ?_⟩
    refine ⟨_, rfl, _, rfl, x, c.chain, dx, _, rfl, upd_same, pc.chain.cls, pc.chain.nr, (by show 4 < 1000; decide), ?_⟩
    rw [upd_upd, upd_upd]
    have kp : Keep x H1 (upd (upd H1 q (.tup (xs1 ++ xs2))) x (.ins c.chain dx [("bounds", .ref y), ("order", .ref q), ("joints", .int (j1 + j2 + 1)), ("left", .ref u), ("right", .ref v)])) := kq.trans Keep.put
    obtain ⟨g1, g2, g3⟩ := Stay.bare (c := c) hx1 kp
    refine k _ ((Keep.of_same k1).trans kp) ⟨dx, y, q, _, u, v, addS s1 s2, upd_same, g1 py, ?_, ⟨xs1 ++ xs2, ?_, ?_⟩, g3 (hl.stay (Stay.of_same k1)), g3 (hr'.stay (Stay.of_same k1))⟩
    · show opO false l.span r.span = _
      rw [es1, es2]; rfl
    · rw [upd_ne (ne_of_none hx1 hq).symm]
      exact upd_same
    · rw [List.length_append, n1, n2]; rfl
abbrev sBundleI : Stmt := mth 56 0
theorem scBundleI : NScope ["self", "first", "second", "__class__"] ["self", "first", "second"] ["__class__"] (defScope sBundleI) := nscope_by (by decide +kernel)
/-- a promise without errors is one with errors -/
theorem up_cx {k : Nat} {ps : List Str} {sp : Sp} (F : FnOk P w K mg base CX0 k f fd ps sp) : FnOk P w K mg base (L2.CX P w) k f fd ps sp :=
  ⟨F.len, fun A outer s H args us vs Q E hr e0 hb r q => codeAny_mono (F.run A outer s H args us vs Q E hr e0 hb r q) fun r s' h => by
    cases r with
    | error e => exact h.elim
    | ok fl => cases fl <;> exact h⟩
theorem ok_bundle_init (T : SupTxt K P f "Bundle.__init__" sBundleI c.bundle f2 fd c0 cc) (pc : PcCs K c) (A : AndD P w K mg base c) (G : FnOk P w K mg base CX0 1 f2 fd2 ["self", "span", "names", "joints"] (spPieceI K)) (b2 : Binds K fd2 ["self", "span", "names", "joints"] []) :
    FnOk P w K mg base (L2.CX P w) 6 f fd ["self", "first", "second"] (spOpI c true) := by
  refine fn_sup (k := 4) T scBundleI rfl (fun doc pm ct us hl => match us, hl with | [_, _, _], _ => rfl) (fun vs H Q E h => ?_) rfl rfl ((up_cx G).mono (by decide)) b2 rfl rfl (fun A' outer s H vs Q E hr h => ?_) (fun env => rfl) (fun env => rfl) (fun env => ⟨_, rfl⟩)
  · obtain ⟨x, dx, u, v, l, r, B, rfl, _⟩ := h
    rfl
  · obtain ⟨x, dx, u, v, l, r, B, rfl, hl, hr', okl, okr, hsz, hx, k, k2⟩ := h
    have ps : Passes (L2.CX P w) (ncx (L2.CX P w) P w K mg base ["self", "first", "second", "__class__"] (nfOf "Bundle.__init__" sBundleI c0 cc) f A' outer s H E) E := passes_call (takes_of rfl rfl rfl rfl) fun _ _ _ _ h => h
    refine ⟨x, dx, [], _, _, rfl, hx, ps, pa_cons (pe_op (op_fam A (hr.mono (by decide)) ps) (pe_fld (pv 1) rfl) (pe_fld (pv 2) rfl)) (pa_cons (pe_op op_catT (pe_fld (pv 1) rfl) (pe_fld (pv 2) rfl))
      (pa_cons (pe_op op_add (pe_fld (pv 1) rfl) (pe_fld (pv 2) rfl)) pa_nil)), pss_cons (ps_fld (pv 0) (pv 1) rfl) (pss_one (ps_fld (pv 0) (pv 2) rfl)), ?_⟩
    obtain ⟨C1, dx1, b1, t1, j1, fs1, s1, e1, hC1, p1, es1, o1⟩ := hl.head
    obtain ⟨C2, dx2, b2, t2, j2, fs2, s2, e2, hC2, p2, es2, o2⟩ := hr'.head
    have P1 := pc.of hC1
    have P2 := pc.of hC2
    obtain ⟨db1, eb1⟩ := id p1
    obtain ⟨db2, eb2⟩ := id p2
    obtain ⟨xs1, et1, n1⟩ := o1
    obtain ⟨xs2, et2, n2⟩ := o2
    have z1 := l.size_pos
    have z2 := r.size_pos
    refine ⟨_, rfl, u, C1, dx1, _, .ref b1, rfl, e1, P1.cls, P1.nb, rfl, _, rfl, v, C2, dx2, _, .ref b2, rfl, e2, P2.cls, P2.nb, rfl, b1, _, db1, _, b2, _, db2, _, rfl, rfl, eb1, eb2, rfl, rfl, b1, b2, s1, s2, rfl, p1, p2, Plan.span_ok okl _ es1, Plan.span_ok okr _ es2, fun s0 y H1 es0 k1 py => ?_, fun es0 d => k2 (by show opO true l.span r.span = _; rw [es1, es2]; exact es0) d⟩
    refine ⟨_, rfl, u, C1, dx1, _, .ref t1, rfl, k1 _ _ e1, P1.cls, P1.no, rfl, _, rfl, v, C2, dx2, _, .ref t2, rfl, k1 _ _ e2, P2.cls, P2.no, rfl, t1, t2, xs1, xs2, rfl, rfl, SqT.of (k1 _ _ et1), SqT.of (k1 _ _ et2), ?_, ?_, ?_, fun _ q hq => ?_⟩
    · intro z
      rw [z] at n1
      have : l.size = 0 := n1.symm
      omega
    · rw [PySem.sizeLine_eq]; omega
    · intro z
      rw [z] at n2
      have : r.size = 0 := n2.symm
      omega
    have kq : Keep x H1 (upd H1 q (.tup (xs1 ++ xs2))) := Keep.fresh hq
    have gq : Same H1 (upd H1 q (.tup (xs1 ++ xs2))) := same_new hq
    refine ⟨_, rfl, u, C1, dx1, _, .int j1, rfl, gq _ _ (k1 _ _ e1), P1.cls, P1.nj, rfl, _, rfl, v, C2, dx2, _, .int j2, rfl, gq _ _ (k1 _ _ e2), P2.cls, P2.nj, rfl, _, _, rfl, rfl, ?_⟩
    have hx1 := k1 _ _ hx
    refine ⟨x, c.bundle, dx, _, _, _, rfl, pc.bundle, gq _ _ hx1, ?_⟩
    refine ⟨_, rfl, _, rfl, x, c.bundle, dx, _, rfl, upd_same, pc.bundle.cls, pc.bundle.nl, (by show 3 < 1000; decide), ?_⟩
    refine ⟨_, rfl, _, rfl, x, c.bundle, dx, _, rfl, upd_same, pc.bundle.cls, pc.bundle.nr, (by show 4 < 1000; decide), ?_⟩
    rw [upd_upd, upd_upd]
    have kp : Keep x H1 (upd (upd H1 q (.tup (xs1 ++ xs2))) x (.ins c.bundle dx [("bounds", .ref y), ("order", .ref q), ("joints", .int (j1 + j2)), ("left", .ref u), ("right", .ref v)])) := kq.trans Keep.put
    obtain ⟨g1, g2, g3⟩ := Stay.bare (c := c) hx1 kp
    refine k _ ((Keep.of_same k1).trans kp) ⟨dx, y, q, _, u, v, s0, upd_same, g1 py, ?_, ⟨xs1 ++ xs2, ?_, ?_⟩, g3 (hl.stay (Stay.of_same k1)), g3 (hr'.stay (Stay.of_same k1))⟩
    · show opO true l.span r.span = _
      rw [es1, es2]; exact es0
    · rw [upd_ne (ne_of_none hx1 hq).symm]
      exact upd_same
    · rw [List.length_append, n1, n2]; rfl
end
end Wr
-- WrE
/-! the operators of pieces -/
namespace Wr
open PySem L2
/-- a method of a family of classes, each with its own promise -/
structure FamM (P : Program) (w : World) (K : PySem.W.Frag) (mg : Str → Option Value) (base : Heap) (CX : CXT) (k : Nat) (m : Str) (PC : Addr → Prop) (sp : Addr → Sp) : Prop where
  one : ∀ C, PC C → ∃ f fd ps, Meth K C m f ∧ FnOk P w K mg base CX k f fd ps (sp C) ∧ Binds K fd ps []
section
variable {X : Cx} {CX : CXT} {k : Nat} {m : Str} {PC : Addr → Prop} {sp : Addr → Sp} {E : XK} {o : Expr} {to : TE} {apos pos : Pos}
theorem pe_fam0 {pl : Sem Bool} (D : FamM X.prog X.w X.K X.mg X.base CX k m PC sp) (hc : ∀ C, PC C → Cls X.K C) (ho : PE X o to) (hr : Room k X.A) (hx : Passes CX X E)
    (ht : eval (.Call (.Attribute o m apos) [] [] pos) X.env = (do
      let ov ← eval o X.env
      standAt apos.atName
      let (f, first) ← holding [ov] (getMethod ov m pl)
      callWith pos f first (backTo pos (starEach [] X.env)) (backToKw pos (keywordEach [] X.env))) := by rfl) :
    PE X (.Call (.Attribute o m apos) [] [] pos) (fun σ H Q => to σ H fun y H1 => ∃ a C dx fs, y = .ref a ∧ H1 a = some (.ins C dx fs) ∧ PC C ∧ fs.lookup m = none ∧ sp C [.ref a] H1 Q E) := by
  refine ⟨fun pins s σ H Q I h => ?_⟩
  refine PySem.W.methodCall_KW (pl := pl) (thn (ho.run pins s σ H _ I h) fun u s1 ⟨y, H1, I1, ry, a, C, dx, fs, ey, ea, pC, l, q⟩ => ?_) ht
  subst ey
  obtain rfl : u = Value.ref a := ry
  obtain ⟨f, fd, ps, hm, F, hb⟩ := D.one C pC
  refine getmeth_ok I1 ea (hc C pC) hm l ?_
  exact PySem.W.callWith_K0 (first := [.ref a]) I1.kIn hm.kp (run_fn (us := [.ref a]) (vs := [.ref a]) F hr hb .nil hx I1 (.cons rfl .nil) q)
end
section
variable {P : Program} {w : World} {K : PySem.W.Frag} {mg : Str → Option Value} {base : Heap} {f : Addr} {fd : FuncData} {c : Cs}
def isPc (c : Cs) (C : Addr) : Prop := C = c.tie ∨ C = c.chain ∨ C = c.bundle
abbrev ChainMv (P : Program) (w : World) (K : PySem.W.Frag) (mg : Str → Option Value) (base : Heap) (c : Cs) : Prop := Mv P w K mg base CX0 6 "Chain" c.chain ["self", "first", "second"] (spOpI c false)
abbrev BundleMv (P : Program) (w : World) (K : PySem.W.Frag) (mg : Str → Option Value) (base : Heap) (c : Cs) : Prop := Mv P w K mg base (L2.CX P w) 6 "Bundle" c.bundle ["self", "first", "second"] (spOpI c true)
abbrev TieMv (P : Program) (w : World) (K : PySem.W.Frag) (mg : Str → Option Value) (base : Heap) (c : Cs) : Prop := Mv P w K mg base CX0 3 "Tie" c.tie ["self", "name", "span"] (spTieI c)
/-- the two put together -/
def spOp (c : Cs) (p : Bool) : Sp := fun vs H Q E => ∃ (u v : Addr) (l r : Plan) (B : Int), vs = [.ref u, .ref v] ∧ PieceAt c H l u ∧ PieceAt c H r v ∧ l.ok B ∧ r.ok B ∧ l.size + r.size ≤ 1000 ∧
  (∀ x H', Same H H' → PieceAt c H' (.op p l r) x → Q (.ref x) H') ∧ ((Plan.op p l r).span = none → ∀ d H', Same H H' → E (.ref c.snap) (some d) H')
theorem same_made {H : Hp} {x dx C : Addr} (nx : H x = none) (nd : H dx = none) : Same H (upd (upd H dx (.own x)) x (.ins C dx [])) := fun b o e => by
  rw [upd_ne (ne_of_none e nx), upd_ne (ne_of_none e nd)]; exact e
theorem made_op {H : Hp} {Q : VK} {E : XK} {vs : List V} {p : Bool} (h : spOp c p vs H Q E) : MadeBy (c.op p) (spOpI c p) E vs H Q := by
  obtain ⟨u, v, l, r, B, rfl, hl, hr, okl, okr, hz, k1, k2⟩ := h
  intro x dx nx nd hne
  have g := same_made (C := c.op p) nx nd
  refine ⟨x, dx, u, v, l, r, B, rfl, hl.stay (Stay.of_same g), hr.stay (Stay.of_same g), okl, okr, hz, upd_same, fun H' kp hp => ⟨rfl, k1 x H' (Same.made (C := c.op p) nx nd fun b o e n => kp b o n e) hp⟩, fun e d => k2 e d _ g⟩
theorem made_tie {H : Hp} {Q : VK} {E : XK} {nm : Str} {b : Addr} {s : S2} (hb : SpanAt c H b s) (k : ∀ x H', Same H H' → PieceAt c H' (.leaf nm s.1 s.2) x → Q (.ref x) H') : MadeBy c.tie (spTieI c) E [.str nm, .ref b] H Q := by
  intro x dx nx nd hne
  have g := same_made (C := c.tie) nx nd
  exact ⟨x, dx, b, nm, s, rfl, hb.stay (Stay.of_same g), upd_same, fun H' kp hp => ⟨rfl, k x H' (Same.made (C := c.tie) nx nd fun b o e n => kp b o n e) hp⟩⟩
abbrev sPieceAdd : Stmt := mth 53 3
theorem scPieceAdd : FnScope ["self", "other"] ["self", "other"] (defScope sPieceAdd) := ⟨rfl, rfl, rfl, by decide +kernel, rfl, by decide +kernel, by decide +kernel⟩
theorem ok_piece_add (M : ChainMv P w K mg base c) (F : L2.Fun K "__add__" "Piece.__add__" sPieceAdd f fd) : FnOk P w K mg base CX0 8 f fd ["self", "other"] (spOp c false) := by
  refine F.ok scPieceAdd (fun vs H Q E h => ?_) (fun cdv A outer s H vs Q E hr h => ?_)
  · obtain ⟨u, v, l, r, B, rfl, _⟩ := h
    rfl
  · obtain ⟨u, v, l, r, B, rfl, hl, hr', okl, okr, hz, k1, k2⟩ := h
    refine ⟨_, pss_one (ps_ret (pe_mv M (hr.mono (by decide)) pass0 (pa_cons (pv 0) (pa_cons (pv 1) pa_nil)))), ?_⟩
    refine ⟨_, rfl, _, rfl, made_op (p := false) ⟨u, v, l, r, B, rfl, hl, hr', okl, okr, hz, k1, fun e => ?_⟩⟩
    exfalso
    obtain ⟨_, _, _, _, _, _, s1, _, _, _, e1, _⟩ := hl.head
    obtain ⟨_, _, _, _, _, _, s2, _, _, _, e2, _⟩ := hr'.head
    have e' : opO false l.span r.span = none := e
    rw [e1, e2] at e'
    cases e'
abbrev sPieceAnd : Stmt := mth 53 4
theorem scPieceAnd : FnScope ["self", "other"] ["self", "other"] (defScope sPieceAnd) := ⟨rfl, rfl, rfl, by decide +kernel, rfl, by decide +kernel, by decide +kernel⟩
theorem ok_piece_and (M : BundleMv P w K mg base c) (F : L2.Fun K "__and__" "Piece.__and__" sPieceAnd f fd) : FnOk P w K mg base (L2.CX P w) 8 f fd ["self", "other"] (spOp c true) := by
  refine F.okX scPieceAnd (fun vs H Q E h => ?_) (fun cdv A outer s H vs Q E hr h => ?_)
  · obtain ⟨u, v, l, r, B, rfl, _⟩ := h
    rfl
  · obtain ⟨u, v, l, r, B, rfl, h⟩ := h
    refine ⟨_, pss_one (ps_ret (pe_mv M (hr.mono (by decide)) (passes_call (takes_of rfl rfl rfl rfl) fun _ _ _ _ h => h) (pa_cons (pv 0) (pa_cons (pv 1) pa_nil)))), ?_⟩
    exact ⟨_, rfl, _, rfl, made_op (p := true) ⟨u, v, l, r, B, rfl, h⟩⟩
abbrev PAddD (P : Program) (w : World) (K : PySem.W.Frag) (mg : Str → Option Value) (base : Heap) (c : Cs) : Prop := FamD P w K mg base CX0 .Add 8 (spOp c false) (isPc c)
abbrev PAndD (P : Program) (w : World) (K : PySem.W.Frag) (mg : Str → Option Value) (base : Heap) (c : Cs) : Prop := FamD P w K mg base (L2.CX P w) .BitAnd 8 (spOp c true) (isPc c)
end
end Wr
-- WrItems
/-! for (a, b) in d.items(), d a new dict whose keys are tuples: it is locked from then on -/
namespace Wr
open PySem L2 PySem.Spec PyProof.Rows
def Itit (d : Addr) (o : Obj) (kvs : List (List Key × V)) : It :=
  ⟨fun i H => H d = some (.frz o (.dT kvs)) ∧ i < kvs.length, fun i H x H' => ∃ T q k v, kvs[i]? = some (k, v) ∧ x = .ref T ∧ H T = none ∧ H q = some (.tup (k.map kV)) ∧ H' = upd H T (.tup [.ref q, v]), fun i H => H d = some (.frz o (.dT kvs)) ∧ kvs.length ≤ i⟩
section
variable {P : Program} {w : World} {K : PySem.W.Frag} {d : Addr} {o : Obj} {es : Array DictEntry} {ep : Nat}
theorem frz_dT {X : Cx} {pins : List (Addr × Obj)} {σ : L2.St} {H : Hp} {s : Shared} {kvs : List (List Key × V)} (I : Inv X pins σ H s) (h : H d = some (.frz o (.dT kvs))) :
    (d == sysModules) = false ∧ DT.Raw s.heap d es ep ∧ o.data = .dict es ep → es.size = kvs.length ∧ ∀ (i : Nat) (k : List Key) (v : V), kvs[i]? = some (k, v) → ∃ (en : DictEntry) (q : Addr), es[i]? = some en ∧ en.key = .ref q ∧ H q = some (.tup (k.map kV)) ∧ RelV v en.val := by
  rintro ⟨_, _, hdat⟩
  obtain ⟨hd, z, hs, xs, pr, o', es', ep', ho, hx, hdt, he, _⟩ := I.hok d _ h
  rw [hd] at ho
  cases ho
  rw [hdat] at hdt
  cases hdt
  refine ⟨?_, fun i k v e => ?_⟩
  · have l1 : es.size = xs.length := size_of_entries he
    have l2 : kvs.length = xs.length := Paired.length pr
    omega
  · obtain ⟨b, hb, e1, e2, e3⟩ := paired_get pr e
    have q := entry_at he i
    rw [hb] at q
    exact ⟨_, b.2.1, q, rfl, e2, e3⟩
theorem frz_raw {X : Cx} {pins : List (Addr × Obj)} {σ : L2.St} {H : Hp} {s : Shared} {kvs : List (List Key × V)} (I : Inv X pins σ H s) (h : H d = some (.frz o (.dT kvs))) :
    ∃ es ep, (d == sysModules) = false ∧ DT.Raw s.heap d es ep ∧ o.data = .dict es ep := by
  obtain ⟨hd, z, hs, xs, pr, o', es', ep', ho, hx, hdt, he, _⟩ := I.hok d _ h
  rw [hd] at ho
  cases ho
  exact ⟨es', ep', hs, ⟨o, hd, hx, hdt⟩, hdt⟩
theorem turn_itemsT {kvs : List (List Key × V)} {elts : List Expr} {kk : Nat} {tpos : Pos} (it : Addr) (hod : o.data = .dict es ep) :
    Turn P w K (.Tuple elts kk tpos) (Itit d o kvs) [it] it (fun i h => ∃ ok ov, IsItemIter h it d i kvs.length ep ok ov) where
  mem := by simp
  obj := fun i h st b hb => by
    have e : b = it := by simpa using hb
    subst e
    obtain ⟨ok, ov, e⟩ := st
    exact ⟨_, e, fun v z => nomatch z⟩
  keep := fun i h h' st k => let ⟨ok, ov, e⟩ := st; ⟨ok, ov, k it (by simp) _ e⟩
  item := by
    intro X hP hw hK hc i pins s σ H E I hf st hg
    subst hP hw hK
    obtain ⟨hd, hi⟩ := hg
    obtain ⟨es', ep', hs, raw, hdt⟩ := frz_raw I hd
    obtain ⟨rfl, rfl⟩ := dict_ep hod hdt
    obtain ⟨hsz, ent⟩ := frz_dT I hd ⟨hs, raw, hdt⟩
    obtain ⟨⟨k, v⟩, hkv⟩ : ∃ p, kvs[i]? = some p := ⟨kvs[i], List.getElem?_eq_getElem hi⟩
    obtain ⟨en, q, hen, hkey, hq, rv⟩ := ent i k v hkv
    obtain ⟨ok, ov, he⟩ := st
    rw [← hsz] at he
    have hlt : it < s.heap.objs.size := Heap.lt_size he
    have hi' : i < es'.size := by omega
    have een : es'[i] = en := by
      rw [Array.getElem?_eq_getElem hi'] at hen
      exact Option.some.inj hen
    refine DT.nextI he raw hi' fun h' ho hT hz hk => ?_
    rw [een] at ho hT
    refine ⟨_, rfl, wpAny_letOwnedTupleGo_items (s := { s with heap := h' }) ho fun h'' he' sb => ?_⟩
    have hT2 : h''.get? s.heap.objs.size = some { cls := .type "tuple", data := .seq #[en.key, en.val] } := (sb.2 _ (Nat.ne_of_gt hlt)).trans hT
    have new : ObjOk X.prog X.w (upd H s.heap.objs.size (.tup [.ref q, v])) h'' s.heap.objs.size (.tup [.ref q, v]) :=
      ⟨by show 2 ≤ sizeLine; decide, [en.key, en.val], .cons (show RelV (.ref q) en.key from hkey) (.cons rv .nil), ⟨_, hT2, rfl, _, rfl⟩⟩
    have I1 : Inv X pins σ (upd H s.heap.objs.size (.tup [.ref q, v])) { s with heap := h'' } :=
      I.turnedNew (t' := s.toks) (ch := [it]) (fun b ob hb e => (sb.2 b (by simpa using hb)).trans (hk b ob (by simpa using hb) e)) hf (Nat.le_refl _) new
    refine ⟨.ref s.heap.objs.size, _, I1, rfl, ⟨_, q, k, v, hkv, rfl, I.hok.fresh (Nat.le_refl _), hq, rfl⟩, ⟨en.key, en.val, ?_⟩, fun b hb => ?_⟩
    · rw [← hsz]; exact he'
    · have e : b = it := by simpa using hb
      rw [e, upd_ne (Nat.ne_of_lt hlt)]
      exact (hf it (by simp)).1
  done := by
    intro X hP hw hK hc i pins s σ H E I hf st hg
    subst hP hw hK
    obtain ⟨hd, hi⟩ := hg
    obtain ⟨f0, f1, f2, f3, f4, f5⟩ := hf it (by simp)
    obtain ⟨es', ep', hs, raw, hdt⟩ := frz_raw I hd
    obtain ⟨rfl, rfl⟩ := dict_ep hod hdt
    obtain ⟨hsz, _⟩ := frz_dT I hd ⟨hs, raw, hdt⟩
    obtain ⟨ok, ov, he⟩ := st
    rw [← hsz] at he
    exact DT.endI (I.ok.hd hc) he raw (by omega) fun h' eb => ⟨rfl, I.turned (t' := s.toks) (fun b ob hb e => eb b ob hb e) f0 f1 f3 f4 f5⟩
  self := fun A i s Q E st h => let ⟨_, _, e⟩ := st; PySem.W.kcp_self e h
end
def iItemsT (td : TE) : TI := fun σ H R => td σ H fun x H1 => ∃ d kvs, x = .ref d ∧ H1 d = some (.dT kvs) ∧ ∀ od, R (Itit d od kvs) (upd H1 d (.frz od (.dT kvs)))
section
variable {X : Cx} {tg e : Expr} {td : TE} {apos cpos : Pos}
theorem pi_itemsT {elts : List Expr} {kk : Nat} {tpos : Pos} (he : PE X e td) (hbase : attributeBase e "items" X.env (eval e X.env) = eval e X.env := by rfl) (hline : (apos.endLine == cpos.line) = true := by rfl) :
    PI X (.Tuple elts kk tpos) (.Call (.Attribute e "items" apos) [] [] cpos) (iItemsT td) := by
  refine ⟨fun pins s σ H R I h => ?_⟩
  refine wpAny_Call_method (T := "dict") (id := "dict.items") hbase rfl hline F.plainAttrs_dict F.slot_dict_items F.type_dict_items (thn (he.run pins s σ H _ I h) fun u s1 ⟨x, H1, I1, rx, d, kvs, ex, hd, q⟩ => ?_)
  subst ex
  obtain rfl : u = Value.ref d := rx
  obtain ⟨od, I2⟩ := I1.lock hd True.intro
  have q := q od
  generalize hH : upd H1 d (.frz od (.dT kvs)) = H2 at q I2
  have hd2 : H2 d = some (.frz od (.dT kvs)) := by rw [← hH]; exact upd_same
  obtain ⟨es, ep, hs, raw, hdt⟩ := frz_raw I2 hd2
  obtain ⟨hsz, _⟩ := frz_dT I2 hd2 ⟨hs, raw, hdt⟩
  obtain ⟨o', ho', hx', _⟩ := id raw
  refine ⟨raw.typeIs, fun a e => by cases e; exact ⟨o', ho', hx'.2.1⟩, ?_⟩
  have I3 : Inv X pins σ H2 { s1 with heap := s1.heap.push { cls := .type "dict_items", data := .fields #[.ref d] } } := I2.kept (t' := s1.toks) fun b ob q => Heap.get?_push_of_some _ q
  have fin : wpAny (model X.prog X.w) X.A (pyIter (.ref s1.heap.objs.size)) (PIE X pins σ (.Tuple elts kk tpos) R) X.xe { s1 with heap := s1.heap.push { cls := .type "dict_items", data := .fields #[.ref d] } } := by
    refine DT.iterI (d := d) ⟨_, Heap.get?_push_size _ rfl, rfl, rfl⟩ (raw.push _) (pi_one (tk := s1.toks) I3 _ (turn_itemsT _ hdt) ⟨.none, .none, ?_⟩ q)
    rw [← hsz]
    exact Heap.get?_push_size _ rfl
  show wpAny _ _ (callWith cpos (.builtin "dict.items") [.ref d] [] []) _ X.xe s1
  exact method_meetsIn F.slot_dict_items F.entry_dict_items rfl (PySem.evalArgs_none ⟨rfl, raw.typeIs, F.args_dict_items_1 _, _, DT.meetsItems (es := es) (ep := ep) hs, ⟨raw, fin⟩⟩)
end
/-- the loop, by what is true ahead of each turn -/
theorem for_itemsT {d : Addr} {od : Obj} {kvs : List (List Key × V)} {g : TG} {tb : TS} {D : L2.Ends} {σ : L2.St} {H : Hp} (Pv : Nat → L2.St → Hp → Prop) (h0 : Pv 0 σ H) (hl : ∀ i σ H, Pv i σ H → H d = some (.frz od (.dT kvs)))
    (hs : ∀ i k v T q σ H, kvs[i]? = some (k, v) → Pv i σ H → H T = none → H q = some (.tup (k.map kV)) → g (.ref T) σ (upd H T (.tup [.ref q, v])) fun σ2 H2 => tb { D with nx := Pv (i + 1), ct := Pv (i + 1), bk := D.nx } σ2 H2) (hd : ∀ σ H, Pv kvs.length σ H → D.nx σ H) :
    ∃ W : Nat → Nat → L2.St → Hp → Prop, (∃ m, W 0 m σ H) ∧ ∀ i m σ H, W i m σ H →
      ((Itit d od kvs).stop i H ∧ D.nx σ H) ∨ ((Itit d od kvs).go i H ∧ ∃ N : L2.St → Hp → Prop, (∀ σ' H', N σ' H' → ∃ m', m' < m ∧ W (i + 1) m' σ' H') ∧ ∀ x H', (Itit d od kvs).yld i H x H' → g x σ H' fun σ2 H2 => tb { D with nx := N, ct := N, bk := D.nx } σ2 H2) := by
  refine ⟨fun i m σ H => m = kvs.length - i ∧ i ≤ kvs.length ∧ Pv i σ H, ⟨kvs.length, by simp, Nat.zero_le _, h0⟩, ?_⟩
  rintro i m σ H ⟨rfl, hi, p⟩
  have q := hl i σ H p
  by_cases hlt : i < kvs.length
  · refine .inr ⟨⟨q, hlt⟩, Pv (i + 1), fun σ' H' p' => ⟨kvs.length - (i + 1), by omega, rfl, hlt, p'⟩, fun x H' y => ?_⟩
    obtain ⟨T, q', k, v, e1, rfl, e2, e3, rfl⟩ := y
    exact hs i k v T q' σ H e1 p e2 e3
  · have e : i = kvs.length := by omega
    subst e
    exact .inl ⟨⟨q, Nat.le_refl _⟩, hd σ H p⟩
end Wr
-- WrTal
/-! tally -/
namespace Wr
open PySem L2
/-! ### plain -/
/-- a tally in the making: S what it counts so far -/
structure Good (T : List Row) (S : (S2 → Int) → Int) : Prop where
  nd : (T.map (·.1)).Nodup
  pos : ∀ r ∈ T, 0 < r.2
  sum : ∀ g, rsum T g = S g
  box : ∀ r ∈ T, okS r.1 ∧ r.1.2 ≤ 12
theorem Good.nil : Good [] fun _ => 0 := ⟨List.nodup_nil, (fun _ h => nomatch h), fun _ => rfl, (fun _ h => nomatch h)⟩
theorem Good.of {T : List Row} {S S' : (S2 → Int) → Int} (h : Good T S) (e : ∀ g, S g = S' g) : Good T S' := ⟨h.nd, h.pos, fun g => (h.sum g).trans (e g), h.box⟩
theorem Good.add {T : List Row} {S : (S2 → Int) → Int} (h : Good T S) {k : S2} {n : Int} (hn : 0 < n) (hk : okS k) (hb : k.2 ≤ 12) : Good (rowAdd T k n) fun g => S g + n * g k := by
  refine ⟨rowAdd_nd h.nd, rowAdd_pos h.pos hn, fun g => by rw [rsum_add h.nd, h.sum], fun r hr => ?_⟩
  have hm : r.1 ∈ (rowAdd T k n).map (·.1) := List.mem_map.mpr ⟨r, hr, rfl⟩
  rw [rowAdd_keys] at hm
  have old : r.1 ∈ T.map (·.1) → okS r.1 ∧ r.1.2 ≤ 12 := fun hm => by
    obtain ⟨q, hq, e⟩ := List.mem_map.mp hm
    rw [← e]; exact h.box q hq
  split at hm
  · exact old hm
  · rcases List.mem_append.mp hm with hm | hm
    · exact old hm
    · rw [List.mem_singleton.mp hm]; exact ⟨hk, hb⟩
theorem Good.len {T : List Row} {S : (S2 → Int) → Int} (h : Good T S) : T.length ≤ 169 := box_len (m := 12) h.nd fun r hr => by
  obtain ⟨⟨h1, h2⟩, h3⟩ := h.box r hr
  exact ⟨h1, h2, h3⟩
theorem Good.tally {T : List Row} {S : (S2 → Int) → Int} {cs : List S2} (h : Good T S) (e : ∀ g, S g = lsum cs g) : Tally T cs := ⟨h.nd, h.pos, fun g => (h.sum g).trans (e g)⟩
theorem rsum_nn : ∀ {T : List Row}, (∀ r ∈ T, 0 < r.2) → 0 ≤ rsum T fun _ => 1
  | [], _ => Int.le_refl _
  | x :: T, h => by
    have ih := rsum_nn fun y hy => h y (List.mem_cons_of_mem _ hy)
    have p := h x (List.mem_cons_self ..)
    unfold rsum at *
    simp at *
    omega
theorem tally_sum_le {T : List Row} (h : ∀ r ∈ T, 0 < r.2) : ∀ r ∈ T, r.2 ≤ rsum T fun _ => 1 := by
  induction T with
  | nil => intro r hr; cases hr
  | cons q T ih =>
    intro r hr
    have ih := ih fun x hx => h x (List.mem_cons_of_mem _ hx)
    have e : rsum (q :: T) (fun _ => 1) = q.2 + rsum T fun _ => 1 := by unfold rsum; simp
    have nn : 0 ≤ rsum T fun _ => 1 := rsum_nn fun x hx => h x (List.mem_cons_of_mem _ hx)
    rw [e]
    have p := h q (List.mem_cons_self ..)
    rcases List.mem_cons.mp hr with rfl | hr
    · omega
    · have := ih r hr; omega
theorem lsum_one (cs : List S2) : lsum cs (fun _ => 1) = cs.length := by
  induction cs with
  | nil => rfl
  | cons a cs ih => unfold lsum at *; simp at *; omega
theorem Tally.le {T : List Row} {cs : List S2} (h : Tally T cs) : ∀ r ∈ T, r.2 ≤ cs.length := fun r hr => by
  have := tally_sum_le h.pos r hr
  rw [h.sum, lsum_one] at this
  exact this
theorem Tally.key {T : List Row} {cs : List S2} (h : Tally T cs) : ∀ r ∈ T, r.1 ∈ cs := fun r hr => by
  obtain ⟨k, n⟩ := r
  have e := (rsum_ind k h.nd).1 n hr
  rw [h.sum] at e
  have p := h.pos _ hr
  simp only at p ⊢
  by_cases hk : k ∈ cs
  · exact hk
  · exfalso
    have z : lsum cs (ind k) = 0 := by
      clear e h hr
      induction cs with
      | nil => rfl
      | cons a cs ih =>
        have ih := ih fun x => hk (List.mem_cons_of_mem _ x)
        have ha : ind k a = 0 := if_neg fun z => hk (by rw [← z]; exact List.mem_cons_self ..)
        unfold lsum at *
        simp [ha, ih]
    omega
theorem pow_le_six {n : Nat} (h : n ≤ 6) : (3 : Nat) ^ n ≤ 729 := Nat.le_trans (Nat.pow_le_pow_right (by decide) h) (by decide)
theorem choices_few {p : Plan} (ok : p.ok 2) (hz : p.size ≤ 6) : p.choices.length ≤ 729 := Nat.le_trans (choices_len (N := 2) ok) (pow_le_six hz)
theorem choices_box {p : Plan} (ok : p.ok 2) (hz : p.size ≤ 6) : ∀ c ∈ p.choices, okS c ∧ c.2 ≤ 12 := fun c hc => ⟨Plan.choices_ok ok c hc, by have := choices_le (by decide) ok c hc; omega⟩
theorem rsum_take_succ {T : List Row} {i : Nat} {r : Row} (h : T[i]? = some r) (g : S2 → Int) : rsum (T.take (i + 1)) g = rsum (T.take i) g + r.2 * g r.1 := by
  rw [List.take_add_one, h, rsum_append]
  unfold rsum
  simp
/-- a tie's lengths, each once -/
theorem tally_leaf (x : Str) (lo hi : Int) : Tally ((List.range (hi + 1 - lo).toNat).map fun (i : Nat) => (((lo + (i : Int), lo + (i : Int)), 1) : Row)) (Plan.leaf x lo hi).choices := by
  refine ⟨?_, fun r hr => ?_, fun g => ?_⟩
  · rw [List.map_map]
    have : ∀ l : List Nat, l.Nodup → (l.map ((·.1) ∘ fun (i : Nat) => (((lo + (i : Int), lo + (i : Int)), 1) : Row))).Nodup := by
      intro l hl
      induction l with
      | nil => exact List.nodup_nil
      | cons a l ih =>
        rw [List.nodup_cons] at hl
        rw [List.map_cons, List.nodup_cons]
        refine ⟨fun h => ?_, ih hl.2⟩
        obtain ⟨b, hb, e⟩ := List.mem_map.mp h
        simp only [Function.comp] at e
        injection e with e1 e2
        exact hl.1 (by rw [show a = b by omega]; exact hb)
    exact this _ List.nodup_range
  · obtain ⟨i, _, rfl⟩ := List.mem_map.mp hr
    exact Int.one_pos
  · unfold rsum lsum Plan.choices
    rw [List.map_map, List.map_map]
    congr 2
    funext i
    simp [Function.comp]
theorem tal_rows (lo : Int) (n : Nat) : tal lo n = ((List.range n).map fun (i : Nat) => (((lo + (i : Int), lo + (i : Int)), 1) : Row)).map rowK := by
  unfold tal
  rw [List.map_map]
  rfl
end Wr
-- WrTal2
namespace Wr
open PySem L2
structure Cs.Apart (c : Cs) : Prop where
  tc : c.tie ≠ c.chain
  tb : c.tie ≠ c.bundle
  cb : c.chain ≠ c.bundle
/-- a tally of the piece p stands at D -/
def TalAt (H : Hp) (p : Plan) (D : Addr) : Prop := ∃ T, H D = some (.dT (T.map rowK)) ∧ Tally T p.choices
def spTally (c : Cs) (n : Nat) (C : Addr) : Sp := fun vs H Q _ => ∃ (a dx : Addr) (fs : List (Str × V)) (p : Plan), vs = [.ref a] ∧ H a = some (.ins C dx fs) ∧ PieceAt c H p a ∧ p.ok 2 ∧ p.size ≤ n ∧ p.size ≤ 6 ∧
  ∀ D H', Same H H' → H D = none → TalAt H' p D → Q (.ref D) H'
/-- what of the text Span.wholes must have -/
structure WholesC (K : PySem.W.Frag) (c : Cs) : Prop where
  ex : ∃ f fd, L2.Fun K "wholes" "Span.wholes" sWholes f fd ∧ Binds K fd ["self"] [] ∧ Meth K c.span "wholes" f
section
variable {P : Program} {w : World} {K : PySem.W.Frag} {mg : Str → Option Value} {base : Heap} {f : Addr} {fd : FuncData} {c : Cs}
abbrev sTieT : Stmt := mth 54 4
theorem scTieT : FnScope ["self"] ["self"] (defScope sTieT) := ⟨rfl, rfl, rfl, by decide +kernel, rfl, by decide +kernel, by decide +kernel⟩
theorem ok_tie_tally {n : Nat} (hb : ∀ x ∈ blts, mg x = none) (C : SpanC K mg c) (W : WholesC K c) (pc : PcC K c.tie) (ap : c.Apart) (F : L2.Fun K "tally" "Tie.tally" sTieT f fd) : FnOk P w K mg base CX0 2 f fd ["self"] (spTally c n c.tie) := by
  refine F.ok scTieT (fun vs H Q E h => ?_) (fun cdv A outer s H vs Q E hr h => ?_)
  · obtain ⟨a, dx, fs, p, rfl, _⟩ := h
    rfl
  · obtain ⟨a, dx, fs, p, rfl, ha, hp, ok, _, _, k⟩ := h
    obtain ⟨fw, fdw, Fw, bw, mw⟩ := W.ex
    cases p with
    | op q l r =>
      exfalso
      obtain ⟨_, _, _, _, _, _, _, e, _⟩ := hp
      rw [ha] at e
      injection e with e
      injection e with e _ _
      cases q
      · exact ap.tc e
      · exact ap.tb e
    | leaf x lo hi =>
      obtain ⟨dx', b, t, j, e, ⟨db, eb⟩, _⟩ := hp
      obtain ⟨o1, o2, o3⟩ := ok
      refine ⟨_, pss_one (ps_ret (pe_tal (to := tFld K (tVar 0) "bounds") rfl Fw bw hr C.cls mw C.nl C.nh (hb _ (by decide)) (pe_fld (pv 0) rfl) rfl (by decide +kernel) (by decide +kernel) rfl (by decide))), ?_⟩
      refine ⟨_, rfl, a, c.tie, dx', _, .ref b, rfl, e, pc.cls, pc.nb, rfl, b, db, _, lo, hi, rfl, eb, rfl, rfl, rfl, o1, by omega, by omega, by omega, fun D H2 sm hD hD2 => ?_⟩
      exact k D H2 sm hD ⟨_, by rw [hD2, tal_rows], tally_leaf x lo hi⟩

theorem spTally_len {n : Nat} {C : Addr} {vs : List V} {H : Hp} {Q : VK} {E : XK} (h : spTally c n C vs H Q E) : vs.length = 1 := by
  obtain ⟨a, dx, fs, p, rfl, _⟩ := h
  rfl
/-- a property of spans -/
abbrev SpanPv (P : Program) (w : World) (K : PySem.W.Frag) (mg : Str → Option Value) (base : Heap) (c : Cs) (x g : Str) : Prop := Pv P w K mg base c.span x g
abbrev TalM (P : Program) (w : World) (K : PySem.W.Frag) (mg : Str → Option Value) (base : Heap) (c : Cs) (k n : Nat) : Prop := FamM P w K mg base CX0 k "tally" (isPc c) (spTally c n)
theorem PcCs.is {K : PySem.W.Frag} (h : PcCs K c) {C : Addr} (hC : isPc c C) : PcC K C := h.of hC
/-- what is read of a field of a piece, a piece itself -/
theorem PieceAt.ins {H : Hp} {p : Plan} {a : Addr} (h : PieceAt c H p a) : ∃ C dx fs, isPc c C ∧ H a = some (.ins C dx fs) ∧ fs.lookup ("tally" : Str) = none := by
  cases p with
  | leaf x lo hi =>
    obtain ⟨dx, b, t, j, e, _⟩ := h
    exact ⟨_, _, _, .inl rfl, e, rfl⟩
  | op q l r =>
    obtain ⟨dx, b, t, j, u, v, s, e, _⟩ := h
    refine ⟨_, _, _, ?_, e, rfl⟩
    cases q
    · exact .inr (.inl rfl)
    · exact .inr (.inr rfl)
/-- one step: found[k] = found.get(k, 0) + n -/
theorem get_put {T : List Row} {k : S2} : (((L2.valV (T.map rowK) [.inl k.1, .inl k.2]).getD (.int 0) : V) = .int (rowGet T k)) := by
  rw [rowGet_val]
  unfold rowGet
  cases T.find? fun r => decide (r.1 = k) <;> rfl
abbrev sChainT : Stmt := mth 55 4
theorem scChainT : FnScope ["self", "found", "near", "many", "far", "more", "whole", "key"] ["self"] (defScope sChainT) := ⟨rfl, rfl, rfl, by decide +kernel, rfl, by decide +kernel, by decide +kernel⟩
theorem ok_chain_tally {k n : Nat} (hb : ∀ x ∈ blts, mg x = none) (C : SpanC K mg c) (A : AddD P w K mg base c) (M : SpanMv P w K mg base c) (PL : SpanPv P w K mg base c "least" "low") (PG : SpanPv P w K mg base c "greatest" "high") (pc : PcCs K c) (ap : c.Apart)
    (IH : TalM P w K mg base c k n) (F : L2.Fun K "tally" "Chain.tally" sChainT f fd) : FnOk P w K mg base CX0 (k + 4 + 1) f fd ["self"] (spTally c (n + 1) c.chain) := by
  refine F.ok scChainT (fun vs H Q E h => spTally_len h) (fun cdv A' outer s H vs Q E hr h => ?_)
  obtain ⟨a, dx, fs, p, rfl, ha, hp, ok, hn, h6, kk⟩ := h
  cases p with
  | leaf x lo hi =>
    exfalso
    obtain ⟨_, _, _, _, e, _⟩ := hp
    rw [ha] at e
    injection e with e
    injection e with e _ _
    exact ap.tc e.symm
  | op q l r =>
    have eq : q = false := by
      obtain ⟨_, _, _, _, _, _, _, e, _⟩ := hp
      rw [ha] at e
      injection e with e
      injection e with e _ _
      cases q
      · rfl
      · exact absurd e ap.cb
    subst eq
    refine ⟨_, pss_cons (ps_set (i := 1) scChainT.nd rfl (Or.inl rfl) pe_dnewT)
      (pss_cons (ps_for PassesOwn.never rfl (pi_itemsT (pe_fam0 IH (fun C h => (pc.is h).cls) (pe_fld (pv 0) rfl) (hr.mono (by omega)) pass0)) (pg_tup rfl (pgs_cons (pg_name (i := 2) scChainT.nd rfl (Or.inl rfl)) (pgs_cons (pg_name (i := 3) scChainT.nd rfl (Or.inl rfl)) pgs_nil)))
        (pss_one (ps_for PassesOwn.never rfl (pi_itemsT (pe_fam0 IH (fun C h => (pc.is h).cls) (pe_fld (pv 0) rfl) (hr.mono (by omega)) pass0)) (pg_tup rfl (pgs_cons (pg_name (i := 4) scChainT.nd rfl (Or.inl rfl)) (pgs_cons (pg_name (i := 5) scChainT.nd rfl (Or.inl rfl)) pgs_nil)))
          (pss_cons (ps_set (i := 6) scChainT.nd rfl (Or.inl rfl) (pe_op (op_fam A (hr.mono (by omega)) pass0) (pe_mvS M (hr.mono (by omega)) pass0 (pv 2)) (pe_mvS M (hr.mono (by omega)) pass0 (pv 4))))
          (pss_cons (ps_set (i := 7) scChainT.nd rfl (Or.inl rfl) (pe_tup (pa_cons (pe_pv PL (pv 6) C.cls (hr.mono (by omega))) (pa_cons (pe_pv PG (pv 6) C.cls (hr.mono (by omega))) pa_nil))))
          (pss_one (ps_asg (pe_op op_add (pe_dget2 (hu_of hr) (pv 1) (pv 7) pe_int ⟨rfl, rfl, rfl, rfl⟩) (pe_op op_mul (pv 3) (pv 5))) (pg_sub (pv 1) (pv 7) (set_dict (hu_of hr))))))))))
      (pss_one (ps_ret (pv 1)))), ?_⟩
    obtain ⟨dx', b, t, j, u, v, sp0, ea, _, _, _, hl, hr2⟩ := hp
    obtain ⟨okl, okr⟩ := ok
    have hsz : (Plan.op false l r).size = l.size + r.size := rfl
    have zl := l.size_pos
    have zr := r.size_pos
    have p1 := pc.chain
    intro F hF
    have gF : Same H (upd H F (.dT [])) := same_new hF
    -- the left one's tally
    obtain ⟨Cl, dxl, fsl, isl, el, ll⟩ := hl.ins
    refine ⟨_, rfl, a, c.chain, dx', _, .ref u, rfl, gF _ _ ea, p1.cls, p1.nl, rfl, u, Cl, dxl, fsl, rfl, gF _ _ el, isl, ll, u, dxl, fsl, l, rfl, gF _ _ el, hl.stay (Stay.of_same gF), okl, by omega, by omega, fun D1 H1 g1 n1 ⟨T1, hD1, tal1⟩ => ?_⟩
    have eF1 : H1 F = some (.dT []) := g1 _ _ upd_same
    have nF1 : F ≠ D1 := ne_of_none (show upd H F (.dT []) F = some (.dT []) from upd_same) n1
    refine ⟨D1, T1.map rowK, rfl, hD1, fun od1 => ?_⟩
    have same1 : ∀ b o, H b = some o → (upd H1 D1 (.frz od1 (.dT (T1.map rowK)))) b = some o := fun b o e => by
      have e0 := gF b o e
      rw [upd_ne (ne_of_none e0 n1)]
      exact g1 _ _ e0
    generalize hHL : upd H1 D1 (.frz od1 (.dT (T1.map rowK))) = HL at same1
    have eD1 : HL D1 = some (.frz od1 (.dT (T1.map rowK))) := by rw [← hHL]; exact upd_same
    have eFL : HL F = some (.dT []) := by rw [← hHL, upd_ne nF1]; exact eF1
    have nFH : ∀ b o, H b = some o → b ≠ F := fun b o e => ne_of_none e hF
    refine for_itemsT (fun i σ H' => ∃ x2 x3 x4 x5 x6 x7 T, σ = [some (V.ref a), some (V.ref F), x2, x3, x4, x5, x6, x7] ∧ H' F = some (.dT (T.map rowK)) ∧ Good T (fun g => rsum (T1.take i) fun q => lsum r.choices (gOp false g q)) ∧ Keep F HL H')
      ⟨none, none, none, none, none, none, [], rfl, eFL, Good.nil.of fun g => by simp [rsum], Keep.refl _ _⟩ (fun i σ H' ⟨_, _, _, _, _, _, _, _, _, _, kp⟩ => kp _ _ (Ne.symm nF1) eD1) ?_ ?_
    · rintro i k1 v1 T q σ H' hi ⟨x2, x3, x4, x5, x6, x7, TF, rfl, hTF, gd, kp⟩ hT hq
      obtain ⟨⟨⟨n0, n1⟩, m⟩, hi1, ekv⟩ : ∃ r0, T1[i]? = some r0 ∧ rowK r0 = (k1, v1) := by
        rw [List.getElem?_map] at hi
        cases e : T1[i]? with
        | none => rw [e] at hi; cases hi
        | some r0 => rw [e] at hi; exact ⟨r0, rfl, Option.some.inj hi⟩
      cases ekv
      have hm1 := List.mem_of_getElem? hi1
      have mle := tal1.le _ hm1
      have mpos := tal1.pos _ hm1
      have few1 := choices_few okl (by omega)
      obtain ⟨okn, len1⟩ := choices_box okl (by omega) _ (tal1.key _ hm1)
      simp only at mle mpos okn len1
      have gT : Same H' (upd H' T (.tup [.ref q, .int m])) := same_new hT
      refine ⟨T, _, rfl, SqT.of upd_same, rfl, .ref q, _, rfl, .int m, _, rfl, rfl, ?_⟩
      generalize hH2 : upd H' T (.tup [.ref q, .int m]) = H2 at gT
      have up2 : ∀ b o, H b = some o → H2 b = some o := fun b o e => gT _ _ (kp b o (nFH b o e) (same1 b o e))
      have st2 : Stay H H2 := fun b o _ e => up2 b o e
      obtain ⟨Cr, dxr, fsr, isr, er, lr⟩ := hr2.ins
      refine ⟨_, rfl, a, c.chain, dx', _, .ref v, rfl, up2 _ _ ea, p1.cls, p1.nr, rfl, v, Cr, dxr, fsr, rfl, up2 _ _ er, isr, lr, v, dxr, fsr, r, rfl, up2 _ _ er, hr2.stay st2, okr, by omega, by omega, fun D2 H3 g3 nD2 ⟨T2, hD2, tal2⟩ => ?_⟩
      have eF2 : H2 F = some (.dT (TF.map rowK)) := gT _ _ hTF
      have nF2 : F ≠ D2 := ne_of_none eF2 nD2
      refine ⟨D2, T2.map rowK, rfl, hD2, fun od2 => ?_⟩
      have kM : ∀ b o, H2 b = some o → (upd H3 D2 (.frz od2 (.dT (T2.map rowK)))) b = some o := fun b o e => by
        rw [upd_ne (ne_of_none e nD2)]
        exact g3 _ _ e
      generalize hHM : upd H3 D2 (.frz od2 (.dT (T2.map rowK))) = HM at kM
      have eD2 : HM D2 = some (.frz od2 (.dT (T2.map rowK))) := by rw [← hHM]; exact upd_same
      refine for_itemsT (fun j σ H' => ∃ x4 x5 x6 x7 TF', σ = [some (V.ref a), some (V.ref F), some (.ref q), some (.int m), x4, x5, x6, x7] ∧ H' F = some (.dT (TF'.map rowK)) ∧
          Good TF' (fun g => (rsum (T1.take i) fun q => lsum r.choices (gOp false g q)) + m * rsum (T2.take j) (gOp false g (n0, n1))) ∧ Keep F HM H')
        ⟨x4, x5, x6, x7, TF, rfl, kM _ _ eF2, gd.of fun g => by simp [rsum], Keep.refl _ _⟩ (fun i σ H' ⟨_, _, _, _, _, _, _, _, kp⟩ => kp _ _ (Ne.symm nF2) eD2) ?_ ?_
      · rintro j k2 v2 Tt q2 σ H4 hj ⟨x4, x5, x6, x7, TG, rfl, hTG, gd2, kp2⟩ hTt hq2
        obtain ⟨⟨⟨f0, f1⟩, m2⟩, hj1, ekv⟩ : ∃ r0, T2[j]? = some r0 ∧ rowK r0 = (k2, v2) := by
          rw [List.getElem?_map] at hj
          cases e : T2[j]? with
          | none => rw [e] at hj; cases hj
          | some r0 => rw [e] at hj; exact ⟨r0, rfl, Option.some.inj hj⟩
        cases ekv
        have hm2 := List.mem_of_getElem? hj1
        have mpos2 := tal2.pos _ hm2
        obtain ⟨okf, len2⟩ := choices_box okr (by omega) _ (tal2.key _ hm2)
        simp only at mpos2 okf len2
        have gT4 : Same H4 (upd H4 Tt (.tup [.ref q2, .int m2])) := same_new hTt
        refine ⟨Tt, _, rfl, SqT.of upd_same, rfl, .ref q2, _, rfl, .int m2, _, rfl, rfl, ?_⟩
        generalize hH5 : upd H4 Tt (.tup [.ref q2, .int m2]) = H5 at gT4
        have nqF : q ≠ F := fun z => by rw [z, hTF] at hq; cases hq
        have hq5 : H5 q = some (.tup [.int n0, .int n1]) := gT4 _ _ (kp2 _ _ nqF (kM _ _ (gT _ _ hq)))
        have hq25 : H5 q2 = some (.tup [.int f0, .int f1]) := gT4 _ _ hq2
        have hF5 : H5 F = some (.dT (TG.map rowK)) := gT4 _ _ hTG
        refine ⟨_, rfl, q, _, rfl, .inl (SqT.of hq5), made_span (s := (n0, n1)) rfl okn fun y H6 g6 py => ?_⟩
        refine ⟨_, rfl, q2, _, rfl, .inl (SqT.of (g6 _ _ hq25)), made_span (s := (f0, f1)) rfl okf fun z H7 g7 pz => ?_⟩
        have py7 := py.stay (Stay.of_same g7)
        obtain ⟨dy, ey⟩ := id py7
        obtain ⟨dz, ez⟩ := id pz
        refine ⟨y, _, dy, _, z, _, dz, _, rfl, rfl, ey, ez, rfl, rfl, y, z, _, _, rfl, py7, pz, okn, okf, fun wv H8 g8 pw => ?_⟩
        obtain ⟨dw, ew⟩ := id pw
        refine ⟨_, rfl, wv, dw, _, .int (addS (n0, n1) (f0, f1)).1, rfl, ew, rfl, _, rfl, wv, dw, _, .int (addS (n0, n1) (f0, f1)).2, rfl, ew, rfl, two_le, fun kt hkt => ?_⟩
        have okk : okS (addS (n0, n1) (f0, f1)) := add_ok okn okf
        have lek : (addS (n0, n1) (f0, f1)).2 ≤ 12 := by
          have b1 := choices_le (by decide) okl _ (tal1.key _ hm1)
          have b2 := choices_le (by decide) okr _ (tal2.key _ hm2)
          simp only at b1 b2
          show n1 + f1 ≤ 12
          omega
        have gop : ∀ g, gOp false g (n0, n1) (f0, f1) = g (addS (n0, n1) (f0, f1)) := fun g => rfl
        generalize addS (n0, n1) (f0, f1) = kk2 at okk lek gop hkt pw ew
        have g58 : Same H5 H8 := (g6.trans g7).trans g8
        have gK : Same H8 (upd H8 kt (.tup [.int kk2.1, .int kk2.2])) := same_new hkt
        have hF9 := gK _ _ (g58 _ _ hF5)
        have hk9 : upd H8 kt (.tup [.int kk2.1, .int kk2.2]) kt = some (.tup (([.inl kk2.1, .inl kk2.2] : List Key).map kV)) := upd_same
        have lt : (TG.map rowK).length < sizeLine := by
          rw [List.length_map, PySem.sizeLine_eq]
          have := gd2.len
          omega
        refine ⟨_, rfl, F, rfl, .inr ⟨_, .inl hF9⟩, _, rfl, _, DGet.t hF9 hk9, ?_⟩
        refine ⟨_, rfl, _, rfl, _, _, rfl, rfl, .inl ⟨by omega, by omega⟩, rowGet TG kk2, _, get_put, rfl, ?_⟩
        refine ⟨_, rfl, _, rfl, F, _, rfl, DPut.t hF9 hk9 lt, ?_⟩
        rw [rowAdd_put]
        have mm : 0 < m * m2 := Int.mul_pos mpos mpos2
        refine ⟨_, _, _, _, rowAdd TG kk2 (m * m2), rfl, upd_same, (gd2.add mm okk lek).of fun g => ?_, ?_⟩
        · have e0 := rsum_take_succ hj1 (gOp false g (n0, n1))
          simp only [gop] at e0
          rw [e0, Int.mul_add, Int.mul_assoc]
          omega
        · exact (kp2.trans (Keep.of_same ((gT4.trans g58).trans gK))).trans Keep.put
      · rintro σ H4 ⟨x4, x5, x6, x7, TG, rfl, hTG, gd2, kp2⟩
        refine ⟨_, _, _, _, _, _, TG, rfl, hTG, gd2.of fun g => ?_, ?_⟩
        · rw [List.length_map, List.take_length, tal2.sum, rsum_take_succ hi1]
        · exact fun b o n e => kp2 b o n (kM b o (gT b o (kp b o n e)))
    · rintro σ H' ⟨x2, x3, x4, x5, x6, x7, TF, rfl, hTF, gd, kp⟩
      refine ⟨_, rfl, kk F H' (fun b o e => kp b o (nFH b o e) (same1 b o e)) hF ⟨TF, hTF, gd.tally fun g => ?_⟩⟩
      rw [List.length_map, List.take_length, lsum_op, tal1.sum]
end
end Wr
-- WrTal3
namespace Wr
open PySem L2
section
variable {P : Program} {w : World} {K : PySem.W.Frag} {mg : Str → Option Value} {base : Heap} {f : Addr} {fd : FuncData} {c : Cs}
abbrev sBundleT : Stmt := mth 56 4
theorem scBundleT : FnScope ["self", "found", "near", "many", "far", "more", "key"] ["self"] (defScope sBundleT) := ⟨rfl, rfl, rfl, by decide +kernel, rfl, by decide +kernel, by decide +kernel⟩
theorem ok_bundle_tally {k n : Nat} (hb : ∀ x ∈ blts, mg x = none) (C : SpanC K mg c) (pc : PcCs K c) (ap : c.Apart)
    (IH : TalM P w K mg base c k n) (F : L2.Fun K "tally" "Bundle.tally" sBundleT f fd) : FnOk P w K mg base CX0 (k + 4 + 1) f fd ["self"] (spTally c (n + 1) c.bundle) := by
  refine F.ok scBundleT (fun vs H Q E h => spTally_len h) (fun cdv A' outer s H vs Q E hr h => ?_)
  obtain ⟨a, dx, fs, p, rfl, ha, hp, ok, hn, h6, kk⟩ := h
  cases p with
  | leaf x lo hi =>
    exfalso
    obtain ⟨_, _, _, _, e, _⟩ := hp
    rw [ha] at e
    injection e with e
    injection e with e _ _
    exact ap.tb e.symm
  | op q l r =>
    have eq : q = true := by
      obtain ⟨_, _, _, _, _, _, _, e, _⟩ := hp
      rw [ha] at e
      injection e with e
      injection e with e _ _
      cases q
      · exact absurd e.symm ap.cb
      · rfl
    subst eq
    refine ⟨_, pss_cons (ps_set (i := 1) scBundleT.nd rfl (Or.inl rfl) pe_dnewT)
      (pss_cons (ps_for PassesOwn.never rfl (pi_itemsT (pe_fam0 IH (fun C h => (pc.is h).cls) (pe_fld (pv 0) rfl) (hr.mono (by omega)) pass0)) (pg_tup rfl (pgs_cons (pg_name (i := 2) scBundleT.nd rfl (Or.inl rfl)) (pgs_cons (pg_name (i := 3) scBundleT.nd rfl (Or.inl rfl)) pgs_nil)))
        (pss_one (ps_for PassesOwn.never rfl (pi_itemsT (pe_fam0 IH (fun C h => (pc.is h).cls) (pe_fld (pv 0) rfl) (hr.mono (by omega)) pass0)) (pg_tup rfl (pgs_cons (pg_name (i := 4) scBundleT.nd rfl (Or.inl rfl)) (pgs_cons (pg_name (i := 5) scBundleT.nd rfl (Or.inl rfl)) pgs_nil)))
          (pss_cons (ps_set (i := 6) scBundleT.nd rfl (Or.inl rfl) (pe_tup (pa_cons (pe_callB (call_max2 rfl) rfl (hb _ (by decide)) (by first | rfl | kernel_rfl) (pa_cons (pe_ix ix_tup (pv 2) pe_int (fun _ _ => rfl)) (pa_cons (pe_ix ix_tup (pv 4) pe_int (fun _ _ => rfl)) pa_nil)))
            (pa_cons (pe_callB (call_min2 rfl) rfl (hb _ (by decide)) (by first | rfl | kernel_rfl) (pa_cons (pe_ix ix_tup (pv 2) pe_int (fun _ _ => rfl)) (pa_cons (pe_ix ix_tup (pv 4) pe_int (fun _ _ => rfl)) pa_nil))) pa_nil))))
          (pss_one (ps_if (pt_cmpR L2.op_le (pe_ix ix_tup (pv 6) pe_int (fun _ _ => rfl)) (pe_ix ix_tup (pv 6) pe_int (fun _ _ => rfl)) (nomark _))
            (pss_one (ps_asg (pe_op op_add (pe_dget2 (hu_of hr) (pv 1) (pv 6) pe_int ⟨rfl, rfl, rfl, rfl⟩) (pe_op op_mul (pv 3) (pv 5))) (pg_sub (pv 1) (pv 6) (set_dict (hu_of hr))))) pss_nil))))))
      (pss_one (ps_ret (pv 1)))), ?_⟩
    obtain ⟨dx', b, t, j, u, v, sp0, ea, _, _, _, hl, hr2⟩ := hp
    obtain ⟨okl, okr⟩ := ok
    have hsz : (Plan.op true l r).size = l.size + r.size := rfl
    have zl := l.size_pos
    have zr := r.size_pos
    have p1 := pc.bundle
    intro F hF
    have gF : Same H (upd H F (.dT [])) := same_new hF
    -- the left one's tally
    obtain ⟨Cl, dxl, fsl, isl, el, ll⟩ := hl.ins
    refine ⟨_, rfl, a, c.bundle, dx', _, .ref u, rfl, gF _ _ ea, p1.cls, p1.nl, rfl, u, Cl, dxl, fsl, rfl, gF _ _ el, isl, ll, u, dxl, fsl, l, rfl, gF _ _ el, hl.stay (Stay.of_same gF), okl, by omega, by omega, fun D1 H1 g1 n1 ⟨T1, hD1, tal1⟩ => ?_⟩
    have eF1 : H1 F = some (.dT []) := g1 _ _ upd_same
    have nF1 : F ≠ D1 := ne_of_none (show upd H F (.dT []) F = some (.dT []) from upd_same) n1
    refine ⟨D1, T1.map rowK, rfl, hD1, fun od1 => ?_⟩
    have same1 : ∀ b o, H b = some o → (upd H1 D1 (.frz od1 (.dT (T1.map rowK)))) b = some o := fun b o e => by
      have e0 := gF b o e
      rw [upd_ne (ne_of_none e0 n1)]
      exact g1 _ _ e0
    generalize hHL : upd H1 D1 (.frz od1 (.dT (T1.map rowK))) = HL at same1
    have eD1 : HL D1 = some (.frz od1 (.dT (T1.map rowK))) := by rw [← hHL]; exact upd_same
    have eFL : HL F = some (.dT []) := by rw [← hHL, upd_ne nF1]; exact eF1
    have nFH : ∀ b o, H b = some o → b ≠ F := fun b o e => ne_of_none e hF
    refine for_itemsT (fun i σ H' => ∃ x2 x3 x4 x5 x6 T, σ = [some (V.ref a), some (V.ref F), x2, x3, x4, x5, x6] ∧ H' F = some (.dT (T.map rowK)) ∧ Good T (fun g => rsum (T1.take i) fun q => lsum r.choices (gOp true g q)) ∧ Keep F HL H')
      ⟨none, none, none, none, none, [], rfl, eFL, Good.nil.of fun g => by simp [rsum], Keep.refl _ _⟩ (fun i σ H' ⟨_, _, _, _, _, _, _, _, _, kp⟩ => kp _ _ (Ne.symm nF1) eD1) ?_ ?_
    · rintro i k1 v1 T q σ H' hi ⟨x2, x3, x4, x5, x6, TF, rfl, hTF, gd, kp⟩ hT hq
      obtain ⟨⟨⟨n0, n1⟩, m⟩, hi1, ekv⟩ : ∃ r0, T1[i]? = some r0 ∧ rowK r0 = (k1, v1) := by
        rw [List.getElem?_map] at hi
        cases e : T1[i]? with
        | none => rw [e] at hi; cases hi
        | some r0 => rw [e] at hi; exact ⟨r0, rfl, Option.some.inj hi⟩
      cases ekv
      have hm1 := List.mem_of_getElem? hi1
      have mle := tal1.le _ hm1
      have mpos := tal1.pos _ hm1
      have few1 := choices_few okl (by omega)
      obtain ⟨okn, len1⟩ := choices_box okl (by omega) _ (tal1.key _ hm1)
      simp only at mle mpos okn len1
      have gT : Same H' (upd H' T (.tup [.ref q, .int m])) := same_new hT
      refine ⟨T, _, rfl, SqT.of upd_same, rfl, .ref q, _, rfl, .int m, _, rfl, rfl, ?_⟩
      generalize hH2 : upd H' T (.tup [.ref q, .int m]) = H2 at gT
      have up2 : ∀ b o, H b = some o → H2 b = some o := fun b o e => gT _ _ (kp b o (nFH b o e) (same1 b o e))
      have st2 : Stay H H2 := fun b o _ e => up2 b o e
      obtain ⟨Cr, dxr, fsr, isr, er, lr⟩ := hr2.ins
      refine ⟨_, rfl, a, c.bundle, dx', _, .ref v, rfl, up2 _ _ ea, p1.cls, p1.nr, rfl, v, Cr, dxr, fsr, rfl, up2 _ _ er, isr, lr, v, dxr, fsr, r, rfl, up2 _ _ er, hr2.stay st2, okr, by omega, by omega, fun D2 H3 g3 nD2 ⟨T2, hD2, tal2⟩ => ?_⟩
      have eF2 : H2 F = some (.dT (TF.map rowK)) := gT _ _ hTF
      have nF2 : F ≠ D2 := ne_of_none eF2 nD2
      refine ⟨D2, T2.map rowK, rfl, hD2, fun od2 => ?_⟩
      have kM : ∀ b o, H2 b = some o → (upd H3 D2 (.frz od2 (.dT (T2.map rowK)))) b = some o := fun b o e => by
        rw [upd_ne (ne_of_none e nD2)]
        exact g3 _ _ e
      generalize hHM : upd H3 D2 (.frz od2 (.dT (T2.map rowK))) = HM at kM
      have eD2 : HM D2 = some (.frz od2 (.dT (T2.map rowK))) := by rw [← hHM]; exact upd_same
      refine for_itemsT (fun j σ H' => ∃ x4 x5 x6 TF', σ = [some (V.ref a), some (V.ref F), some (.ref q), some (.int m), x4, x5, x6] ∧ H' F = some (.dT (TF'.map rowK)) ∧
          Good TF' (fun g => (rsum (T1.take i) fun q => lsum r.choices (gOp true g q)) + m * rsum (T2.take j) (gOp true g (n0, n1))) ∧ Keep F HM H')
        ⟨x4, x5, x6, TF, rfl, kM _ _ eF2, gd.of fun g => by simp [rsum], Keep.refl _ _⟩ (fun i σ H' ⟨_, _, _, _, _, _, _, kp⟩ => kp _ _ (Ne.symm nF2) eD2) ?_ ?_
      · rintro j k2 v2 Tt q2 σ H4 hj ⟨x4, x5, x6, TG, rfl, hTG, gd2, kp2⟩ hTt hq2
        obtain ⟨⟨⟨f0, f1⟩, m2⟩, hj1, ekv⟩ : ∃ r0, T2[j]? = some r0 ∧ rowK r0 = (k2, v2) := by
          rw [List.getElem?_map] at hj
          cases e : T2[j]? with
          | none => rw [e] at hj; cases hj
          | some r0 => rw [e] at hj; exact ⟨r0, rfl, Option.some.inj hj⟩
        cases ekv
        have hm2 := List.mem_of_getElem? hj1
        have mpos2 := tal2.pos _ hm2
        obtain ⟨okf, len2⟩ := choices_box okr (by omega) _ (tal2.key _ hm2)
        simp only at mpos2 okf len2
        have gT4 : Same H4 (upd H4 Tt (.tup [.ref q2, .int m2])) := same_new hTt
        refine ⟨Tt, _, rfl, SqT.of upd_same, rfl, .ref q2, _, rfl, .int m2, _, rfl, rfl, ?_⟩
        generalize hH5 : upd H4 Tt (.tup [.ref q2, .int m2]) = H5 at gT4
        have nqF : q ≠ F := fun z => by rw [z, hTF] at hq; cases hq
        have hq5 : H5 q = some (.tup [.int n0, .int n1]) := gT4 _ _ (kp2 _ _ nqF (kM _ _ (gT _ _ hq)))
        have hq25 : H5 q2 = some (.tup [.int f0, .int f1]) := gT4 _ _ hq2
        have hF5 : H5 F = some (.dT (TG.map rowK)) := gT4 _ _ hTG
        have a0 : ∀ x y : V, atI [x, y] 0 = some x := fun _ _ => rfl
        have a1 : ∀ x y : V, atI [x, y] 1 = some y := fun _ _ => rfl
        refine ⟨_, rfl, q, _, _, _, rfl, rfl, SqT.of hq5, a0 _ _, _, rfl, q2, _, _, _, rfl, rfl, SqT.of hq25, a0 _ _, _, _, rfl, ?_⟩
        refine ⟨_, rfl, q, _, _, _, rfl, rfl, SqT.of hq5, a1 _ _, _, rfl, q2, _, _, _, rfl, rfl, SqT.of hq25, a1 _ _, _, _, rfl, two_le, fun kt hkt => ?_⟩
        rw [max_if, min_if]
        have ek : ∀ s, andS (n0, n1) (f0, f1) = some s → s = (max n0 f0, min n1 f1) := fun s e => by
          unfold andS at e
          simp only at e
          split at e
          · exact (Option.some.inj e).symm
          · cases e
        have eif : (max n0 f0 ≤ min n1 f1) ↔ andS (n0, n1) (f0, f1) = some (max n0 f0, min n1 f1) := by
          unfold andS
          simp only
          split
          · rename_i h; exact ⟨fun _ => rfl, fun _ => h⟩
          · rename_i h; exact ⟨fun h' => absurd h' h, fun z => nomatch z⟩
        have gop : ∀ g, max n0 f0 ≤ min n1 f1 → gOp true g (n0, n1) (f0, f1) = g (max n0 f0, min n1 f1) := fun g h => by
          show (match andS (n0, n1) (f0, f1) with | some c => g c | none => 0) = _
          rw [eif.mp h]
        have gop0 : ∀ g, ¬ max n0 f0 ≤ min n1 f1 → gOp true g (n0, n1) (f0, f1) = 0 := fun g h => by
          show (match andS (n0, n1) (f0, f1) with | some c => g c | none => 0) = _
          cases e : andS (n0, n1) (f0, f1) with
          | none => rfl
          | some s =>
            rw [ek s e] at e
            exact absurd (eif.mpr e) h
        have okk : max n0 f0 ≤ min n1 f1 → okS (max n0 f0, min n1 f1) := fun h => op_ok (p := true) okn okf (eif.mp h)
        have lek : min n1 f1 ≤ 12 := by omega
        have gK : Same H5 (upd H5 kt (.tup [.int (max n0 f0), .int (min n1 f1)])) := same_new hkt
        have hF9 := gK _ _ hF5
        have hk9 : upd H5 kt (.tup [.int (max n0 f0), .int (min n1 f1)]) kt = some (.tup (([.inl (max n0 f0), .inl (min n1 f1)] : List Key).map kV)) := upd_same
        refine ⟨_, rfl, kt, _, _, _, rfl, rfl, SqT.of hk9, a0 _ _, _, rfl, kt, _, _, _, rfl, rfl, SqT.of hk9, a1 _ _, _, _, rfl, rfl, _, rfl, ?_⟩
        have lt : (TG.map rowK).length < sizeLine := by
          rw [List.length_map, PySem.sizeLine_eq]
          have := gd2.len
          omega
        have mm : 0 < m * m2 := Int.mul_pos mpos mpos2
        have kp9 := kp2.trans (Keep.of_same (gT4.trans gK))
        refine ite2 (fun h => ?_) fun h => ?_
        · have h : max n0 f0 ≤ min n1 f1 := of_decide_eq_true h
          have gop := fun g => gop g h
          have okk := okk h
          generalize max n0 f0 = k0 at *
          generalize min n1 f1 = k1 at *
          refine ⟨_, rfl, F, rfl, .inr ⟨_, .inl hF9⟩, _, rfl, _, DGet.t hF9 hk9, ?_⟩
          refine ⟨_, rfl, _, rfl, _, _, rfl, rfl, .inl ⟨by omega, by omega⟩, rowGet TG (k0, k1), _, get_put (k := (k0, k1)), rfl, ?_⟩
          refine ⟨_, rfl, _, rfl, F, _, rfl, DPut.t hF9 hk9 lt, ?_⟩
          rw [rowAdd_put TG (k0, k1)]
          refine ⟨_, _, _, rowAdd TG (k0, k1) (m * m2), rfl, upd_same, (gd2.add mm okk lek).of fun g => ?_, kp9.trans Keep.put⟩
          have e0 := rsum_take_succ hj1 (gOp true g (n0, n1))
          simp only [gop] at e0
          rw [e0, Int.mul_add, Int.mul_assoc]
          omega
        · have h : ¬ max n0 f0 ≤ min n1 f1 := fun z => h (decide_eq_true z)
          refine ⟨_, _, _, TG, rfl, hF9, gd2.of fun g => ?_, kp9⟩
          have e0 := rsum_take_succ hj1 (gOp true g (n0, n1))
          simp only [gop0 g h] at e0
          rw [e0]
          simp
      · rintro σ H4 ⟨x4, x5, x6, TG, rfl, hTG, gd2, kp2⟩
        refine ⟨_, _, _, _, _, TG, rfl, hTG, gd2.of fun g => ?_, ?_⟩
        · rw [List.length_map, List.take_length, tal2.sum, rsum_take_succ hi1]
        · exact fun b o n e => kp2 b o n (kM b o (gT b o (kp b o n e)))
    · rintro σ H' ⟨x2, x3, x4, x5, x6, TF, rfl, hTF, gd, kp⟩
      refine ⟨_, rfl, kk F H' (fun b o e => kp b o (nFH b o e) (same1 b o e)) hF ⟨TF, hTF, gd.tally fun g => ?_⟩⟩
      rw [List.length_map, List.take_length, lsum_op, tal1.sum]
end
end Wr
-- WrCnt
namespace Wr
open PySem L2
section
variable {P : Program} {w : World} {K : PySem.W.Frag} {mg : Str → Option Value} {base : Heap} {f : Addr} {fd : FuncData} {c : Cs}
theorem tYes_if {σ : L2.St} {H : Hp} {A B : Hp → Prop} : (tYes σ H fun b H3 => if b = true then A H3 else B H3) = A H := by
  show (if true = true then A H else B H) = A H
  rw [if_pos rfl]
theorem Paired.append {α β : Type} {R : α → β → Prop} {as as' : List α} {bs bs' : List β} (h : Paired R as bs) (h' : Paired R as' bs') : Paired R (as ++ as') (bs ++ bs') := by
  induction h with
  | nil => exact h'
  | cons a _ ih => exact .cons a ih
/-- tally at three classes: what the text gives -/
structure TalF (K : PySem.W.Frag) (c : Cs) : Prop where
  tie : ∃ f fd, L2.Fun K "tally" "Tie.tally" sTieT f fd ∧ Meth K c.tie "tally" f
  chain : ∃ f fd, L2.Fun K "tally" "Chain.tally" sChainT f fd ∧ Meth K c.chain "tally" f
  bundle : ∃ f fd, L2.Fun K "tally" "Bundle.tally" sBundleT f fd ∧ Meth K c.bundle "tally" f
theorem tal_all (hb : ∀ x ∈ blts, mg x = none) (C : SpanC K mg c) (W : WholesC K c) (A : AddD P w K mg base c) (M : SpanMv P w K mg base c) (PL : SpanPv P w K mg base c "least" "low") (PG : SpanPv P w K mg base c "greatest" "high") (pc : PcCs K c) (ap : c.Apart) (T : TalF K c) :
    ∀ n, TalM P w K mg base c (2 + 5 * n) n := by
  obtain ⟨⟨f1, fd1, F1, m1⟩, ⟨f2, fd2, F2, m2⟩, ⟨f3, fd3, F3, m3⟩⟩ := T
  have b1 : Binds K fd1 ["self"] [] := F1.binds fun _ _ _ _ _ _ us hl => match us, hl with | [_], _ => rfl
  have b2 : Binds K fd2 ["self"] [] := F2.binds fun _ _ _ _ _ _ us hl => match us, hl with | [_], _ => rfl
  have b3 : Binds K fd3 ["self"] [] := F3.binds fun _ _ _ _ _ _ us hl => match us, hl with | [_], _ => rfl
  intro n
  induction n with
  | zero =>
    have vac : ∀ {k : Nat} {f : Addr} {fd : FuncData} (C : Addr), FnOk P w K mg base CX0 k f fd ["self"] (spTally c 0 C) := fun {k f fd} C => ⟨fun vs H Q E h => spTally_len h, fun A outer s H args us vs Q E _ _ _ _ h => by
      obtain ⟨a, dx, fs, p, _, _, _, _, h0, _⟩ := h
      have := p.size_pos
      omega⟩
    refine ⟨fun C hC => ?_⟩
    rcases hC with rfl | rfl | rfl
    · exact ⟨f1, fd1, _, m1, vac _, b1⟩
    · exact ⟨f2, fd2, _, m2, vac _, b2⟩
    · exact ⟨f3, fd3, _, m3, vac _, b3⟩
  | succ n ih =>
    refine ⟨fun C' hC => ?_⟩
    rcases hC with rfl | rfl | rfl
    · exact ⟨f1, fd1, _, m1, (ok_tie_tally hb C W pc.tie ap F1).mono (by omega), b1⟩
    · exact ⟨f2, fd2, _, m2, (ok_chain_tally hb C A M PL PG pc ap ih F2).mono (by omega), b2⟩
    · exact ⟨f3, fd3, _, m3, (ok_bundle_tally hb C pc ap ih F3).mono (by omega), b3⟩

abbrev sCounts : Stmt := mth 53 7
theorem scCounts : FnScope ["self", "bounds", "number"] ["self"] (defScope sCounts) := ⟨rfl, rfl, rfl, by decide +kernel, rfl, by decide +kernel, by decide +kernel⟩
/-- the counts of p, as rows, stand at q -/
def CountsAt (H : Hp) (p : Plan) (q : Addr) : Prop := ∃ (as : List Addr) (T : List Row), H q = some (.tup (as.map V.ref)) ∧ Rows3 H as (rowSort T) ∧ Tally T p.choices ∧ (rowSort T).length ≤ 1000 ∧ ∀ b ∈ rowSort T, RowSmall b
def spCounts (c : Cs) (C : Addr) : Sp := fun vs H Q _ => ∃ (a dx : Addr) (fs : List (Str × V)) (p : Plan), vs = [.ref a] ∧ isPc c C ∧ H a = some (.ins C dx fs) ∧ PieceAt c H p a ∧ p.ok 2 ∧ p.size ≤ 6 ∧ ∀ q H', Same H H' → CountsAt H' p q → Q (.ref q) H'
theorem Rows3.same {H H' : Hp} {as : List Addr} {bs : List Row} (k : Same H H') (h : Rows3 H as bs) : Rows3 H' as bs := Paired.mapP h fun _ _ z => k _ _ z
theorem ok_counts (hb : ∀ x ∈ blts, mg x = none) (pc : PcCs K c) (TM : TalM P w K mg base c 32 6) (F : L2.Fun K "counts" "Piece.counts" sCounts f fd) : ∀ C, FnOk P w K mg base CX0 33 f fd ["self"] (spCounts c C) := by
  intro C
  refine F.ok scCounts (fun vs H Q E h => ?_) (fun cdv A outer s H vs Q E hr h => ?_)
  · obtain ⟨a, dx, fs, p, rfl, _⟩ := h
    rfl
  · obtain ⟨a, dx, fs, p, rfl, isC, ha, hp, ok, h6, k⟩ := h
    refine ⟨_, pss_one (ps_ret (pe_callTy call_tuple_of rfl (hb _ (by decide)) (by first | rfl | kernel_rfl) (pa_cons
      (pe_lc (own := [("bounds", 1), ("number", 2)]) (g := gTup K 2 (gCons (gName 1) (gCons (gName 2) gNil))) (tt := tYes) rfl scCounts.nd
        (pi_list (pe_callB (cr_sortedII rfl hr.units) rfl (hb _ (by decide)) (by first | rfl | kernel_rfl) (pa_cons (pe_bm0 PySem.F.plainAttrs_dict PySem.F.slot_dict_items PySem.F.type_dict_items DX.mt_itemsT (pe_fam0 TM (fun C h => (pc.is h).cls) (pv 0) hr pass0)) pa_nil)))
        (blkOk_by (N := ["self", "bounds", "number"]) (sc := defScope sCounts) (by decide +kernel)) (fun _ _ _ _ _ => pg_tup rfl (pgs_cons (pg_name (i := 1) scCounts.nd rfl (Or.inl rfl)) (pgs_cons (pg_name (i := 2) scCounts.nd rfl (Or.inl rfl)) pgs_nil))) (fun _ _ _ _ _ => pts_nil)
        (te := tTup (StX.tStar K (tVar 1) (tCons (tVar 2) tNil))) (fun s' H' C' cl' fp' => by
          refine pe_tup ?_
          refine StX.pa_star (pv 1) (pa_cons (pv 2) pa_nil))) pa_nil))), ?_⟩
    obtain ⟨C1, dx1, fs1, is1, e1, l1⟩ := hp.ins
    rw [ha] at e1
    cases e1
    refine ⟨_, rfl, a, C, dx, fs, rfl, ha, isC, l1, a, dx, fs, p, rfl, ha, hp, ok, h6, h6, fun D1 H1 g1 n1 ⟨T, hD1, tal⟩ => ?_⟩
    refine ⟨.inr (.inr (.inl ⟨rfl, .inr ⟨_, hD1⟩⟩)), D1, _, rfl, rfl, hD1, fun vw hvw => ?_⟩
    have g2 : Same H1 (upd H1 vw (DX.itemsO vw D1)) := same_new hvw
    have few := choices_few ok h6
    have box := choices_box ok h6
    have lenT : T.length ≤ 169 := box_len (m := 12) tal.nd fun r hr' => by
      obtain ⟨⟨h1, h2⟩, h3⟩ := box _ (tal.key _ hr')
      exact ⟨h1, h2, h3⟩
    have perm : (rowSort T).Perm T := List.mergeSort_perm T rowLe
    have lenS : (rowSort T).length ≤ 1000 := by rw [perm.length_eq]; omega
    have small : ∀ b ∈ rowSort T, RowSmall b := fun b hb' => by
      have hm := perm.mem_iff.mp hb'
      obtain ⟨⟨h1, h2⟩, h3⟩ := box _ (tal.key _ hm)
      have h4 := tal.le _ hm
      have h5 := tal.pos _ hm
      refine ⟨by omega, by omega, by omega⟩
    refine ⟨vw, D1, T, rfl, upd_same, g2 _ _ hD1, by omega, fun H3 l as g3 hl rows => ?_⟩
    have lenA : as.length = (rowSort T).length := Paired.length rows
    refine ⟨l, rfl, ⟨_, SqL.of hl⟩, fun D hD => ?_⟩
    have nlD : l ≠ D := ne_of_none hl hD
    refine lc_list (xs := as.map V.ref) (fun i H' => ∃ bs : List Addr, H' D = some (.lst (bs.map V.ref)) ∧ Keep D H3 H' ∧ Rows3 H' bs ((rowSort T).take i)) ⟨[], upd_same, Keep.fresh hD, .nil⟩ (fun i H' _ ⟨_, _, kp, _⟩ => SqL.of (kp _ _ nlD hl)) (fun i x H' hx ⟨bs, hbs, kp, rw3⟩ => ?_) fun H' ⟨bs, hbs, kp, rw3⟩ => ?_
    · obtain ⟨pa, hpa, rfl⟩ : ∃ pa, as[i]? = some pa ∧ x = V.ref pa := by
        rw [List.getElem?_map] at hx
        cases e : as[i]? with
        | none => rw [e] at hx; cases hx
        | some pa => rw [e] at hx; exact ⟨pa, rfl, (Option.some.inj hx).symm⟩
      obtain ⟨rw0, hr0, q, hq1, hq2⟩ := paired_get rows hpa
      have n1' : pa ≠ D := ne_of_none hq1 hD
      have n2' : q ≠ D := ne_of_none hq2 hD
      refine ⟨pa, _, rfl, SqT.of (kp _ _ n1' hq1), rfl, _, _, rfl, _, _, rfl, rfl, rfl, ?_⟩
      rw [tYes_if]
      refine ⟨_, rfl, q, _, rfl, .inl (SqT.of (kp _ _ n2' hq2)), _, rfl, three_le, fun y hy => ?_⟩
      have nyD : D ≠ y := ne_of_none hbs hy
      have gy : Same H' (upd H' y (.tup [.int rw0.1.1, .int rw0.1.2, .int rw0.2])) := same_new hy
      have lb : bs.length = ((rowSort T).take i).length := Paired.length rw3
      refine ⟨bs.map V.ref, gy _ _ hbs, ?_, bs ++ [y], by rw [upd_same, List.map_append]; rfl, (kp.trans (Keep.of_same gy)).trans Keep.put, ?_⟩
      · rw [List.length_map, lb, List.length_take, PySem.sizeLine_eq]; omega
      · have k2 : Keep D H' (upd (upd H' y (.tup [.int rw0.1.1, .int rw0.1.2, .int rw0.2])) D (.lst (bs.map V.ref ++ [.ref y]))) := (Keep.of_same gy).trans Keep.put
        have e : (rowSort T).take (i + 1) = (rowSort T).take i ++ [rw0] := by rw [List.take_add_one, hr0]; rfl
        rw [e]
        refine Paired.append (Paired.mapP rw3 fun b r z => k2 _ _ (fun zz => ?_) z) (.cons ?_ .nil)
        · rw [zz, hbs] at z; cases z
        · show upd _ D _ y = _
          rw [upd_ne (Ne.symm nyD)]
          exact upd_same
    · rw [List.length_map, lenA, List.take_length] at rw3
      refine ⟨D, _, rfl, .inl ⟨SqL.of hbs, fun q hq => ?_⟩⟩
      have gq : Same H' (upd H' q (.tup (bs.map V.ref))) := same_new hq
      refine k q _ (fun b o e => gq _ _ (kp b o ?_ (g3 _ _ (g2 _ _ (g1 _ _ e))))) ⟨bs, T, upd_same, rw3.same gq, tal, lenS, small⟩
      exact ne_of_none (g3 _ _ (g2 _ _ (g1 _ _ e))) hD
end
end Wr
-- WrEnum
/-! for (i, x) in enumerate(t), t a tuple; [.. for c in s], s a text; x in ((a, b), ..) -/
namespace Wr
open PySem L2 PySem.Spec PyProof.Rows
theorem enum_newT (l : Addr) (items : Array Value) (n : Nat) (dct : Option Addr) (sl : Array (Option Value)) :
    Meets (Builtin.«enumerate.__new__» ⟨[.type "enumerate", .ref l], []⟩) (fun _ R s => s.heap.get? l = some { cls := .type "tuple", dict := dct, data := .seq items n, slots := sl } ∧
      R (.ok (.ret (.ref (s.heap.push { cls := .type "tuple_iterator", data := .fields #[.ref l, .int 0 0] }).objs.size)))
        { s with heap := (s.heap.push { cls := .type "tuple_iterator", data := .fields #[.ref l, .int 0 0] }).push { cls := .type "enumerate", data := .fields #[.none, .bool false, .ref s.heap.objs.size, rawInt 0, .none, .none] } }) :=
  .of_wp fun prog w A R s h => by
    obtain ⟨hp, g, d, tk, os⟩ := s; obtain ⟨hl, h⟩ := h
    have hsub := sub_enumerate
    have hL : Heap.IsTuple (Shared.heap ⟨hp, g, d, tk, os⟩) l items := ⟨_, hl, rfl, n, rfl⟩
    wp_walk using AutoSeq1.wpAny_loadPart' hl
    refine wpAny_stack_any fun st => wpAny_pure ?_
    split
    · rename_i c _ _ _ _ _
      cases (c == Value.type "enumerate")
      · wp_walk using AutoSeq1.wpAny_loadPart' hl, wpAny_pyIter_tuple hL
        exact ⟨_, rfl, h⟩
      · wp_walk using AutoSeq1.wpAny_loadPart' hl, wpAny_pyIter_tuple hL
        exact ⟨_, rfl, h⟩
    · wp_walk using AutoSeq1.wpAny_loadPart' hl, wpAny_pyIter_tuple hL
      exact ⟨_, rfl, h⟩
section
variable {prog : Program} {w : World} {A : Around} {E : Value → Shared → Prop} {s : Shared}
theorem call_enum_tuple {l : Addr} {items : Array Value} {Q : Value → Shared → Prop} (hL : s.heap.IsTuple l items)
    (h : ∀ h', IsEnum h' (s.heap.objs.size + 1) s.heap.objs.size 0 .none → h'.IsTupleIter s.heap.objs.size l 0 → h'.objs.size = s.heap.objs.size + 2 →
      (∀ b o, s.heap.get? b = some o → h'.get? b = some o) → Q (.ref (s.heap.objs.size + 1)) { s with heap := h' }) :
    wpAny (model prog w) A (call (.type "enumerate") [.ref l]) Q E s := by
  obtain ⟨⟨c, dct, dt, sl⟩, hl, hc, n, hd⟩ := hL
  replace hc : c = .type "tuple" := hc
  replace hd : dt = .seq items n := hd
  subst hc hd
  refine callType_new F.called_enumerate (by decide) (F.typeCall_enumerate_1 _) (F.newCall_enumerate_1 _) (fun obj => F.args_object_init_2 obj _) F.entry_enumerate_new
    (enum_newT l items n dct sl) ⟨hl, ?_⟩
  have hz : (s.heap.push { cls := .type "tuple_iterator", data := .fields #[.ref l, .int 0 0] }).objs.size = s.heap.objs.size + 1 := Heap.size_push ..
  show _ ∧ _
  rw [hz]
  have he : IsEnum ((s.heap.push { cls := .type "tuple_iterator", data := .fields #[.ref l, .int 0 0] }).push
      { cls := .type "enumerate", data := .fields #[.none, .bool false, .ref s.heap.objs.size, rawInt 0, .none, .none] }) (s.heap.objs.size + 1) s.heap.objs.size 0 .none := by
    have := Heap.get?_push_size (s.heap.push { cls := .type "tuple_iterator", data := .fields #[.ref l, .int 0 0] })
      (o := { cls := .type "enumerate", data := .fields #[.none, .bool false, .ref s.heap.objs.size, rawInt 0, .none, .none] }) rfl
    rw [hz] at this; exact this
  refine ⟨⟨_, he, rfl⟩, h _ he ⟨_, Heap.get?_push_of_some _ (Heap.get?_push_size _ rfl), rfl, rfl⟩ (by rw [Heap.size_push, hz]) fun b o x => Heap.get?_push_of_some _ (Heap.get?_push_of_some _ x)⟩
end
def Iteu (K : PySem.W.Frag) (a : Addr) : It :=
  ⟨fun i H => ∃ (xs : List V) (x : V), SqT K H a xs ∧ xs[i]? = some x, fun i H v H' => ∃ T x, v = .ref T ∧ H T = none ∧ H' = upd H T (.tup [.int (i : Nat), x]) ∧ ∀ xs, SqT K H a xs → xs[i]? = some x, fun i H => ∃ xs : List V, SqT K H a xs ∧ xs.length ≤ i⟩
theorem turn_enumT {P : Program} {w : World} {K : PySem.W.Frag} {elts : List Expr} {kk : Nat} {tpos : Pos} (a e it : Addr) :
    Turn P w K (.Tuple elts kk tpos) (Iteu K a) [e, it] e (fun i h => (∃ old, IsEnum h e it ((i : Nat) : Int) old) ∧ h.IsTupleIter it a i ∧ e ≠ it ∧ a ≠ it ∧ a ≠ e) where
  mem := by simp
  obj := fun i h st b hb => by
    obtain ⟨⟨old, he⟩, ⟨o, ho, hc, hd⟩, _⟩ := st
    have e' : b = e ∨ b = it := by simpa using hb
    rcases e' with z | z
    · rw [z]; exact ⟨_, he, fun v q => nomatch q⟩
    · rw [z]; exact ⟨o, ho, fun v q => by rw [hd] at q; cases q⟩
  keep := fun i h h' st k => let ⟨⟨old, he⟩, hi, hne⟩ := st; ⟨⟨old, k e (by simp) _ he⟩, hi.at fun o q => k it (by simp) o q, hne⟩
  item := by
    intro X hP hw hK hc i pins s σ H E I hf st hg
    subst hP hw hK
    obtain ⟨⟨old, he⟩, hit, hne, n1, n2⟩ := st
    obtain ⟨xs, x, hq, hx⟩ := hg
    obtain ⟨its, rv, p, hz⟩ := I.tuple hq
    obtain ⟨u, hu, ru⟩ := rv.get hx
    have hel : e < s.heap.objs.size := Heap.lt_size he
    have hil : it < s.heap.objs.size := by obtain ⟨_, q, _⟩ := hit; exact Heap.lt_size q
    have hlt : i < its.toArray.size := by
      have hl := rv.length
      have := (List.getElem?_eq_some_iff.mp hx).1
      simp; omega
    refine wpAny_pyNext_enum_itemD (Draws.tuple (prog := X.prog) (w := X.w) (A := X.A.in1) (by show X.A.in1.handled = none; exact I.ok.hd hc) it a n1 its.toArray) he ⟨hit, show s.heap.IsTuple a its.toArray from p⟩ hlt hne
      (by simp; exact ⟨hne, fun z => n2 z.symm⟩) fun x' h' tk' hx' ho hst' hT hsz hk => ?_
    obtain rfl : u = x' := by
      have : its.toArray[i]? = some x' := hx'
      simp at this
      rw [hu] at this
      exact Option.some.inj this
    refine ⟨_, rfl, wpAny_letOwnedTupleGo_enum (s := { s with heap := h', toks := tk' + 1 }) ho fun h'' he' sb => ?_⟩
    have hT2 : h''.get? s.heap.objs.size = some { cls := .type "tuple", data := .seq #[.int i tk', u] } := (sb.2 _ (Nat.ne_of_gt hel)).trans hT
    have new : ObjOk X.prog X.w (upd H s.heap.objs.size (.tup [.int (i : Nat), x])) h'' s.heap.objs.size (.tup [.int (i : Nat), x]) :=
      ⟨by show 2 ≤ sizeLine; decide, [.int i tk', u], .cons ⟨_, rfl⟩ (.cons ru .nil), ⟨_, hT2, rfl, _, rfl⟩⟩
    have I1 : Inv X pins σ (upd H s.heap.objs.size (.tup [.int (i : Nat), x])) { s with heap := h'', toks := tk' + 1 } :=
      I.turnedNew (ch := [e, it]) (fun b ob hb q => (sb.2 b (fun z => hb (by simp [z]))).trans (hk b ob (fun z => hb (by simp [z])) (fun z => hb (by simp [z])) q)) hf (Nat.le_refl _) new
    refine ⟨.ref s.heap.objs.size, _, I1, rfl, ⟨_, x, rfl, I.hok.fresh (Nat.le_refl _), rfl, fun ys hy => by rw [I.tuple_inj hy hq]; exact hx⟩, ⟨⟨u, ?_⟩, hst'.1.at fun o q => (sb.2 it (Ne.symm hne)).trans q, hne, n1, n2⟩, fun b hb => ?_⟩
    · have e1 : ((i + 1 : Nat) : Int) = (i : Int) + 1 := by omega
      rw [e1]; exact he'
    · have hb' : b < s.heap.objs.size := by
        have e' : b = e ∨ b = it := by simpa using hb
        rcases e' with z | z
        · rw [z]; exact hel
        · rw [z]; exact hil
      rw [upd_ne (Nat.ne_of_lt hb')]
      exact (hf b hb).1
  done := by
    intro X hP hw hK hc i pins s σ H E I hf st hg
    subst hP hw hK
    obtain ⟨⟨old, he⟩, hit, hne, n1, n2⟩ := st
    obtain ⟨xs, hq, hx⟩ := hg
    obtain ⟨its, rv, p, hz⟩ := I.tuple hq
    obtain ⟨f0, f1, f2, f3, f4, f5⟩ := hf it (by simp)
    have hl := rv.length
    have hT : s.TypeIs (.ref e) "enumerate" := ⟨_, he, rfl⟩
    unfold pyNext
    refine wpAny_bind (wpAny_attempt (wpAny_callSpecial?_slot (name := Str.ofString "__next__") hT F.slot_enumerate_next
      (wpAny_call_entry F.slot_enumerate_next hT F.entry_enumerate_next ?_ (F.args_enumerate_next_1 _))))
    show wpAny _ _ (field (.ref e) 2 >>= _) _ _ _
    refine wpAny_bind (wpAny_field he rfl (x := .ref it) rfl ?_)
    refine wpAny_bind (wpAny_nextOf_tuple_end (by show X.A.in1.in1.handled = none; exact I.ok.hd hc) hit (show s.heap.IsTuple a its.toArray from p) (by simp; omega) fun h' x he' hx' => ?_)
    obtain ⟨o, ho, hc'⟩ := hx'
    refine wpAny_bind (wpAny_isInstance (T := "StopIteration") (b := true) ⟨o, ho, hc'⟩ isSubtype_stop ?_)
    exact wpAny_pure ⟨rfl, I.turned (t' := s.toks) (fun b o hb q => he' b o hb q) f0 f1 f3 f4 f5⟩
  self := fun A i s Q E st h => let ⟨⟨_, he⟩, _⟩ := st; wpAny_pyIter_enum he h
def iEnumT (K : PySem.W.Frag) (ta : TA) : TI := fun σ H R => ta σ H fun vs H1 => ∃ a xs, vs = [.ref a] ∧ SqT K H1 a xs ∧ R (Iteu K a) H1
theorem pi_enumT {X : Cx} {e : Expr} {ta : TA} {p pos tpos : Pos} {elts : List Expr} {kk : Nat} (hg : Gl X "enumerate") (hm : X.mg "enumerate" = none) (ha : PA X [e] ta) (hs : starEach [e] X.env = [(false, eval e X.env)] := by rfl) :
    PI X (.Tuple elts kk tpos) (.Call (.Name "enumerate" p) [e] [] pos) (iEnumT X.K ta) := by
  refine ⟨fun pins s σ H R I h => ?_⟩
  refine Call_ (ld_blt I hg hm boot_enumerate (PyProof.Rows.callWith_type1 (thn (ha.run pos pins s σ H _ I h) fun us s1 ⟨vs, H1, I1, r1, q1⟩ => ?_) hs rfl))
  obtain ⟨a, xs, ex, hq, q⟩ := q1
  subst ex
  cases r1 with
  | cons r rr =>
    cases rr
    cases r
    obtain ⟨its, rv, p', hz⟩ := I1.tuple hq
    have hlt : a < s1.heap.objs.size := by obtain ⟨o, ho, _⟩ := id p'; exact Heap.lt_size ho
    refine call_enum_tuple (show s1.heap.IsTuple a its.toArray from p') fun h' he hit hsz hk => wpAny_pyIter_enum he ?_
    have I2 : Inv X pins σ H1 { s1 with heap := h' } := I1.kept (t' := s1.toks) hk
    refine ⟨s1.heap.objs.size + 1, [s1.heap.objs.size + 1, s1.heap.objs.size], _, _, H1, rfl, I2, turn_enumT a (s1.heap.objs.size + 1) s1.heap.objs.size, ⟨⟨.none, he⟩, hit, Nat.succ_ne_self _, Nat.ne_of_lt hlt, Nat.ne_of_lt (Nat.lt_succ_of_lt hlt)⟩, fun b hb => ?_, q⟩
    have e' : b = s1.heap.objs.size + 1 ∨ b = s1.heap.objs.size := by simpa using hb
    have hle : s1.heap.objs.size ≤ b := by
      rcases e' with z | z
      · rw [z]; exact Nat.le_add_right _ _
      · rw [z]; exact Nat.le_refl _
    exact I1.fpOk hle (I1.hok.fresh hle)
theorem walk_enumT {K : PySem.W.Frag} {a : Addr} {xs : List V} : Walk (Iteu K a) xs.length (fun H => SqT K H a xs) (YPair (fun i => some (.int (i : Nat))) (fun i => xs[i]?)) := by
  refine ⟨fun i _ hi q => ⟨xs, xs[i], q, by simp [hi]⟩, fun _ q => ⟨xs, q, Nat.le_refl _⟩, fun i H v H' _ q y => ?_⟩
  obtain ⟨T, x, h1, h2, h3, h4⟩ := y
  exact ⟨T, .int (i : Nat), x, h1, h2, h3, rfl, h4 xs q⟩
/-- a pair of texts stands at a -/
def PairAt (H : Hp) (a : Addr) (u v : Str) : Prop := H a = some (.tup [.str u, .str v])
def pD (u v : Str) : PyData := .tuple [.str u, .str v]
theorem PairAt.dp {K : PySem.W.Frag} {H : Hp} {a : Addr} {u v : Str} (h : PairAt H a u v) : Dp K H (.ref a) (pD u v) := .tup (SqT.of h) (.cons (.str _) (.cons (.str _) .nil))
theorem pD_eqv (u v u' v' : Str) : PyData.eqv (pD u v) (pD u' v') = decide (u = u' ∧ v = v') := by
  have e : PyData.eqv (pD u v) (pD u' v') = ((u == u') && ((v == v') && true)) := by simp only [pD, PyData.eqv, PyData.eqvAll]
  rw [e]
  by_cases h1 : u = u' <;> by_cases h2 : v = v' <;> simp [h1, h2]
def rInP : R2 := fun x y H Q => ∃ (a b p q : Addr) (u v u1 v1 u2 v2 : Str), x = .ref a ∧ y = .ref b ∧ PairAt H a u v ∧ H b = some (.tup [.ref p, .ref q]) ∧ PairAt H p u1 v1 ∧ PairAt H q u2 v2 ∧ Q (.bl (decide ((u1 = u ∧ v1 = v) ∨ (u2 = u ∧ v2 = v)))) H
def rNotInP : R2 := fun x y H Q => ∃ (a b p q : Addr) (u v u1 v1 u2 v2 : Str), x = .ref a ∧ y = .ref b ∧ PairAt H a u v ∧ H b = some (.tup [.ref p, .ref q]) ∧ PairAt H p u1 v1 ∧ PairAt H q u2 v2 ∧ Q (.bl (!decide ((u1 = u ∧ v1 = v) ∨ (u2 = u ∧ v2 = v)))) H
theorem pD_any (u v u1 v1 u2 v2 : Str) : ([pD u1 v1, pD u2 v2].any fun z => PyData.eqv z (pD u v)) = decide ((u1 = u ∧ v1 = v) ∨ (u2 = u ∧ v2 = v)) := by
  simp only [List.any_cons, List.any_nil, Bool.or_false, pD_eqv]
  by_cases h1 : u1 = u ∧ v1 = v <;> by_cases h2 : u2 = u ∧ v2 = v <;> simp [h1, h2]
section
variable {X : Cx}
theorem op_inP (hu : X.A.units + 64 < cLine) : OpR X (compareOp .In) rInP := by
  intro pins s σ H x y v u Q I rx ry h
  obtain ⟨a, b, p, q, u', v', u1, v1, u2, v2, rfl, rfl, ha, hb, hp, hq, k⟩ := h
  obtain ⟨as, r1⟩ := Dp.reads I (pD u' v') (.ref a) v ha.dp rx
  obtain ⟨bs, r2⟩ := Dp.reads I (.tuple [pD u1 v1, pD u2 v2]) (.ref b) u (.tup (SqT.of hb) (.cons hp.dp (.cons hq.dp .nil))) ry
  refine SeqAt.in_tuple_data r2 r1 (by simp [PyData.plainAll, pD, PyData.plain]) (by simp [PyData.plainAll, pD, PyData.plain]) ?_ ⟨.bl _, H, I, rfl, ?_⟩
  · have : PyData.depth (pD u' v') ≤ 60 := by simp [pD, PyData.depth, PyData.depthAll]
    have := Nat.min_le_right (PyData.depthAll [pD u1 v1, pD u2 v2]) (PyData.depth (pD u' v'))
    omega
  · rw [pD_any]; exact k
theorem op_notInP (hu : X.A.units + 64 < cLine) : OpR X (compareOp .NotIn) rNotInP := by
  intro pins s σ H x y v u Q I rx ry h
  obtain ⟨a, b, p, q, u', v', u1, v1, u2, v2, rfl, rfl, ha, hb, hp, hq, k⟩ := h
  obtain ⟨as, r1⟩ := Dp.reads I (pD u' v') (.ref a) v ha.dp rx
  obtain ⟨bs, r2⟩ := Dp.reads I (.tuple [pD u1 v1, pD u2 v2]) (.ref b) u (.tup (SqT.of hb) (.cons hp.dp (.cons hq.dp .nil))) ry
  refine SeqAt.notIn_tuple_data r2 r1 (by simp [PyData.plainAll, pD, PyData.plain]) (by simp [PyData.plainAll, pD, PyData.plain]) ?_ ⟨.bl _, H, I, rfl, ?_⟩
  · have : PyData.depth (pD u' v') ≤ 60 := by simp [pD, PyData.depth, PyData.depthAll]
    have := Nat.min_le_right (PyData.depthAll [pD u1 v1, pD u2 v2]) (PyData.depth (pD u' v'))
    omega
  · rw [pD_any]; exact k
end
end Wr
-- WrNames
/-! names; posts that are there -/
namespace Wr
open PySem L2
theorem Keep.same {x : Addr} {H H' : Hp} (k : Keep x H H') (n : H x = none) : Same H H' := fun b o e => k b o (ne_of_none e n) e
theorem flat_strs : ∀ xs : List Str, (xs.map V.str).all flatV = true
  | [] => rfl
  | x :: xs => by rw [List.map_cons, List.all_cons, flat_strs xs]; rfl
theorem inV_str (x : Str) (xs : List Str) : inV (.str x) (xs.map V.str) = decide (x ∈ xs) := by
  induction xs with
  | nil => rfl
  | cons y ys ih =>
    show (eqV (.str y) (.str x) || inV (.str x) (ys.map V.str)) = _
    rw [ih]
    show ((y == x) || _) = _
    by_cases h : y = x
    · rw [h]; simp
    · have e : (y == x) = false := by simpa using h
      have h2 : ¬ x = y := fun z => h z.symm
      rw [e]
      simp [h2]
abbrev letters : Str := "abcdefghijklmnopqrstuvwxyz"
abbrev digits : Str := "0123456789"
/-- a name that the program takes -/
structure NameOk (x : Str) : Prop where
  pos : 0 < x.cps.size
  le : x.cps.size ≤ 6
  first : ∀ (c : Nat), x.cps[0]? = some c → c ∈ letters.cps.toList
  all : ∀ (i c : Nat), x.cps[i]? = some c → c ∈ letters.cps.toList ∨ c ∈ digits.cps.toList
section
variable {P : Program} {w : World} {K : PySem.W.Frag} {mg : Str → Option Value} {base : Heap} {f : Addr} {fd : FuncData}
abbrev sIsName : Stmt := top 32
theorem scIsName : FnScope ["text", "sign"] ["text"] (defScope sIsName) := ⟨rfl, rfl, rfl, by decide +kernel, rfl, by decide +kernel, by decide +kernel⟩
def spIsName : Sp := fun vs H Q _ => ∃ x : Str, vs = [.str x] ∧ NameOk x ∧ ∀ H', Same H H' → Q (.bl true) H'
theorem ok_is_name {t1 t2 t3 : Tok} (hb : ∀ x ∈ blts, mg x = none) (gL : mg "LETTERS" = some (.str letters t1)) (gD : mg "DIGITS" = some (.str digits t2)) (gN : mg "LONGEST" = some (.int 6 t3)) (F : L2.Fun K "is_name" "is_name" sIsName f fd) : FnOk P w K mg base CX0 1 f fd ["text"] spIsName := by
  refine F.ok scIsName (fun vs H Q E h => ?_) (fun cdv A outer s H vs Q E hr h => ?_)
  · obtain ⟨x, rfl, _⟩ := h
    rfl
  · obtain ⟨x, rfl, ok, k⟩ := h
    refine ⟨_, pss_cons (ps_if (PW.pt (pw_or (pt_not (pt_chain op_lt op_le pe_int (pe_callB call_len_str rfl (hb _ (by decide)) (by first | rfl | kernel_rfl) (pa_cons (pv 0) pa_nil)) (pe_glob (v := .int 6) rfl gN ⟨_, rfl⟩)))
        (pw_or1 (pt_cmpR op_notIn_sign (pe_ix ix_str (pv 0) pe_int (fun _ _ => rfl)) (pe_glob (v := .str letters) rfl gL ⟨_, rfl⟩) rfl)))) pss_never pss_nil)
      (pss_one (ps_ret (pe_callB (cr_all rfl) rfl (hb _ (by decide)) (by first | rfl | kernel_rfl) (pa_cons
        (pe_lc (own := [("sign", 1)]) (g := gName 1) (tt := tYes) rfl scIsName.nd (pi_str (pv 0)) (blkOk_by (N := ["text", "sign"]) (sc := defScope sIsName) (by decide +kernel)) (fun _ _ _ _ _ => pg_name (i := 1) scIsName.nd rfl (Or.inl rfl)) (fun _ _ _ _ _ => pts_nil)
          (fun _ _ _ _ _ => pe_or (pe_cmpR op_in_sign (pv 1) (pe_glob (v := .str letters) rfl gL ⟨_, rfl⟩) rfl) (pe_one (pe_cmpR op_in_sign (pv 1) (pe_glob (v := .str digits) rfl gD ⟨_, rfl⟩) rfl)))) pa_nil)))), ?_⟩
    obtain ⟨c0, h0⟩ : ∃ c0, x.cps[0]? = some c0 := ⟨x.cps[0]'ok.pos, Array.getElem?_eq_getElem ok.pos⟩
    have lx : x.length ≤ sizeLine := by rw [sizeLine_eq]; exact Nat.le_trans ok.le (by decide)
    refine ⟨_, rfl, x, rfl, lx, _, _, rfl, rfl, _, rfl, ?_⟩
    rw [decide_eq_true (by have := ok.pos; show (0 : Int) < ((x.cps.size : Nat) : Int); omega)]
    refine iteT ⟨_, _, rfl, rfl, _, rfl, ?_⟩
    rw [decide_eq_true (by have := ok.le; show ((x.cps.size : Nat) : Int) ≤ 6; omega)]
    refine iteF ⟨_, rfl, x, _, c0, rfl, rfl, lx, ?_, c0, letters, rfl, rfl, _, rfl, ?_⟩
    · exact atI_nat (j := 0) (by rw [Array.getElem?_toList]; exact h0)
    rw [decide_eq_true (ok.first c0 h0)]
    refine iteF ⟨_, rfl, x, rfl, fun D hD => ?_⟩
    refine lc_it walk_str (fun i H' => H' D = some (.lst ((List.replicate i true).map V.bl)) ∧ Keep D H H') ⟨upd_same, Keep.fresh hD⟩ (fun _ _ _ _ => trivial) (fun i v H1 H2 hi ⟨h1, kp⟩ hv => ?_) fun H' ⟨h1, kp⟩ => ?_
    · obtain ⟨rfl, ch, hch, rfl⟩ := hv
      have fin : ∃ acc, H2 D = some (HO.lst acc) ∧ acc.length < sizeLine ∧ (upd H2 D (.lst (acc ++ [V.bl true]))) D = some (.lst ((List.replicate (i + 1) true).map V.bl)) ∧ Keep D H (upd H2 D (.lst (acc ++ [V.bl true]))) := by
        refine ⟨_, h1, ?_, ?_, kp.trans Keep.put⟩
        · rw [List.length_map, List.length_replicate, sizeLine_eq]
          have := ok.le
          omega
        · rw [upd_same, List.replicate_succ', List.map_append]; rfl
      refine ⟨rfl, ?_⟩
      rw [tYes_if]
      refine ⟨_, rfl, ch, letters, rfl, rfl, _, rfl, ?_⟩
      by_cases hc : ch ∈ letters.cps.toList
      · rw [decide_eq_true hc]
        exact iteT fin
      · rw [decide_eq_false hc]
        refine iteF ⟨_, rfl, ch, digits, rfl, rfl, ?_⟩
        rw [decide_eq_true ((ok.all i ch hch).resolve_left hc)]
        exact fin
    · refine ⟨D, _, rfl, SqL.of h1, ?_⟩
      have e : (List.replicate x.cps.size true).all id = true := by simp
      rw [e]
      exact k _ (kp.same hD)
end
/-- a tuple of texts -/
def TextsAt (H : Hp) (a : Addr) (xs : List Str) : Prop := H a = some (.tup (xs.map V.str))
section
variable {P : Program} {w : World} {K : PySem.W.Frag} {mg : Str → Option Value} {base : Heap} {f : Addr} {fd : FuncData}
abbrev sNeedPosts : Stmt := top 15
theorem scNeedPosts : FnScope ["posts", "names", "name"] ["posts", "names"] (defScope sNeedPosts) := ⟨rfl, rfl, rfl, by decide +kernel, rfl, by decide +kernel, by decide +kernel⟩
def spNeedPosts : Sp := fun vs H Q _ => ∃ (a b : Addr) (ps ns : List Str), vs = [.ref a, .ref b] ∧ TextsAt H a ps ∧ TextsAt H b ns ∧ (∀ n ∈ ns, n ∈ ps) ∧ Q .non H
theorem ok_need_posts (F : L2.Fun K "need_posts" "need_posts" sNeedPosts f fd) : FnOk P w K mg base CX0 1 f fd ["posts", "names"] spNeedPosts := by
  refine F.ok scNeedPosts (fun vs H Q E h => ?_) (fun cdv A outer s H vs Q E hr h => ?_)
  · obtain ⟨a, b, ps, ns, rfl, _⟩ := h
    rfl
  · obtain ⟨a, b, ps, ns, rfl, ha, hb', hin, k⟩ := h
    refine ⟨_, pss_one (ps_for PassesOwn.never rfl (pi_tup (pv 1)) (pg_name (i := 2) scNeedPosts.nd rfl (Or.inl rfl)) (pss_one (ps_if (pt_cmpR op_notIn_seq (pv 2) (pv 0) rfl) pss_never pss_nil))), ?_⟩
    refine ⟨_, rfl, b, rfl, ⟨_, SqT.of hb'⟩, for_tup (xs := ns.map V.str) (fun i σ H' => H' = H ∧ ∃ v, σ = [some (.ref a), some (.ref b), v]) ⟨rfl, none, rfl⟩ (fun i σ H' _ ⟨e, _⟩ => by rw [e]; exact SqT.of hb') (fun i v σ H' hv ⟨e, u, es⟩ => ?_) fun σ H' ⟨e, _⟩ => by rw [e]; exact k⟩
    subst e es
    obtain ⟨n, hn, rfl⟩ : ∃ n, ns[i]? = some n ∧ v = V.str n := by
      rw [List.getElem?_map] at hv
      cases e : ns[i]? with
      | none => rw [e] at hv; cases hv
      | some n => rw [e] at hv; exact ⟨n, rfl, (Option.some.inj hv).symm⟩
    refine ⟨_, rfl, _, rfl, a, _, rfl, .inr (SqT.of ha), rfl, flat_strs ps, _, rfl, ?_⟩
    rw [inV_str, decide_eq_true (hin n (List.mem_of_getElem? hn))]
    exact iteF ⟨rfl, _, rfl⟩
abbrev sNeedPair : Stmt := top 16
theorem scNeedPair : FnScope ["posts", "one", "other"] ["posts", "one", "other"] (defScope sNeedPair) := ⟨rfl, rfl, rfl, by decide +kernel, rfl, by decide +kernel, by decide +kernel⟩
def spNeedPair : Sp := fun vs H Q _ => ∃ (a : Addr) (ps : List Str) (x y : Str), vs = [.ref a, .str x, .str y] ∧ TextsAt H a ps ∧ x ∈ ps ∧ y ∈ ps ∧ x ≠ y ∧ ∀ H', Same H H' → Q .non H'
theorem ok_need_pair (D : Dv P w K mg base CX0 1 "need_posts" ["posts", "names"] spNeedPosts) (F : L2.Fun K "need_pair" "need_pair" sNeedPair f fd) : FnOk P w K mg base CX0 2 f fd ["posts", "one", "other"] spNeedPair := by
  refine F.ok scNeedPair (fun vs H Q E h => ?_) (fun cdv A outer s H vs Q E hr h => ?_)
  · obtain ⟨a, ps, x, y, rfl, _⟩ := h
    rfl
  · obtain ⟨a, ps, x, y, rfl, ha, hx, hy, hne, k⟩ := h
    refine ⟨_, pss_cons (ps_expr (pe_dv D hr pass0 (pa_cons (pv 0) (pa_cons (pe_tup (pa_cons (pv 1) (pa_cons (pv 2) pa_nil))) pa_nil)))) (pss_one (ps_if (pt_cmpR op_eq (pv 1) (pv 2) (nomark _)) pss_never pss_nil)), ?_⟩
    refine ⟨_, rfl, _, rfl, _, rfl, two_le, fun q hq => ?_⟩
    have g : Same H (upd H q (.tup [.str x, .str y])) := same_new hq
    refine ⟨a, q, ps, [x, y], rfl, g _ _ ha, upd_same, fun n hn => ?_, ?_⟩
    · rcases List.mem_cons.mp hn with rfl | hn
      · exact hx
      · rw [List.mem_singleton.mp hn]; exact hy
    refine ⟨_, rfl, _, rfl, rfl, _, rfl, ?_⟩
    rw [decide_eq_false (fun z => hne (by injection z))]
    exact iteF (k _ g)
end
end Wr
-- WrWeb
/-! webs: their making, by what a good web is -/
namespace Wr
open PySem L2
/-- a comprehension that gives True at each turn -/
theorem lc_trues {J : It} {n : Nat} {G : Hp → Prop} {xs : List V} (wk : Walk J n G (YAt xs)) {g : TG} {tt : TT} {te : TE} {vs : List Nat} {σ : L2.St} {H1 : Hp} {D : Addr} {Qd : Hp → Prop} (hn : n ≤ 1000) (hD : H1 D = none) (hG : ∀ H', Same H1 H' → G H')
    (hs : ∀ (i : Nat) (x : V) (H' : Hp) (Q' : VK), xs[i]? = some x → Same H1 H' → (∀ H'', Same H' H'' → Q' (.bl true) H'') → g x (wipe σ vs) H' fun σ2 H2 => wipe σ2 vs = wipe σ vs ∧ tt σ2 H2 fun b H3 => b = true ∧ te σ2 H3 Q')
    (mono : ∀ x σ0 H0 (k k' : L2.St → Hp → Prop), (∀ a b, k a b → k' a b) → g x σ0 H0 k → g x σ0 H0 k') (mono2 : ∀ σ0 H0 (k k' : Bool → Hp → Prop), (∀ a b, k a b → k' a b) → tt σ0 H0 k → tt σ0 H0 k')
    (hd : ∀ H', Same H1 H' → H' D = some (.lst ((List.replicate n true).map V.bl)) → Qd H') :
    ∃ W : Nat → Nat → Hp → Prop, (∃ m, W 0 m (upd H1 D (.lst []))) ∧ ∀ i m H, W i m H →
      (J.stop i H ∧ Qd H) ∨ (J.go i H ∧ ∃ Nx : Hp → Prop, (∀ H', Nx H' → ∃ m', m' < m ∧ W (i + 1) m' H') ∧ ∀ x H', J.yld i H x H' → g x (wipe σ vs) H' fun σ2 H2 => wipe σ2 vs = wipe σ vs ∧ tt σ2 H2 fun b H3 =>
        if b = true then te σ2 H3 fun y H4 => ∃ acc, H4 D = some (.lst acc) ∧ acc.length < sizeLine ∧ Nx (upd H4 D (.lst (acc ++ [y]))) else Nx H3) := by
  refine lc_it wk (fun i H' => Keep D H1 H' ∧ H' D = some (.lst ((List.replicate i true).map V.bl))) ⟨Keep.fresh hD, upd_same⟩ (fun i H' _ ⟨kp, _⟩ => hG H' (kp.same hD)) (fun i x H' H'' hi ⟨kp, h1⟩ hy => ?_) fun H' ⟨kp, h1⟩ => hd H' (kp.same hD) h1
  obtain ⟨e, hx⟩ := hy
  subst e
  have h := hs i x _ (fun y H4 => ∃ acc, H4 D = some (.lst acc) ∧ acc.length < sizeLine ∧ Keep D H1 (upd H4 D (.lst (acc ++ [y]))) ∧ (upd H4 D (.lst (acc ++ [y]))) D = some (.lst ((List.replicate (i + 1) true).map V.bl))) hx (kp.same hD) fun H3 g => by
    refine ⟨_, g _ _ h1, ?_, (kp.trans (Keep.of_same g)).trans Keep.put, ?_⟩
    · rw [List.length_map, List.length_replicate, sizeLine_eq]; omega
    · rw [upd_same, List.replicate_succ', List.map_append]; rfl
  refine mono _ _ _ _ _ ?_ h
  rintro σ2 H2 ⟨q1, q2⟩
  refine ⟨q1, mono2 _ _ _ _ ?_ q2⟩
  rintro b H3 ⟨q3, q4⟩
  rw [if_pos q3]; exact q4
theorem all_rep (n : Nat) : (List.replicate n true).all id = true := by simp
theorem gName_mono {i : Nat} : ∀ x σ0 H0 (k k' : L2.St → Hp → Prop), (∀ a b, k a b → k' a b) → gName i x σ0 H0 k → gName i x σ0 H0 k' := fun x σ0 H0 k k' h q => h _ _ q
theorem tYes_mono : ∀ σ0 H0 (k k' : Bool → Hp → Prop), (∀ a b, k a b → k' a b) → tYes σ0 H0 k → tYes σ0 H0 k' := fun σ0 H0 k k' h q => h _ _ q
theorem cut_take {xs : List V} {i : Nat} (h : i ≤ xs.length) : cutV xs none (some (i : Int)) = xs.take i := by
  unfold cutV
  rw [HT.sIx_none, HT.sIx_nat]
  show List.take (min i xs.length - 0) (List.drop 0 xs) = _
  rw [List.drop_zero, Nat.sub_zero, Nat.min_eq_left h]
theorem cut_part {xs : List V} {i : Nat} (h : i < xs.length) : ¬ (HT.sIx xs.length 0 none = 0 ∧ HT.sIx xs.length xs.length (some (i : Int)) = xs.length) := by
  rw [HT.sIx_nat]
  omega
theorem nodup_get {α : Type} {l : List α} (h : l.Nodup) {i j : Nat} (hi : i < l.length) (hj : j < l.length) (e : l[i] = l[j]) : i = j := by
  have p := List.pairwise_iff_getElem.mp h
  rcases Nat.lt_trichotomy i j with z | z | z
  · exact absurd e (p i j hi hj z)
  · exact z
  · exact absurd e.symm (p j i hj hi z)
/-- a tie as the program keeps it -/
structure T5 where
  x : Str
  one : Str
  other : Str
  lo : Int
  hi : Int
def T5.vs (r : T5) : List V := [.str r.x, .str r.one, .str r.other, .int r.lo, .int r.hi]
def TieAt (H : Hp) (a : Addr) (r : T5) : Prop := H a = some (.tup r.vs)
def TiesAt (H : Hp) (t : Addr) (rows : List T5) : Prop := ∃ as : List Addr, H t = some (.tup (as.map V.ref)) ∧ Paired (fun a r => TieAt H a r) as rows
theorem TiesAt.same {H H' : Hp} (k : Same H H') {t : Addr} {rows : List T5} : TiesAt H t rows → TiesAt H' t rows := fun ⟨as, h, p⟩ => ⟨as, k _ _ h, Paired.mapP p fun _ _ z => k _ _ z⟩
/-- a web that the program takes -/
structure WebOk (ps : List Str) (rows : List T5) : Prop where
  ne : ps ≠ []
  few : ps.length ≤ 1000
  fewT : rows.length ≤ 1000
  nd : ps.Nodup
  names : ∀ p ∈ ps, NameOk p
  tnd : (rows.map T5.x).Nodup
  tnames : ∀ r ∈ rows, NameOk r.x
  ends : ∀ r ∈ rows, r.one ∈ ps ∧ r.other ∈ ps ∧ r.one ≠ r.other
  spans : ∀ r ∈ rows, 0 ≤ r.lo ∧ r.lo ≤ r.hi
theorem map_get {α : Type} {f : α → V} {xs : List α} {i : Nat} {v : V} (h : (xs.map f)[i]? = some v) : ∃ x, xs[i]? = some x ∧ v = f x := by
  rw [List.getElem?_map] at h
  cases e : xs[i]? with
  | none => rw [e] at h; cases h
  | some n => rw [e] at h; exact ⟨n, rfl, (Option.some.inj h).symm⟩
section
variable {P : Program} {w : World} {K : PySem.W.Frag} {mg : Str → Option Value} {base : Heap} {f : Addr} {fd : FuncData}
abbrev sIsTie : Stmt := top 42
theorem scIsTie : FnScope ["value", "word", "number"] ["value"] (defScope sIsTie) := ⟨rfl, rfl, rfl, by decide +kernel, rfl, by decide +kernel, by decide +kernel⟩
def spIsTie : Sp := fun vs H Q _ => ∃ (a : Addr) (r : T5), vs = [.ref a] ∧ TieAt H a r ∧ ∀ H', Same H H' → Q (.bl true) H'
theorem ok_is_tie (hb : ∀ x ∈ blts, mg x = none) (W : Dv P w K mg base CX0 1 "is_whole" ["value"] spIsWhole) (F : L2.Fun K "is_tie" "is_tie" sIsTie f fd) : FnOk P w K mg base CX0 2 f fd ["value"] spIsTie := by
  refine F.ok scIsTie (fun vs H Q E h => ?_) (fun cdv A outer s H vs Q E hr h => ?_)
  · obtain ⟨a, r, rfl, _⟩ := h
    rfl
  · obtain ⟨a, r, rfl, ha, k⟩ := h
    refine ⟨_, pss_cons (ps_if (PW.pt (pw_or (pt_not (pt_val (pe_callB call_isi rfl (hb _ (by decide)) (by first | rfl | kernel_rfl) (pa_cons (pv 0) (pa_cons (pe_bltn (v := .ty "tuple") rfl (hb _ (by decide)) (by first | rfl | kernel_rfl) rfl) pa_nil)))))
        (pw_or1 (pt_cmpR op_ne (pe_callB call_len rfl (hb _ (by decide)) (by first | rfl | kernel_rfl) (pa_cons (pv 0) pa_nil)) pe_int (nomark _))))) pss_never pss_nil)
      (pss_one (ps_ret (pe_and
        (pe_callB (cr_all rfl) rfl (hb _ (by decide)) (by first | rfl | kernel_rfl) (pa_cons
          (pe_lc (own := [("word", 1)]) (g := gName 1) (tt := tYes) rfl scIsTie.nd (pi_tup (pe_slice sl_tup (pv 0) po_none (po_some pe_int))) (blkOk_by (N := ["value", "word", "number"]) (sc := defScope sIsTie) (by decide +kernel)) (fun _ _ _ _ _ => pg_name (i := 1) scIsTie.nd rfl (Or.inl rfl)) (fun _ _ _ _ _ => pts_nil)
            (fun _ _ _ _ _ => pe_callB (show CallR _ _ (rIsi K) from call_isi) rfl (hb _ (by decide)) (by first | rfl | kernel_rfl) (pa_cons (pv 1) (pa_cons (pe_bltn (v := .ty "str") rfl (hb _ (by decide)) (by first | rfl | kernel_rfl) rfl) pa_nil)))) pa_nil))
        (pe_one (pe_callB (cr_all rfl) rfl (hb _ (by decide)) (by first | rfl | kernel_rfl) (pa_cons
          (pe_lc (own := [("number", 2)]) (g := gName 2) (tt := tYes) rfl scIsTie.nd (pi_tup (pe_slice sl_tup (pv 0) (po_some pe_int) po_none)) (blkOk_by (N := ["value", "word", "number"]) (sc := defScope sIsTie) (by decide +kernel)) (fun _ _ _ _ _ => pg_name (i := 2) scIsTie.nd rfl (Or.inl rfl)) (fun _ _ _ _ _ => pts_nil)
            (fun _ _ _ _ _ => pe_dv W hr pass0 (pa_cons (pv 2) pa_nil))) pa_nil)))))), ?_⟩
    refine ⟨_, rfl, .ref a, .ty "tuple", .type "tuple", .type "tuple", true, rfl, .ty _, .base (.tup ha), kit_ty (by first | rfl | decide +kernel), true, rfl, ?_⟩
    refine iteF ⟨_, rfl, .ref a, 5, rfl, .inr ⟨_, SqT.of ha, rfl⟩, rfl, _, rfl, ?_⟩
    refine iteF ⟨_, rfl, _, rfl, a, _, rfl, SqT.of ha, (show ¬ (HT.sIx 5 0 none = 0 ∧ HT.sIx 5 5 (some 3) = 5) by decide), fun p hp => ⟨p, rfl, ⟨_, SqT.of upd_same⟩, fun D hD => ?_⟩⟩
    have gp : Same H (upd H p (.tup (cutV r.vs none (some 3)))) := same_new hp
    refine lc_trues (walk_tup (xs := [.str r.x, .str r.one, .str r.other])) (show 3 ≤ 1000 by decide) hD (fun H' g => SqT.of (g _ _ upd_same)) (fun i x H' Q' hx g q => ?_) gName_mono tYes_mono fun H' g h1 => ?_
    · obtain ⟨z, rfl⟩ : ∃ z, x = V.str z := by
        have hm := List.mem_of_getElem? hx
        simp only [List.mem_cons, List.not_mem_nil, or_false] at hm
        rcases hm with rfl | rfl | rfl <;> exact ⟨_, rfl⟩
      exact ⟨rfl, rfl, _, rfl, .str z, .ty "str", .type "str", .type "str", true, rfl, .ty _, .base (.str z), kit_ty (by first | rfl | decide +kernel), q _ (Same.refl _)⟩
    refine ⟨D, _, rfl, SqL.of h1, ?_⟩
    rw [all_rep]
    refine ⟨_, rfl, iteT ⟨_, rfl, _, rfl, a, _, rfl, SqT.of (g _ _ (gp _ _ ha)), (show ¬ (HT.sIx 5 0 (some 3) = 0 ∧ HT.sIx 5 5 none = 5) by decide), fun p2 hp2 => ⟨p2, rfl, ⟨_, SqT.of upd_same⟩, fun D2 hD2 => ?_⟩⟩⟩
    have gp2 : Same H' (upd H' p2 (.tup (cutV r.vs (some 3) none))) := same_new hp2
    refine lc_trues (te := fun σ H Q => tCons (tVar 2) tNil σ H fun vs H1 => spIsWhole vs H1 Q E0) (walk_tup (xs := [.int r.lo, .int r.hi])) (show 2 ≤ 1000 by decide) hD2 (fun H' g => SqT.of (g _ _ upd_same)) (fun i x H' Q' hx g q => ?_) gName_mono tYes_mono fun H2 g2 h2 => ?_
    · obtain ⟨z, rfl⟩ : ∃ z, x = V.int z := by
        have hm := List.mem_of_getElem? hx
        simp only [List.mem_cons, List.not_mem_nil, or_false] at hm
        rcases hm with rfl | rfl <;> exact ⟨_, rfl⟩
      exact ⟨rfl, rfl, _, rfl, z, rfl, q _ (Same.refl _)⟩
    refine ⟨D2, _, rfl, SqL.of h2, ?_⟩
    rw [all_rep]
    exact k _ (gp.trans (g.trans (gp2.trans g2)))
abbrev sHasForm : Stmt := top 43
theorem scHasForm : FnScope ["posts", "ties", "post", "tie"] ["posts", "ties"] (defScope sHasForm) := ⟨rfl, rfl, rfl, by decide +kernel, rfl, by decide +kernel, by decide +kernel⟩
def spHasForm : Sp := fun vs H Q _ => ∃ (a b : Addr) (ps : List Str) (rows : List T5), vs = [.ref a, .ref b] ∧ TextsAt H a ps ∧ TiesAt H b rows ∧ ps.length ≤ 1000 ∧ rows.length ≤ 1000 ∧ ∀ H', Same H H' → Q (.bl true) H'
theorem ok_has_form (hb : ∀ x ∈ blts, mg x = none) (T : Dv P w K mg base CX0 2 "is_tie" ["value"] spIsTie) (F : L2.Fun K "has_form" "has_form" sHasForm f fd) : FnOk P w K mg base CX0 3 f fd ["posts", "ties"] spHasForm := by
  refine F.ok scHasForm (fun vs H Q E h => ?_) (fun cdv A outer s H vs Q E hr h => ?_)
  · obtain ⟨a, b, ps, rows, rfl, _⟩ := h
    rfl
  · obtain ⟨a, b, ps, rows, rfl, ha, ⟨as, hb', rw'⟩, l1, l2, k⟩ := h
    refine ⟨_, pss_cons (ps_if (PW.pt (pw_or (pt_not (pt_val (pe_callB call_isi rfl (hb _ (by decide)) (by first | rfl | kernel_rfl) (pa_cons (pv 0) (pa_cons (pe_bltn (v := .ty "tuple") rfl (hb _ (by decide)) (by first | rfl | kernel_rfl) rfl) pa_nil)))))
        (pw_or1 (pt_not (pt_val (pe_callB call_isi rfl (hb _ (by decide)) (by first | rfl | kernel_rfl) (pa_cons (pv 1) (pa_cons (pe_bltn (v := .ty "tuple") rfl (hb _ (by decide)) (by first | rfl | kernel_rfl) rfl) pa_nil)))))))) pss_never pss_nil)
      (pss_one (ps_ret (pe_and
        (pe_callB (cr_all rfl) rfl (hb _ (by decide)) (by first | rfl | kernel_rfl) (pa_cons
          (pe_lc (own := [("post", 2)]) (g := gName 2) (tt := tYes) rfl scHasForm.nd (pi_tup (pv 0)) (blkOk_by (N := ["posts", "ties", "post", "tie"]) (sc := defScope sHasForm) (by decide +kernel)) (fun _ _ _ _ _ => pg_name (i := 2) scHasForm.nd rfl (Or.inl rfl)) (fun _ _ _ _ _ => pts_nil)
            (fun _ _ _ _ _ => pe_callB (show CallR _ _ (rIsi K) from call_isi) rfl (hb _ (by decide)) (by first | rfl | kernel_rfl) (pa_cons (pv 2) (pa_cons (pe_bltn (v := .ty "str") rfl (hb _ (by decide)) (by first | rfl | kernel_rfl) rfl) pa_nil)))) pa_nil))
        (pe_one (pe_callB (cr_all rfl) rfl (hb _ (by decide)) (by first | rfl | kernel_rfl) (pa_cons
          (pe_lc (own := [("tie", 3)]) (g := gName 3) (tt := tYes) rfl scHasForm.nd (pi_tup (pv 1)) (blkOk_by (N := ["posts", "ties", "post", "tie"]) (sc := defScope sHasForm) (by decide +kernel)) (fun _ _ _ _ _ => pg_name (i := 3) scHasForm.nd rfl (Or.inl rfl)) (fun _ _ _ _ _ => pts_nil)
            (fun _ _ _ _ _ => pe_dv T hr pass0 (pa_cons (pv 3) pa_nil))) pa_nil)))))), ?_⟩
    refine ⟨_, rfl, .ref a, .ty "tuple", .type "tuple", .type "tuple", true, rfl, .ty _, .base (.tup ha), kit_ty (by first | rfl | decide +kernel), true, rfl, ?_⟩
    refine iteF ⟨_, rfl, .ref b, .ty "tuple", .type "tuple", .type "tuple", true, rfl, .ty _, .base (.tup hb'), kit_ty (by first | rfl | decide +kernel), true, rfl, ?_⟩
    refine iteF ⟨_, rfl, a, rfl, ⟨_, SqT.of (show H a = _ from ha)⟩, fun D hD => ?_⟩
    refine lc_trues (walk_tup (xs := ps.map V.str)) (by rw [List.length_map]; exact l1) hD (fun H' g => SqT.of (g _ _ ha)) (fun i x H' Q' hx g q => ?_) gName_mono tYes_mono fun H' g h1 => ?_
    · obtain ⟨z, _, rfl⟩ := map_get hx
      exact ⟨rfl, rfl, _, rfl, .str z, .ty "str", .type "str", .type "str", true, rfl, .ty _, .base (.str z), kit_ty (by first | rfl | decide +kernel), q _ (Same.refl _)⟩
    refine ⟨D, _, rfl, SqL.of h1, ?_⟩
    rw [all_rep]
    refine ⟨_, rfl, iteT ⟨_, rfl, b, rfl, ⟨_, SqT.of (g _ _ hb')⟩, fun D2 hD2 => ?_⟩⟩
    refine lc_trues (te := fun σ H Q => tCons (tVar 3) tNil σ H fun vs H1 => spIsTie vs H1 Q E0) (walk_tup (xs := as.map V.ref)) (by rw [List.length_map, Paired.length rw']; exact l2) hD2 (fun H2 g2 => SqT.of (g2 _ _ (g _ _ hb'))) (fun i x H2 Q' hx g2 q => ?_) gName_mono tYes_mono fun H2 g2 h2 => ?_
    · obtain ⟨y, hy, rfl⟩ := map_get hx
      obtain ⟨r, hr1, hr2⟩ := paired_get rw' hy
      exact ⟨rfl, rfl, _, rfl, y, r, rfl, g2 _ _ (g _ _ hr2), q⟩
    refine ⟨D2, _, rfl, SqL.of h2, ?_⟩
    rw [all_rep]
    exact k _ (g.trans g2)

abbrev sCheckNames : Stmt := top 44
theorem scCheckNames : FnScope ["names", "reason", "index", "name"] ["names", "reason"] (defScope sCheckNames) := ⟨rfl, rfl, rfl, by decide +kernel, rfl, by decide +kernel, by decide +kernel⟩
def spCheckNames : Sp := fun vs H Q _ => ∃ (a : Addr) (ps : List Str) (x : Str), vs = [.ref a, .str x] ∧ TextsAt H a ps ∧ ps.Nodup ∧ (∀ p ∈ ps, NameOk p) ∧ ps.length ≤ 1000 ∧ ∀ H', Same H H' → Q .non H'
theorem ok_check_names (hb : ∀ x ∈ blts, mg x = none) (N : Dv P w K mg base CX0 1 "is_name" ["text"] spIsName) (F : L2.Fun K "check_names" "check_names" sCheckNames f fd) : FnOk P w K mg base CX0 2 f fd ["names", "reason"] spCheckNames := by
  refine F.ok scCheckNames (fun vs H Q E h => ?_) (fun cdv A outer s H vs Q E hr h => ?_)
  · obtain ⟨a, ps, x, rfl, _⟩ := h
    rfl
  · obtain ⟨a, ps, x, rfl, ha, nd, ok, l1, k⟩ := h
    refine ⟨_, pss_one (ps_for PassesOwn.never rfl (pi_enumT rfl (hb _ (by decide)) (pa_cons (pv 0) pa_nil)) (pg_tup rfl (pgs_cons (pg_name (i := 2) scCheckNames.nd rfl (Or.inl rfl)) (pgs_cons (pg_name (i := 3) scCheckNames.nd rfl (Or.inl rfl)) pgs_nil)))
      (pss_one (ps_if (PW.pt (pw_or (pt_not (pt_val (pe_dv N hr pass0 (pa_cons (pv 3) pa_nil)))) (pw_or1 (pt_cmpR op_in_seq (pv 3) (pe_slice sl_tup (pv 0) po_none (po_some (pv 2))) rfl)))) pss_never pss_nil))), ?_⟩
    refine ⟨_, rfl, a, _, rfl, SqT.of (show H a = _ from ha), for_it (walk_enumT (xs := ps.map V.str)) (fun i σ H' => Same H H' ∧ ∃ u v, σ = [some (.ref a), some (.str x), u, v]) ⟨Same.refl _, none, none, rfl⟩ (fun i σ H' _ ⟨g, _⟩ => SqT.of (g _ _ ha)) (fun i v σ H1 H2 hi ⟨g, u1, u2, es⟩ hy => ?_) fun σ H' ⟨g, _⟩ => k _ g⟩
    subst es
    obtain ⟨T, x1, x2, rfl, hT, rfl, e1, e2⟩ := hy
    cases e1
    obtain ⟨n, hn, rfl⟩ := map_get e2
    have g1 : Same H1 (upd H1 T (.tup [.int (i : Nat), .str n])) := same_new hT
    have hi' : i < ps.length := by rw [List.length_map] at hi; exact hi
    refine ⟨T, _, rfl, SqT.of upd_same, rfl, _, _, rfl, _, _, rfl, rfl, ?_⟩
    refine ⟨_, rfl, n, rfl, ok n (List.mem_of_getElem? hn), fun H3 g3 => ⟨true, rfl, ?_⟩⟩
    refine iteF ⟨_, rfl, _, rfl, _, rfl, _, rfl, a, _, rfl, SqT.of (g3 _ _ (g1 _ _ (g _ _ ha))), cut_part (xs := ps.map V.str) (by rw [List.length_map]; exact hi'), fun p hp => ?_⟩
    have ec : cutV (ps.map V.str) none (some (i : Int)) = (ps.take i).map V.str := by rw [cut_take (by rw [List.length_map]; omega), List.map_take]
    rw [ec]
    have g4 : Same H3 (upd H3 p (.tup ((ps.take i).map V.str))) := same_new hp
    refine ⟨p, _, rfl, .inr (SqT.of upd_same), rfl, flat_strs _, _, rfl, ?_⟩
    rw [inV_str, decide_eq_false (fun hm => ?_)]
    · exact iteF ⟨g.trans (g1.trans (g3.trans g4)), _, _, rfl⟩
    · obtain ⟨j, hj, e⟩ := List.getElem_of_mem hm
      rw [List.length_take] at hj
      rw [List.getElem_take] at e
      have e2 : ps[i] = n := by rw [List.getElem?_eq_getElem hi'] at hn; exact Option.some.inj hn
      have := nodup_get nd (by omega) hi' (e.trans e2.symm)
      omega
end
end Wr
-- WrWeb2
namespace Wr
open PySem L2
/-- a comprehension that keeps each turn, and gives ys -/
theorem lc_vals {J : It} {n : Nat} {G : Hp → Prop} {xs : List V} (ys : List V) (wk : Walk J n G (YAt xs)) {g : TG} {tt : TT} {te : TE} {vs : List Nat} {σ : L2.St} {H1 : Hp} {D : Addr} {Qd : Hp → Prop} (hn : n ≤ 10000) (hy : ys.length = n) (hD : H1 D = none) (hG : ∀ H', Same H1 H' → G H')
    (hs : ∀ (i : Nat) (x y : V) (H' : Hp) (Q' : VK), xs[i]? = some x → ys[i]? = some y → Same H1 H' → (∀ H'', Same H' H'' → Q' y H'') → g x (wipe σ vs) H' fun σ2 H2 => wipe σ2 vs = wipe σ vs ∧ tt σ2 H2 fun b H3 => b = true ∧ te σ2 H3 Q')
    (mono : ∀ x σ0 H0 (k k' : L2.St → Hp → Prop), (∀ a b, k a b → k' a b) → g x σ0 H0 k → g x σ0 H0 k') (mono2 : ∀ σ0 H0 (k k' : Bool → Hp → Prop), (∀ a b, k a b → k' a b) → tt σ0 H0 k → tt σ0 H0 k')
    (hd : ∀ H', Same H1 H' → H' D = some (.lst ys) → Qd H') :
    ∃ W : Nat → Nat → Hp → Prop, (∃ m, W 0 m (upd H1 D (.lst []))) ∧ ∀ i m H, W i m H →
      (J.stop i H ∧ Qd H) ∨ (J.go i H ∧ ∃ Nx : Hp → Prop, (∀ H', Nx H' → ∃ m', m' < m ∧ W (i + 1) m' H') ∧ ∀ x H', J.yld i H x H' → g x (wipe σ vs) H' fun σ2 H2 => wipe σ2 vs = wipe σ vs ∧ tt σ2 H2 fun b H3 =>
        if b = true then te σ2 H3 fun y H4 => ∃ acc, H4 D = some (.lst acc) ∧ acc.length < sizeLine ∧ Nx (upd H4 D (.lst (acc ++ [y]))) else Nx H3) := by
  refine lc_it wk (fun i H' => Keep D H1 H' ∧ H' D = some (.lst (ys.take i))) ⟨Keep.fresh hD, upd_same⟩ (fun i H' _ ⟨kp, _⟩ => hG H' (kp.same hD)) (fun i x H' H'' hi ⟨kp, h1⟩ hy' => ?_) fun H' ⟨kp, h1⟩ => hd H' (kp.same hD) (by rw [h1, ← hy, List.take_length])
  obtain ⟨e, hx⟩ := hy'
  subst e
  have hi' : i < ys.length := by omega
  have h := hs i x ys[i] _ (fun y H4 => ∃ acc, H4 D = some (.lst acc) ∧ acc.length < sizeLine ∧ Keep D H1 (upd H4 D (.lst (acc ++ [y]))) ∧ (upd H4 D (.lst (acc ++ [y]))) D = some (.lst (ys.take (i + 1)))) hx (List.getElem?_eq_getElem hi') (kp.same hD) fun H3 g => by
    refine ⟨_, g _ _ h1, ?_, (kp.trans (Keep.of_same g)).trans Keep.put, ?_⟩
    · rw [List.length_take, sizeLine_eq]; omega
    · rw [upd_same, List.take_add_one, List.getElem?_eq_getElem hi']; rfl
  refine mono _ _ _ _ _ ?_ h
  rintro σ2 H2 ⟨q1, q2⟩
  refine ⟨q1, mono2 _ _ _ _ ?_ q2⟩
  rintro b H3 ⟨q3, q4⟩
  rw [if_pos q3]; exact q4
section
variable {P : Program} {w : World} {K : PySem.W.Frag} {mg : Str → Option Value} {base : Heap} {f : Addr} {fd : FuncData}
abbrev sCheckTie : Stmt := top 45
theorem scCheckTie : FnScope ["posts", "ties", "index", "name", "one", "other", "least", "greatest", "tie"] ["posts", "ties", "index"] (defScope sCheckTie) := ⟨rfl, rfl, rfl, by decide +kernel, rfl, by decide +kernel, by decide +kernel⟩
def spCheckTie : Sp := fun vs H Q _ => ∃ (a b : Addr) (i : Nat) (ps : List Str) (rows : List T5) (r : T5), vs = [.ref a, .ref b, .int (i : Nat)] ∧ TextsAt H a ps ∧ TiesAt H b rows ∧ rows.length ≤ 1000 ∧ rows[i]? = some r ∧ NameOk r.x ∧ r.x ∉ (rows.take i).map T5.x ∧
  r.one ∈ ps ∧ r.other ∈ ps ∧ r.one ≠ r.other ∧ 0 ≤ r.lo ∧ r.lo ≤ r.hi ∧ ∀ H', Same H H' → Q .non H'
theorem ok_check_tie (hb : ∀ x ∈ blts, mg x = none) (N : Dv P w K mg base CX0 1 "is_name" ["text"] spIsName) (F : L2.Fun K "check_tie" "check_tie" sCheckTie f fd) : FnOk P w K mg base CX0 2 f fd ["posts", "ties", "index"] spCheckTie := by
  refine F.ok scCheckTie (fun vs H Q E h => ?_) (fun cdv A outer s H vs Q E hr h => ?_)
  · obtain ⟨a, b, i, ps, rows, r, rfl, _⟩ := h
    rfl
  · obtain ⟨a, b, i, ps, rows, r, rfl, ha, ⟨as, hb', rw'⟩, l2, hr', ok, new, e1, e2, e3, e4, e5, k⟩ := h
    have nd := scCheckTie.nd
    refine ⟨_, pss_cons (ps_asg (pe_ix ix_tup (pv 1) (pv 2) (fun _ _ => rfl)) (pg_tup rfl (pgs_cons (pg_name (i := 3) nd rfl (Or.inl rfl)) (pgs_cons (pg_name (i := 4) nd rfl (Or.inl rfl)) (pgs_cons (pg_name (i := 5) nd rfl (Or.inl rfl)) (pgs_cons (pg_name (i := 6) nd rfl (Or.inl rfl)) (pgs_cons (pg_name (i := 7) nd rfl (Or.inl rfl)) pgs_nil)))))))
      (pss_cons (ps_if (PW.pt (pw_or (pt_not (pt_val (pe_dv N hr pass0 (pa_cons (pv 3) pa_nil)))) (pw_or1 (pt_cmpR op_in_seq (pv 3)
          (pe_lc (own := [("tie", 8)]) (g := gName 8) (tt := tYes) rfl nd (pi_tup (pe_slice sl_tup (pv 1) po_none (po_some (pv 2)))) (blkOk_by (N := ["posts", "ties", "index", "name", "one", "other", "least", "greatest", "tie"]) (sc := defScope sCheckTie) (by decide +kernel)) (fun _ _ _ _ _ => pg_name (i := 8) nd rfl (Or.inl rfl)) (fun _ _ _ _ _ => pts_nil)
            (fun _ _ _ _ _ => pe_ix (show IxR _ (rIxT K) from ix_tup) (pv 8) pe_int (fun _ _ => rfl))) rfl)))) pss_never pss_nil)
      (pss_cons (ps_if (PW.pt (pw_or (pt_cmpR op_notIn_seq (pv 4) (pv 0) rfl) (pw_or (pt_cmpR op_notIn_seq (pv 5) (pv 0) rfl) (pw_or1 (pt_cmpR op_eq (pv 4) (pv 5) (nomark _)))))) pss_never pss_nil)
      (pss_one (ps_if (pt_not (pt_chain op_le op_le pe_int (pv 6) (pv 7))) pss_never pss_nil)))), ?_⟩
    have hi : i < rows.length := (List.getElem?_eq_some_iff.mp hr').1
    have la : as.length = rows.length := Paired.length rw'
    obtain ⟨t, ht⟩ : ∃ t, as[i]? = some t := ⟨as[i], List.getElem?_eq_getElem (by omega)⟩
    obtain ⟨r2, hr2, htie⟩ := paired_get rw' ht
    obtain rfl : r = r2 := Option.some.inj (hr'.symm.trans hr2)
    have hti : (as.map V.ref)[i]? = some (.ref t) := by rw [List.getElem?_map, ht]; rfl
    refine ⟨_, rfl, _, rfl, b, _, _, _, rfl, rfl, SqT.of hb', atI_nat hti, ?_⟩
    refine ⟨t, _, rfl, SqT.of (show H t = some (.tup r.vs) from htie), rfl, _, _, rfl, _, _, rfl, _, _, rfl, _, _, rfl, _, _, rfl, rfl, ?_⟩
    refine ⟨_, rfl, r.x, rfl, ok, fun H3 g3 => ⟨true, rfl, ?_⟩⟩
    have hpart := cut_part (xs := as.map V.ref) (i := i) (by rw [List.length_map]; omega)
    have ec : cutV (as.map V.ref) none (some (i : Int)) = (as.take i).map V.ref := by rw [cut_take (by rw [List.length_map]; omega), List.map_take]
    refine iteF ⟨_, rfl, _, rfl, _, rfl, _, rfl, b, _, rfl, SqT.of (g3 _ _ hb'), hpart, fun p hp => ?_⟩
    rw [ec]
    have g4 : Same H3 (upd H3 p (.tup ((as.take i).map V.ref))) := same_new hp
    refine ⟨p, rfl, ⟨_, SqT.of upd_same⟩, fun D hD => ?_⟩
    refine lc_vals (((rows.take i).map T5.x).map V.str) (te := tOp (rIxT K) (tVar 8) (tC (.int 0))) (walk_tup (xs := (as.take i).map V.ref)) (by rw [List.length_map, List.length_take]; omega) (by simp; omega) hD (fun H2 g2 => SqT.of (g2 _ _ upd_same)) (fun j x y H2 Q' hx hy g2 q => ?_) gName_mono tYes_mono fun H2 g2 h2 => ?_
    · obtain ⟨u, hu, rfl⟩ := map_get hx
      obtain ⟨z, hz, rfl⟩ := map_get hy
      rw [List.getElem?_take] at hu
      split at hu
      · rename_i hlt
        obtain ⟨r3, hr3, ht3⟩ := paired_get rw' hu
        have hz3 : z = r3.x := by
          rw [List.getElem?_map, List.getElem?_take, if_pos hlt, hr3] at hz
          exact (Option.some.inj hz).symm
        subst hz3
        exact ⟨rfl, rfl, _, rfl, u, _, _, _, rfl, rfl, SqT.of (show H2 u = some (.tup r3.vs) from g2 _ _ (g4 _ _ (g3 _ _ ht3))), rfl, q _ (Same.refl _)⟩
      · cases hu
    refine ⟨D, _, rfl, .inl (SqL.of h2), rfl, flat_strs _, _, rfl, ?_⟩
    rw [inV_str, decide_eq_false new]
    refine iteF ⟨_, rfl, _, rfl, a, _, rfl, .inr (SqT.of (g2 _ _ (g4 _ _ (g3 _ _ ha)))), rfl, flat_strs _, _, rfl, ?_⟩
    rw [inV_str, decide_eq_true e1]
    refine iteF ⟨_, rfl, _, rfl, a, _, rfl, .inr (SqT.of (g2 _ _ (g4 _ _ (g3 _ _ ha)))), rfl, flat_strs _, _, rfl, ?_⟩
    rw [inV_str, decide_eq_true e2]
    refine iteF ⟨_, rfl, _, rfl, rfl, _, rfl, ?_⟩
    rw [decide_eq_false (fun z => e3 (by injection z))]
    refine iteF ⟨_, rfl, _, _, rfl, rfl, _, rfl, ?_⟩
    rw [decide_eq_true (show (0 : Int) ≤ r.lo from e4)]
    refine iteT ⟨_, rfl, _, _, rfl, rfl, _, rfl, ?_⟩
    rw [decide_eq_true (show r.lo ≤ r.hi from e5)]
    exact iteF (k _ (g3.trans (g4.trans g2)))
end
end Wr
-- WrWeb3
namespace Wr
open PySem L2
section
variable {P : Program} {w : World} {K : PySem.W.Frag} {mg : Str → Option Value} {base : Heap} {f : Addr} {fd : FuncData}
abbrev sCheckWeb : Stmt := top 46
theorem scCheckWeb : FnScope ["posts", "ties", "index"] ["posts", "ties"] (defScope sCheckWeb) := ⟨rfl, rfl, rfl, by decide +kernel, rfl, by decide +kernel, by decide +kernel⟩
def spCheckWeb : Sp := fun vs H Q _ => ∃ (a b : Addr) (ps : List Str) (rows : List T5), vs = [.ref a, .ref b] ∧ TextsAt H a ps ∧ TiesAt H b rows ∧ WebOk ps rows ∧ ∀ H', Same H H' → Q .non H'
theorem ok_check_web (hb : ∀ x ∈ blts, mg x = none) (HF : Dv P w K mg base CX0 3 "has_form" ["posts", "ties"] spHasForm) (CN : Dv P w K mg base CX0 2 "check_names" ["names", "reason"] spCheckNames)
    (CT : Dv P w K mg base CX0 2 "check_tie" ["posts", "ties", "index"] spCheckTie) (F : L2.Fun K "check_web" "check_web" sCheckWeb f fd) : FnOk P w K mg base CX0 4 f fd ["posts", "ties"] spCheckWeb := by
  refine F.ok scCheckWeb (fun vs H Q E h => ?_) (fun cdv A outer s H vs Q E hr h => ?_)
  · obtain ⟨a, b, ps, rows, rfl, _⟩ := h
    rfl
  · obtain ⟨a, b, ps, rows, rfl, ha, hb', ok, k⟩ := h
    have nd := scCheckWeb.nd
    refine ⟨_, pss_cons (ps_if (pt_not (pt_val (pe_dv HF hr pass0 (pa_cons (pv 0) (pa_cons (pv 1) pa_nil))))) pss_never pss_nil)
      (pss_cons (ps_if (pt_cmpR op_eq (pe_callB call_len rfl (hb _ (by decide)) (by first | rfl | kernel_rfl) (pa_cons (pv 0) pa_nil)) pe_int (nomark _)) pss_never pss_nil)
      (pss_cons (ps_expr (pe_dv CN (hr.mono (by decide)) pass0 (pa_cons (pv 0) (pa_cons pe_str pa_nil))))
      (pss_one (ps_for PassesOwn.never rfl (pi_range1 rfl (hb _ (by decide)) (pa_cons (pe_callB call_len rfl (hb _ (by decide)) (by first | rfl | kernel_rfl) (pa_cons (pv 1) pa_nil)) pa_nil)) (pg_name (i := 2) nd rfl (Or.inl rfl))
        (pss_one (ps_expr (pe_dv CT (hr.mono (by decide)) pass0 (pa_cons (pv 0) (pa_cons (pv 1) (pa_cons (pv 2) pa_nil)))))))))), ?_⟩
    refine ⟨_, rfl, _, rfl, a, b, ps, rows, rfl, ha, hb', ok.few, ok.fewT, fun H1 g1 => ⟨true, rfl, ?_⟩⟩
    refine iteF ⟨_, rfl, .ref a, _, rfl, .inr ⟨_, SqT.of (g1 _ _ ha), rfl⟩, rfl, _, rfl, ?_⟩
    rw [decide_eq_false (fun z => by
      injection z with z
      have h1 : (ps.map V.str).length = 0 := by omega
      rw [List.length_map] at h1
      exact ok.ne (List.length_eq_zero_iff.mp h1))]
    refine iteF ⟨_, rfl, a, ps, _, rfl, g1 _ _ ha, ok.nd, ok.names, ok.few, fun H2 g2 => ?_⟩
    have g12 := g1.trans g2
    obtain ⟨as, hb2, rw'⟩ := hb'
    have la : as.length = rows.length := Paired.length rw'
    have l2 := ok.fewT
    refine ⟨_, rfl, .ref b, _, rfl, .inr ⟨_, SqT.of (g12 _ _ hb2), rfl⟩, _, rfl, by rw [List.length_map]; omega, by rw [List.length_map]; omega, ?_⟩
    refine for_range (n := _) (fun i σ H' => Same H H' ∧ ∃ u, σ = [some (.ref a), some (.ref b), u]) ⟨g12, none, rfl⟩ (fun i σ H' hi ⟨g, u, es⟩ => ?_) fun σ H' ⟨g, _⟩ => k _ g
    subst es
    have hi2 : i < rows.length := by
      have : i < ((((as.map V.ref).length : Nat) : Int) - 0).toNat := hi
      rw [List.length_map] at this
      omega
    have hri : rows[i]? = some rows[i] := List.getElem?_eq_getElem hi2
    have mem : rows[i] ∈ rows := List.getElem_mem hi2
    obtain ⟨x1, x2, x3⟩ := ok.ends _ mem
    obtain ⟨x4, x5⟩ := ok.spans _ mem
    refine ⟨_, rfl, _, rfl, _, rfl, a, b, i, ps, rows, rows[i], by rw [Int.zero_add], g _ _ ha, ⟨as, g _ _ hb2, Paired.mapP rw' fun _ _ z => g _ _ z⟩, l2, hri, ok.tnames _ mem, fun hm => ?_, x1, x2, x3, x4, x5, fun H3 g3 => ⟨g.trans g3, _, rfl⟩⟩
    obtain ⟨r, hr1, hr2⟩ := List.mem_map.mp hm
    obtain ⟨j, hj, e⟩ := List.getElem_of_mem hr1
    rw [List.length_take] at hj
    rw [List.getElem_take] at e
    have e2 : (rows.map T5.x)[j]'(by rw [List.length_map]; omega) = (rows.map T5.x)[i]'(by rw [List.length_map]; omega) := by
      rw [List.getElem_map, List.getElem_map, e, hr2]
    have := nodup_get ok.tnd (by rw [List.length_map]; omega) (by rw [List.length_map]; omega) e2
    omega
/-- what of the text Web must have -/
structure WebC (K : PySem.W.Frag) (mg : Str → Option Value) (wb : Addr) : Prop where
  cls : Cls K wb
  np : NoAttr K wb "places"
  nb : NoAttr K wb "bonds"
abbrev sWebI : Stmt := mth 49 0
theorem scWebI : FnScope ["self", "posts", "ties"] ["self", "posts", "ties"] (defScope sWebI) := ⟨rfl, rfl, rfl, by decide +kernel, rfl, by decide +kernel, by decide +kernel⟩
def spWebI (wb : Addr) : Sp := fun vs H Q _ => ∃ (x dx a b : Addr) (ps : List Str) (rows : List T5), vs = [.ref x, .ref a, .ref b] ∧ H x = some (.ins wb dx []) ∧ TextsAt H a ps ∧ TiesAt H b rows ∧ WebOk ps rows ∧
  ∀ H', Keep x H H' → H' x = some (.ins wb dx [("places", .ref a), ("bonds", .ref b)]) → Q .non H'
theorem ok_web_init {wb : Addr} (C : WebC K mg wb) (CW : Dv P w K mg base CX0 4 "check_web" ["posts", "ties"] spCheckWeb) (F : L2.Fun K "__init__" "Web.__init__" sWebI f fd) : FnOk P w K mg base CX0 5 f fd ["self", "posts", "ties"] (spWebI wb) := by
  refine F.ok scWebI (fun vs H Q E h => ?_) (fun cdv A outer s H vs Q E hr h => ?_)
  · obtain ⟨x, dx, a, b, ps, rows, rfl, _⟩ := h
    rfl
  · obtain ⟨x, dx, a, b, ps, rows, rfl, hx, ha, hb', ok, k⟩ := h
    refine ⟨_, pss_cons (ps_expr (pe_dv CW hr pass0 (pa_cons (pv 1) (pa_cons (pv 2) pa_nil)))) (pss_cons (ps_fld (pv 0) (pv 1) rfl) (pss_one (ps_fld (pv 0) (pv 2) rfl))), ?_⟩
    refine ⟨_, rfl, _, rfl, a, b, ps, rows, rfl, ha, hb', ok, fun H1 g1 => ?_⟩
    refine ⟨_, rfl, _, rfl, x, wb, dx, _, rfl, g1 _ _ hx, C.cls, C.np, (by show 0 < 1000; decide), ?_⟩
    refine ⟨_, rfl, _, rfl, x, wb, dx, _, rfl, upd_same, C.cls, C.nb, (by show 1 < 1000; decide), ?_⟩
    rw [upd_upd]
    exact k _ ((Keep.of_same g1).trans Keep.put) upd_same
end
end Wr
-- WrTree
/-! trees: tuples of the shape of a plan; edges -/
namespace Wr
open PySem L2
def signOf (q : Bool) : Str := if q then "&" else "+"
theorem signOf_eq (q : Bool) : decide (V.str (signOf q) = V.str "+") = !q := by
  cases q <;> decide +kernel
/-- the tree at a is of the shape p (the lengths are not in it) -/
def TreeAt (H : Hp) : Plan → Addr → Prop
  | .leaf x _ _, a => H a = some (.tup [.str x])
  | .op q l r, a => ∃ u v, H a = some (.tup [.str (signOf q), .ref u, .ref v]) ∧ TreeAt H l u ∧ TreeAt H r v
theorem TreeAt.stay {H H' : Hp} (k : Stay H H') : ∀ {p : Plan} {a : Addr}, TreeAt H p a → TreeAt H' p a
  | .leaf _ _ _, _, h => k _ _ (fun _ z => nomatch z) h
  | .op _ _ _, _, ⟨u, v, h, h1, h2⟩ => ⟨u, v, k _ _ (fun _ z => nomatch z) h, TreeAt.stay k h1, TreeAt.stay k h2⟩
section
variable {P : Program} {w : World} {K : PySem.W.Frag} {mg : Str → Option Value} {base : Heap} {f : Addr} {fd : FuncData}
abbrev sFlipped : Stmt := top 57
theorem scFlipped : FnScope ["tree", "sign", "near", "far"] ["tree"] (defScope sFlipped) := ⟨rfl, rfl, rfl, by decide +kernel, rfl, by decide +kernel, by decide +kernel⟩
def spFlip (n : Nat) : Sp := fun vs H Q _ => ∃ (a : Addr) (p : Plan), vs = [.ref a] ∧ TreeAt H p a ∧ p.size ≤ n ∧ ∀ b H', Same H H' → TreeAt H' p.flip b → Q (.ref b) H'
theorem ok_flipped {t1 : Tok} {k n : Nat} (hb : ∀ x ∈ blts, mg x = none) (gR : mg "IN_ROW" = some (.str "+" t1)) (D : Dv P w K mg base CX0 k "flipped" ["tree"] (spFlip n)) (F : L2.Fun K "flipped" "flipped" sFlipped f fd) : FnOk P w K mg base CX0 (k + 1) f fd ["tree"] (spFlip (n + 1)) := by
  refine F.ok scFlipped (fun vs H Q E h => ?_) (fun cdv A outer s H vs Q E hr h => ?_)
  · obtain ⟨a, p, rfl, _⟩ := h
    rfl
  · obtain ⟨a, p, rfl, ha, hn, kk⟩ := h
    have nd := scFlipped.nd
    refine ⟨_, pss_cons (ps_if (pt_cmpR op_eq (pe_callB call_len rfl (hb _ (by decide)) (by first | rfl | kernel_rfl) (pa_cons (pv 0) pa_nil)) pe_int (nomark _)) (pss_one (ps_ret (pv 0))) pss_nil)
      (pss_cons (ps_asg (pv 0) (pg_tup rfl (pgs_cons (pg_name (i := 1) nd rfl (Or.inl rfl)) (pgs_cons (pg_name (i := 2) nd rfl (Or.inl rfl)) (pgs_cons (pg_name (i := 3) nd rfl (Or.inl rfl)) pgs_nil)))))
      (pss_cons (ps_if (pt_cmpR op_eq (pv 1) (pe_glob (v := .str "+") rfl gR ⟨_, rfl⟩) (nomark _))
        (pss_one (ps_ret (pe_tup (pa_cons (pv 1) (pa_cons (pe_dv D hr pass0 (pa_cons (pv 3) pa_nil)) (pa_cons (pe_dv D hr pass0 (pa_cons (pv 2) pa_nil)) pa_nil)))))) pss_nil)
      (pss_one (ps_ret (pe_tup (pa_cons (pv 1) (pa_cons (pe_dv D hr pass0 (pa_cons (pv 2) pa_nil)) (pa_cons (pe_dv D hr pass0 (pa_cons (pv 3) pa_nil)) pa_nil)))))))), ?_⟩
    cases p with
    | leaf x lo hi =>
      refine ⟨_, rfl, .ref a, 1, rfl, .inr ⟨_, SqT.of (show H a = _ from ha), rfl⟩, rfl, _, rfl, ?_⟩
      exact iteT ⟨_, rfl, kk a H (Same.refl _) ha⟩
    | op q l r =>
      obtain ⟨u, v, e, h1, h2⟩ := ha
      have hn' : l.size + r.size ≤ n + 1 := hn
      have z1 := l.size_pos
      have z2 := r.size_pos
      refine ⟨_, rfl, .ref a, 3, rfl, .inr ⟨_, SqT.of e, rfl⟩, rfl, _, rfl, ?_⟩
      refine iteF ⟨_, rfl, a, _, rfl, SqT.of e, rfl, _, _, rfl, _, _, rfl, _, _, rfl, rfl, ?_⟩
      refine ⟨_, rfl, rfl, _, rfl, ?_⟩
      rw [signOf_eq]
      cases q with
      | false =>
        refine iteT ⟨_, rfl, _, rfl, v, r, rfl, h2, by omega, fun b1 H1 g1 t1 => ⟨_, rfl, u, l, rfl, h1.stay (Stay.of_same g1), by omega, fun b2 H2 g2 t2 => ⟨three_le, fun y hy => ?_⟩⟩⟩
        have g3 : Same H2 (upd H2 y (.tup [.str (signOf false), .ref b1, .ref b2])) := same_new hy
        exact kk y _ (g1.trans (g2.trans g3)) ⟨b1, b2, upd_same, t1.stay (Stay.of_same (g2.trans g3)), t2.stay (Stay.of_same g3)⟩
      | true =>
        refine iteF ⟨_, rfl, _, rfl, u, l, rfl, h1, by omega, fun b1 H1 g1 t1 => ⟨_, rfl, v, r, rfl, h2.stay (Stay.of_same g1), by omega, fun b2 H2 g2 t2 => ⟨three_le, fun y hy => ?_⟩⟩⟩
        have g3 : Same H2 (upd H2 y (.tup [.str (signOf true), .ref b1, .ref b2])) := same_new hy
        exact kk y _ (g1.trans (g2.trans g3)) ⟨b1, b2, upd_same, t1.stay (Stay.of_same (g2.trans g3)), t2.stay (Stay.of_same g3)⟩
theorem all_flipped {t1 : Tok} (hb : ∀ x ∈ blts, mg x = none) (gR : mg "IN_ROW" = some (.str "+" t1)) (F : L2.Fun K "flipped" "flipped" sFlipped f fd) (hm : mg "flipped" = some (.ref f)) (hB : Binds K fd ["tree"] []) :
    ∀ n, Dv P w K mg base CX0 n "flipped" ["tree"] (spFlip n)
  | 0 => ⟨f, fd, ⟨fun vs H Q E h => by obtain ⟨a, p, rfl, _⟩ := h; rfl, fun A outer s H args us vs Q E _ _ _ _ h => by
      obtain ⟨a, p, _, _, h0, _⟩ := h
      have := p.size_pos
      omega⟩, hm, F.kp, hB⟩
  | n + 1 => ⟨f, fd, ok_flipped hb gR (all_flipped hb gR F hm hB n) F, hm, F.kp, hB⟩

/-- an edge: its two posts, its tree -/
abbrev E3 := Str × Str × Plan
def EdgeAt (H : Hp) (a : Addr) (e : E3) : Prop := ∃ t, H a = some (.tup [.str e.1, .str e.2.1, .ref t]) ∧ TreeAt H e.2.2 t
theorem EdgeAt.stay {H H' : Hp} (k : Stay H H') {a : Addr} {e : E3} : EdgeAt H a e → EdgeAt H' a e := fun ⟨t, h, q⟩ => ⟨t, k _ _ (fun _ z => nomatch z) h, q.stay k⟩
abbrev sEdgeFrom : Stmt := top 60
theorem scEdgeFrom : FnScope ["edge", "post", "one", "other", "tree"] ["edge", "post"] (defScope sEdgeFrom) := ⟨rfl, rfl, rfl, by decide +kernel, rfl, by decide +kernel, by decide +kernel⟩
/-- the other post of the edge, its tree as seen from there -/
def fromE (e : E3) (m : Str) : Str × Plan := if e.1 = m then (e.2.1, e.2.2) else (e.1, e.2.2.flip)
def spEdgeFrom (n : Nat) : Sp := fun vs H Q _ => ∃ (a : Addr) (e : E3) (m : Str), vs = [.ref a, .str m] ∧ EdgeAt H a e ∧ e.2.2.size ≤ n ∧ ∀ b t H', Same H H' → H' b = some (.tup [.str (fromE e m).1, .ref t]) → TreeAt H' (fromE e m).2 t → Q (.ref b) H'
theorem ok_edge_from {n : Nat} (D : Dv P w K mg base CX0 n "flipped" ["tree"] (spFlip n)) (F : L2.Fun K "edge_from" "edge_from" sEdgeFrom f fd) : FnOk P w K mg base CX0 (n + 1) f fd ["edge", "post"] (spEdgeFrom n) := by
  refine F.ok scEdgeFrom (fun vs H Q E h => ?_) (fun cdv A outer s H vs Q E hr h => ?_)
  · obtain ⟨a, e, m, rfl, _⟩ := h
    rfl
  · obtain ⟨a, e, m, rfl, ⟨t, ha, ht⟩, hn, k⟩ := h
    have nd := scEdgeFrom.nd
    refine ⟨_, pss_cons (ps_asg (pv 0) (pg_tup rfl (pgs_cons (pg_name (i := 2) nd rfl (Or.inl rfl)) (pgs_cons (pg_name (i := 3) nd rfl (Or.inl rfl)) (pgs_cons (pg_name (i := 4) nd rfl (Or.inl rfl)) pgs_nil)))))
      (pss_one (ps_ret (pe_ifExp (pt_cmpR op_eq (pv 2) (pv 1) (nomark _)) (pe_tup (pa_cons (pv 3) (pa_cons (pv 4) pa_nil))) (pe_tup (pa_cons (pv 2) (pa_cons (pe_dv D hr pass0 (pa_cons (pv 4) pa_nil)) pa_nil)))))), ?_⟩
    refine ⟨_, rfl, a, _, rfl, SqT.of ha, rfl, _, _, rfl, _, _, rfl, _, _, rfl, rfl, ?_⟩
    refine ⟨_, rfl, _, rfl, rfl, _, rfl, ?_⟩
    unfold fromE at k
    by_cases h : e.1 = m
    · rw [if_pos h] at k
      rw [decide_eq_true (by rw [h])]
      refine iteT ⟨_, rfl, _, rfl, two_le, fun b hb => ?_⟩
      have g := same_new (o := .tup [.str e.2.1, .ref t]) hb
      exact k b t _ g upd_same (ht.stay (Stay.of_same g))
    · rw [if_neg h] at k
      rw [decide_eq_false (fun z => h (by injection z))]
      refine iteF ⟨_, rfl, _, rfl, t, _, rfl, ht, hn, fun b1 H1 g1 t1 => ⟨two_le, fun b hb => ?_⟩⟩
      have g := same_new (o := .tup [.str e.1, .ref b1]) hb
      exact k b b1 _ (g1.trans g) upd_same (t1.stay (Stay.of_same g))
end
end Wr
-- WrBund
/-! bundled: two edges between the same posts become one -/
namespace Wr
open PySem L2
def EdgesAt (H : Hp) (L : Addr) (es : List E3) : Prop := ∃ as : List Addr, H L = some (.lst (as.map V.ref)) ∧ Paired (EdgeAt H) as es
theorem EdgesAt.same {H H' : Hp} (k : Same H H') {L : Addr} {es : List E3} : EdgesAt H L es → EdgesAt H' L es := fun ⟨as, h, p⟩ => ⟨as, k _ _ h, Paired.mapP p fun _ _ z => z.stay (Stay.of_same k)⟩
theorem cut_from {xs : List V} {i : Nat} (h : i ≤ xs.length) : cutV xs (some (i : Int)) none = xs.drop i := by
  unfold cutV
  rw [HT.sIx_none, HT.sIx_nat, Nat.min_eq_left h, List.take_of_length_le (by rw [List.length_drop]; exact Nat.le_refl _)]
theorem cut_mid {xs : List V} {i j : Nat} (h : i ≤ j) (h2 : j ≤ xs.length) : cutV xs (some (i : Int)) (some (j : Int)) = (xs.drop i).take (j - i) := by
  unfold cutV
  rw [HT.sIx_nat, HT.sIx_nat, Nat.min_eq_left h2, Nat.min_eq_left (by omega)]
theorem split3 {α : Type} {l : List α} {i j : Nat} {e f : α} (hij : i < j) (he : l[i]? = some e) (hf : l[j]? = some f) : l = l.take i ++ e :: ((l.drop (i + 1)).take (j - (i + 1)) ++ f :: l.drop (j + 1)) := by
  obtain ⟨hi, rfl⟩ := List.getElem?_eq_some_iff.mp he
  obtain ⟨hj, rfl⟩ := List.getElem?_eq_some_iff.mp hf
  have h1 : l = l.take i ++ l[i] :: l.drop (i + 1) := by rw [List.getElem_cons_drop, List.take_append_drop]
  have h2 : l.drop (i + 1) = (l.drop (i + 1)).take (j - (i + 1)) ++ l[j] :: l.drop (j + 1) := by
    have z : (l.drop (i + 1)).drop (j - (i + 1)) = l[j] :: l.drop (j + 1) := by
      rw [List.drop_drop, List.getElem_cons_drop]
      congr 1
      omega
    rw [← z, List.take_append_drop]
  rw [← h2]
  exact h1
theorem Paired.take {α β : Type} {R : α → β → Prop} {as : List α} {bs : List β} (h : Paired R as bs) : ∀ n, Paired R (as.take n) (bs.take n) := by
  induction h with
  | nil => intro n; rw [List.take_nil, List.take_nil]; exact .nil
  | cons a _ ih =>
    intro n
    cases n with
    | zero => exact .nil
    | succ n => exact .cons a (ih n)
theorem Paired.drop {α β : Type} {R : α → β → Prop} {as : List α} {bs : List β} (h : Paired R as bs) : ∀ n, Paired R (as.drop n) (bs.drop n) := by
  induction h with
  | nil => intro n; rw [List.drop_nil, List.drop_nil]; exact .nil
  | cons a t ih =>
    intro n
    cases n with
    | zero => exact .cons a t
    | succ n => exact ih n
section
variable {P : Program} {w : World} {K : PySem.W.Frag} {mg : Str → Option Value} {base : Heap} {f : Addr} {fd : FuncData}
abbrev sBundled : Stmt := top 58
theorem scBundled : FnScope ["edges", "at", "one", "other", "tree", "to", "near", "far", "more", "beside"] ["edges"] (defScope sBundled) := ⟨rfl, rfl, rfl, by decide +kernel, rfl, by decide +kernel, by decide +kernel⟩
def spBundled (n : Nat) : Sp := fun vs H Q _ => ∃ (L : Addr) (es : List E3), vs = [.ref L] ∧ EdgesAt H L es ∧ es.length ≤ 100 ∧ (∀ e ∈ es, e.2.2.size ≤ n) ∧
  ((∀ (i j : Nat) (e f : E3), i < j → es[i]? = some e → es[j]? = some f → ¬ Ends f e.1 e.2.1) → ∀ H', Same H H' → Q .non H') ∧
  (∀ A e B f C p L' H', es = A ++ e :: (B ++ f :: C) → Ends f e.1 e.2.1 → (p = f.2.2 ∨ p = f.2.2.flip) → Same H H' → EdgesAt H' L' (A ++ (e.1, e.2.1, .op true e.2.2 p) :: (B ++ C)) → Q (.ref L') H')
theorem ok_bundled {t1 : Tok} {n : Nat} (hb : ∀ x ∈ blts, mg x = none) (gB : mg "BESIDE" = some (.str "&" t1)) (D : Dv P w K mg base CX0 n "flipped" ["tree"] (spFlip n)) (F : L2.Fun K "bundled" "bundled" sBundled f fd) : FnOk P w K mg base CX0 (n + 1) f fd ["edges"] (spBundled n) := by
  refine F.ok scBundled (fun vs H Q E h => ?_) (fun cdv A outer s H vs Q E hr h => ?_)
  · obtain ⟨a, p, rfl, _⟩ := h
    rfl
  · obtain ⟨L, es, rfl, ⟨as, hL, prs⟩, hlen, hsz, k1, k2⟩ := h
    have nd := scBundled.nd
    refine ⟨_, pss_cons (ps_for PassesOwn.never rfl (pi_enum rfl (hb _ (by decide)) (pa_cons (pv 0) pa_nil)) (pg_tup rfl (pgs_cons (pg_name (i := 1) nd rfl (Or.inl rfl)) (pgs_cons (pg_tup rfl (pgs_cons (pg_name (i := 2) nd rfl (Or.inl rfl)) (pgs_cons (pg_name (i := 3) nd rfl (Or.inl rfl)) (pgs_cons (pg_name (i := 4) nd rfl (Or.inl rfl)) pgs_nil)))) pgs_nil)))
        (pss_one (ps_for PassesOwn.never rfl (pi_range2 rfl (hb _ (by decide)) (pa_cons (pe_op op_add (pv 1) pe_int) (pa_cons (pe_callB call_len rfl (hb _ (by decide)) (by first | rfl | kernel_rfl) (pa_cons (pv 0) pa_nil)) pa_nil))) (pg_name (i := 5) nd rfl (Or.inl rfl))
          (pss_cons (ps_asg (pe_ix ix_list (pv 0) (pv 5) (fun _ _ => rfl)) (pg_tup rfl (pgs_cons (pg_name (i := 6) nd rfl (Or.inl rfl)) (pgs_cons (pg_name (i := 7) nd rfl (Or.inl rfl)) (pgs_cons (pg_name (i := 8) nd rfl (Or.inl rfl)) pgs_nil)))))
          (pss_one (ps_if (pt_cmpR (op_inP hr.units) (pe_tup (pa_cons (pv 6) (pa_cons (pv 7) pa_nil))) (pe_tup (pa_cons (pe_tup (pa_cons (pv 2) (pa_cons (pv 3) pa_nil))) (pa_cons (pe_tup (pa_cons (pv 3) (pa_cons (pv 2) pa_nil))) pa_nil))) rfl)
            (pss_cons (ps_set (i := 9) nd rfl (Or.inl rfl) (pe_ifExp (pt_cmpR op_eq (pv 6) (pv 2) (nomark _)) (pv 8) (pe_dv D hr pass0 (pa_cons (pv 8) pa_nil))))
            (pss_one (ps_ret (pe_lst (StX.pa_star (pe_slice sl_list (pv 0) po_none (po_some (pv 1)))
              (pa_cons (pe_tup (pa_cons (pv 2) (pa_cons (pv 3) (pa_cons (pe_tup (pa_cons (pe_glob (v := .str "&") rfl gB ⟨_, rfl⟩) (pa_cons (pv 4) (pa_cons (pv 9) pa_nil)))) pa_nil))))
              (StX.pa_star (pe_slice sl_list (pv 0) (po_some (pe_op op_add (pv 1) pe_int)) (po_some (pv 5)))
              (StX.pa_star (pe_slice sl_list (pv 0) (po_some (pe_op op_add (pv 5) pe_int)) po_none) pa_nil))))))))
            pss_nil))))))
      (pss_one (ps_ret pe_non)), ?_⟩
    have la : as.length = es.length := Paired.length prs
    refine ⟨_, rfl, L, _, rfl, SqL.of hL, for_it (walk_enum (xs := as.map V.ref)) (fun i σ H' => Same H H' ∧ (∃ v1 v2 v3 v4 v5 v6 v7 v8 v9, σ = [some (.ref L), v1, v2, v3, v4, v5, v6, v7, v8, v9]) ∧ ∀ (i' j : Nat) (e f : E3), i' < i → i' < j → es[i']? = some e → es[j]? = some f → ¬ Ends f e.1 e.2.1)
      ⟨Same.refl _, ⟨none, none, none, none, none, none, none, none, none, rfl⟩, fun i' j e f h => absurd h (Nat.not_lt_zero _)⟩ (fun i σ H' _ ⟨g, _⟩ => SqL.of (g _ _ hL)) (fun i v σ H1 H2 hi ⟨g, ⟨v1, v2, v3, v4, v5, v6, v7, v8, v9, es'⟩, no⟩ hy => ?_) fun σ H' ⟨g, _, no⟩ => ?_⟩
    · subst es'
      obtain ⟨T, x1, x2, rfl, hT, rfl, e1, e2⟩ := hy
      cases e1
      obtain ⟨y, hy, rfl⟩ := map_get e2
      obtain ⟨e, he, t, hye, hte⟩ := paired_get prs hy
      have hi' : i < es.length := (List.getElem?_eq_some_iff.mp he).1
      have g1 : Same H1 (upd H1 T (.tup [.int (i : Nat), .ref y])) := same_new hT
      have g01 := g.trans g1
      refine ⟨T, _, rfl, SqT.of upd_same, rfl, _, _, rfl, _, _, rfl, y, _, rfl, SqT.of (g01 _ _ hye), rfl, _, _, rfl, _, _, rfl, _, _, rfl, rfl, rfl, ?_⟩
      refine ⟨_, rfl, _, _, rfl, rfl, _, rfl, .ref L, _, rfl, .inl ⟨_, SqL.of (g01 _ _ hL), rfl⟩, _, _, rfl, ⟨by omega, by omega, by omega, by rw [List.length_map]; omega⟩, ?_⟩
      have hnn : (((((as.map V.ref).length : Nat) : Int) - ((i : Int) + 1)).toNat) = es.length - (i + 1) := by rw [List.length_map]; omega
      rw [hnn]
      refine for_range (lo := (i : Int) + 1) (n := es.length - (i + 1)) (fun j σ H' => Same H H' ∧ (∃ v5 v6 v7 v8 v9, σ = [some (.ref L), some (.int (i : Nat)), some (.str e.1), some (.str e.2.1), some (.ref t), v5, v6, v7, v8, v9]) ∧ ∀ (m : Nat) (f : E3), i < m → m < i + 1 + j → es[m]? = some f → ¬ Ends f e.1 e.2.1)
        ⟨g01, ⟨v5, v6, v7, v8, v9, rfl⟩, fun m f h1 h2 => absurd h2 (by omega)⟩ (fun j σ H3 hj ⟨g3, ⟨w5, w6, w7, w8, w9, es3⟩, no3⟩ => ?_) fun σ H3 ⟨g3, ⟨w5, w6, w7, w8, w9, es3⟩, no3⟩ => ?_
      · subst es3
        obtain ⟨m, hm⟩ : ∃ m, m = i + 1 + j := ⟨_, rfl⟩
        have hmi : ((i : Int) + 1 + (j : Int)) = ((m : Nat) : Int) := by omega
        have hml : m < es.length := by omega
        obtain ⟨z, hz⟩ : ∃ z, as[m]? = some z := ⟨as[m], List.getElem?_eq_getElem (by omega)⟩
        obtain ⟨f, hf, u, hzf, huf⟩ := paired_get prs hz
        have hmz : (as.map V.ref)[m]? = some (.ref z) := by rw [List.getElem?_map, hz]; rfl
        rw [hmi]
        refine ⟨_, rfl, _, rfl, L, _, _, _, rfl, rfl, SqL.of (g3 _ _ hL), atI_nat hmz, ?_⟩
        refine ⟨z, _, rfl, SqT.of (g3 _ _ hzf), rfl, _, _, rfl, _, _, rfl, _, _, rfl, rfl, ?_⟩
        refine ⟨_, rfl, _, rfl, two_le, fun p1 hp1 => ⟨_, rfl, _, rfl, two_le, fun p2 hp2 => ⟨_, rfl, _, rfl, two_le, fun p3 hp3 => ⟨two_le, fun p4 hp4 => ?_⟩⟩⟩⟩
        have s1 := same_new (o := .tup [.str f.1, .str f.2.1]) hp1
        have s2 := same_new (o := .tup [.str e.1, .str e.2.1]) hp2
        have s3 := same_new (o := .tup [.str e.2.1, .str e.1]) hp3
        have s4 := same_new (o := .tup [.ref p2, .ref p3]) hp4
        refine ⟨p1, p4, p2, p3, _, _, _, _, _, _, rfl, rfl, s4 _ _ (s3 _ _ (s2 _ _ upd_same)), upd_same, s4 _ _ (s3 _ _ upd_same), s4 _ _ upd_same, _, rfl, ?_⟩
        have g7 := g3.trans (s1.trans (s2.trans (s3.trans s4)))
        generalize hH7 : (upd _ p4 (HO.tup [V.ref p2, V.ref p3])) = H7 at g7
        refine ite2 (fun hd => ?_) (fun hd => ?_)
        · have hE : Ends f e.1 e.2.1 := by
            rcases of_decide_eq_true hd with ⟨z1, z2⟩ | ⟨z1, z2⟩
            · exact .inl ⟨z1.symm, z2.symm⟩
            · exact .inr ⟨z1.symm, z2.symm⟩
          refine ⟨_, rfl, _, rfl, rfl, _, rfl, ?_⟩
          refine ite2 (fun _ => ⟨_, rfl, ?_⟩) (fun _ => ⟨_, rfl, u, f.2.2, rfl, huf.stay (Stay.of_same g7), hsz f (List.mem_of_getElem? hf), fun b H8 g8 t8 => ?_⟩)
          · obtain ⟨b, hbu⟩ : ∃ b, b = u := ⟨_, rfl⟩
            obtain ⟨p, hp⟩ : ∃ p, p = f.2.2 := ⟨_, rfl⟩
            obtain ⟨H8, h8⟩ : ∃ H8, H8 = H7 := ⟨_, rfl⟩
            have g8 : Same H H8 := by rw [h8]; exact g7
            have t8 : TreeAt H8 p b := by rw [h8, hp, hbu]; exact huf.stay (Stay.of_same g7)
            have hpp : p = f.2.2 ∨ p = f.2.2.flip := .inl hp
            rw [← hbu, ← h8]
            clear h8 hbu hp
            have g8 : Same H H8 := g8
            refine ⟨_, rfl, _, rfl, _, rfl, L, _, rfl, SqL.of (g8 _ _ hL), fun q1 hq1 => ⟨q1, _, rfl, .inr (SqL.of upd_same), ?_⟩⟩
            have s5 := same_new (o := .lst (cutV (as.map V.ref) none (some (i : Int)))) hq1
            refine ⟨_, rfl, _, rfl, _, rfl, _, rfl, three_le, fun y1 hy1 => ⟨three_le, fun y2 hy2 => ?_⟩⟩
            have s6 := same_new (o := .tup [.str "&", .ref t, .ref b]) hy1
            have s7 := same_new (o := .tup [.str e.1, .str e.2.1, .ref y1]) hy2
            have g10 := g8.trans (s5.trans (s6.trans s7))
            refine ⟨_, rfl, _, rfl, _, _, rfl, rfl, _, rfl, _, rfl, _, rfl, L, _, rfl, SqL.of (g10 _ _ hL), fun q2 hq2 => ⟨q2, _, rfl, .inr (SqL.of upd_same), ?_⟩⟩
            have s8 := same_new (o := .lst (cutV (as.map V.ref) (some ((i : Int) + 1)) (some ((m : Nat) : Int)))) hq2
            have g11 := g10.trans s8
            refine ⟨_, rfl, _, rfl, _, _, rfl, rfl, _, rfl, L, _, rfl, SqL.of (g11 _ _ hL), fun q3 hq3 => ⟨q3, _, rfl, .inr (SqL.of upd_same), ?_⟩⟩
            have s9 := same_new (o := .lst (cutV (as.map V.ref) (some ((m : Int) + 1)) none)) hq3
            have c1 : cutV (as.map V.ref) none (some (i : Int)) = (as.take i).map V.ref := by rw [cut_take (by rw [List.length_map]; omega), List.map_take]
            have c2 : cutV (as.map V.ref) (some ((i : Int) + 1)) (some ((m : Nat) : Int)) = ((as.drop (i + 1)).take (m - (i + 1))).map V.ref := by
              rw [show ((i : Int) + 1) = ((i + 1 : Nat) : Int) by omega, cut_mid (by omega) (by rw [List.length_map]; omega), List.map_take, List.map_drop]
            have c3 : cutV (as.map V.ref) (some ((m : Int) + 1)) none = (as.drop (m + 1)).map V.ref := by
              rw [show ((m : Int) + 1) = ((m + 1 : Nat) : Int) by omega, cut_from (by rw [List.length_map]; omega), List.map_drop]
            refine ⟨?_, fun l hl => ?_⟩
            · rw [c1, c2, c3, sizeLine_eq]
              simp only [List.length_append, List.length_cons, List.length_map, List.length_take, List.length_drop, List.length_nil]
              omega
            have s10 := same_new (o := .lst (cutV (as.map V.ref) none (some (i : Int)) ++ (V.ref y2 :: (cutV (as.map V.ref) (some ((i : Int) + 1)) (some ((m : Nat) : Int)) ++ (cutV (as.map V.ref) (some ((m : Int) + 1)) none ++ []))))) hl
            have g12 := g11.trans (s9.trans s10)
            have tl := s7.trans (s8.trans (s9.trans s10))
            have st := Stay.of_same g12
            have pm : ∀ {bs : List Addr} {fs : List E3}, Paired (EdgeAt H) bs fs → Paired (EdgeAt _) bs fs := fun z => Paired.mapP z fun _ _ q => EdgeAt.stay st q
            refine k2 (es.take i) e ((es.drop (i + 1)).take (m - (i + 1))) f (es.drop (m + 1)) p l _ (split3 (by omega) he hf) hE hpp g12 ⟨as.take i ++ y2 :: ((as.drop (i + 1)).take (m - (i + 1)) ++ as.drop (m + 1)), ?_, Paired.append (pm (Paired.take prs i)) (.cons ⟨y1, (s8.trans (s9.trans s10)) _ _ upd_same, t, b, tl _ _ upd_same, hte.stay st, t8.stay (Stay.of_same (s5.trans (s6.trans tl)))⟩ (Paired.append (pm (Paired.take (Paired.drop prs (i + 1)) (m - (i + 1)))) (pm (Paired.drop prs (m + 1)))))⟩
            rw [upd_same, c1, c2, c3]
            simp only [List.map_append, List.map_cons, List.append_nil]
          · have g8 := g7.trans g8
            obtain ⟨p, hp⟩ : ∃ p, p = f.2.2.flip := ⟨_, rfl⟩
            have t8 : TreeAt H8 p b := by rw [hp]; exact t8
            have hpp : p = f.2.2 ∨ p = f.2.2.flip := .inr hp
            have g8 : Same H H8 := g8
            refine ⟨_, rfl, _, rfl, _, rfl, L, _, rfl, SqL.of (g8 _ _ hL), fun q1 hq1 => ⟨q1, _, rfl, .inr (SqL.of upd_same), ?_⟩⟩
            have s5 := same_new (o := .lst (cutV (as.map V.ref) none (some (i : Int)))) hq1
            refine ⟨_, rfl, _, rfl, _, rfl, _, rfl, three_le, fun y1 hy1 => ⟨three_le, fun y2 hy2 => ?_⟩⟩
            have s6 := same_new (o := .tup [.str "&", .ref t, .ref b]) hy1
            have s7 := same_new (o := .tup [.str e.1, .str e.2.1, .ref y1]) hy2
            have g10 := g8.trans (s5.trans (s6.trans s7))
            refine ⟨_, rfl, _, rfl, _, _, rfl, rfl, _, rfl, _, rfl, _, rfl, L, _, rfl, SqL.of (g10 _ _ hL), fun q2 hq2 => ⟨q2, _, rfl, .inr (SqL.of upd_same), ?_⟩⟩
            have s8 := same_new (o := .lst (cutV (as.map V.ref) (some ((i : Int) + 1)) (some ((m : Nat) : Int)))) hq2
            have g11 := g10.trans s8
            refine ⟨_, rfl, _, rfl, _, _, rfl, rfl, _, rfl, L, _, rfl, SqL.of (g11 _ _ hL), fun q3 hq3 => ⟨q3, _, rfl, .inr (SqL.of upd_same), ?_⟩⟩
            have s9 := same_new (o := .lst (cutV (as.map V.ref) (some ((m : Int) + 1)) none)) hq3
            have c1 : cutV (as.map V.ref) none (some (i : Int)) = (as.take i).map V.ref := by rw [cut_take (by rw [List.length_map]; omega), List.map_take]
            have c2 : cutV (as.map V.ref) (some ((i : Int) + 1)) (some ((m : Nat) : Int)) = ((as.drop (i + 1)).take (m - (i + 1))).map V.ref := by
              rw [show ((i : Int) + 1) = ((i + 1 : Nat) : Int) by omega, cut_mid (by omega) (by rw [List.length_map]; omega), List.map_take, List.map_drop]
            have c3 : cutV (as.map V.ref) (some ((m : Int) + 1)) none = (as.drop (m + 1)).map V.ref := by
              rw [show ((m : Int) + 1) = ((m + 1 : Nat) : Int) by omega, cut_from (by rw [List.length_map]; omega), List.map_drop]
            refine ⟨?_, fun l hl => ?_⟩
            · rw [c1, c2, c3, sizeLine_eq]
              simp only [List.length_append, List.length_cons, List.length_map, List.length_take, List.length_drop, List.length_nil]
              omega
            have s10 := same_new (o := .lst (cutV (as.map V.ref) none (some (i : Int)) ++ (V.ref y2 :: (cutV (as.map V.ref) (some ((i : Int) + 1)) (some ((m : Nat) : Int)) ++ (cutV (as.map V.ref) (some ((m : Int) + 1)) none ++ []))))) hl
            have g12 := g11.trans (s9.trans s10)
            have tl := s7.trans (s8.trans (s9.trans s10))
            have st := Stay.of_same g12
            have pm : ∀ {bs : List Addr} {fs : List E3}, Paired (EdgeAt H) bs fs → Paired (EdgeAt _) bs fs := fun z => Paired.mapP z fun _ _ q => EdgeAt.stay st q
            refine k2 (es.take i) e ((es.drop (i + 1)).take (m - (i + 1))) f (es.drop (m + 1)) p l _ (split3 (by omega) he hf) hE hpp g12 ⟨as.take i ++ y2 :: ((as.drop (i + 1)).take (m - (i + 1)) ++ as.drop (m + 1)), ?_, Paired.append (pm (Paired.take prs i)) (.cons ⟨y1, (s8.trans (s9.trans s10)) _ _ upd_same, t, b, tl _ _ upd_same, hte.stay st, t8.stay (Stay.of_same (s5.trans (s6.trans tl)))⟩ (Paired.append (pm (Paired.take (Paired.drop prs (i + 1)) (m - (i + 1)))) (pm (Paired.drop prs (m + 1)))))⟩
            rw [upd_same, c1, c2, c3]
            simp only [List.map_append, List.map_cons, List.append_nil]
        · refine ⟨g7, ⟨_, _, _, _, _, rfl⟩, fun m' f' q1 q2 q3 => ?_⟩
          by_cases hmm : m' = m
          · subst hmm
            obtain rfl : f = f' := Option.some.inj (hf.symm.trans q3)
            intro z
            have hd := fun z => hd (decide_eq_true z)
            rcases z with ⟨z1, z2⟩ | ⟨z1, z2⟩
            · exact hd (.inl ⟨z1.symm, z2.symm⟩)
            · exact hd (.inr ⟨z1.symm, z2.symm⟩)
          · exact no3 m' f' q1 (by omega) q3
      · subst es3
        refine ⟨g3, ⟨_, _, _, _, _, _, _, _, _, rfl⟩, fun i' j e' f' q1 q2 q3 q4 => ?_⟩
        by_cases hmm : i' = i
        · subst hmm
          obtain rfl : e = e' := Option.some.inj (he.symm.trans q3)
          have := (List.getElem?_eq_some_iff.mp q4).1
          exact no3 j f' q2 (by omega) q4
        · exact no i' j e' f' (by omega) q2 q3 q4
    · refine k1 (fun i j e f q1 q2 q3 => no i j e f ?_ q1 q2 q3) _ g
      have := (List.getElem?_eq_some_iff.mp q2).1
      rw [List.length_map]
      omega
end
end Wr
-- WrChain
/-! chained: the two edges at a middle become one -/
namespace Wr
open PySem L2
/-- a comprehension that keeps some of the things it walks -/
theorem lc_filt {α : Type} (zs : List α) (v : α → V) (pr : α → Bool) {J : It} {G : Hp → Prop} (wk : Walk J (zs.map v).length G (YAt (zs.map v))) {g : TG} {tt : TT} {te : TE} {vs : List Nat} {σ : L2.St} {H1 : Hp} {D : Addr} {Qd : Hp → Prop} (hn : zs.length ≤ 10000) (hD : H1 D = none) (hG : ∀ H', Same H1 H' → G H')
    (hs : ∀ (i : Nat) (z : α) (H' : Hp) (QT : VK) (QF : Hp → Prop), zs[i]? = some z → Same H1 H' → (pr z = true → ∀ H'', Same H' H'' → QT (v z) H'') → (pr z = false → ∀ H'', Same H' H'' → QF H'') → g (v z) (wipe σ vs) H' fun σ2 H2 => wipe σ2 vs = wipe σ vs ∧ tt σ2 H2 fun b H3 => if b = true then te σ2 H3 QT else QF H3)
    (hd : ∀ H', Same H1 H' → H' D = some (.lst ((zs.filter pr).map v)) → Qd H') :
    ∃ W : Nat → Nat → Hp → Prop, (∃ m, W 0 m (upd H1 D (.lst []))) ∧ ∀ i m H, W i m H →
      (J.stop i H ∧ Qd H) ∨ (J.go i H ∧ ∃ Nx : Hp → Prop, (∀ H', Nx H' → ∃ m', m' < m ∧ W (i + 1) m' H') ∧ ∀ x H', J.yld i H x H' → g x (wipe σ vs) H' fun σ2 H2 => wipe σ2 vs = wipe σ vs ∧ tt σ2 H2 fun b H3 =>
        if b = true then te σ2 H3 fun y H4 => ∃ acc, H4 D = some (.lst acc) ∧ acc.length < sizeLine ∧ Nx (upd H4 D (.lst (acc ++ [y]))) else Nx H3) := by
  refine lc_it wk (fun i H' => Keep D H1 H' ∧ H' D = some (.lst (((zs.take i).filter pr).map v))) ⟨Keep.fresh hD, upd_same⟩ (fun i H' _ ⟨kp, _⟩ => hG H' (kp.same hD)) (fun i x H' H'' hi ⟨kp, h1⟩ hy => ?_) fun H' ⟨kp, h1⟩ => hd H' (kp.same hD) (by rw [h1, List.length_map, List.take_length])
  obtain ⟨e, hx⟩ := hy
  subst e
  obtain ⟨z, hz, rfl⟩ := map_get hx
  have et : zs.take (i + 1) = zs.take i ++ [z] := by rw [List.take_add_one, hz]; rfl
  refine hs i z _ _ _ hz (kp.same hD) (fun hp H3 g => ?_) (fun hp H3 g => ?_)
  · refine ⟨_, g _ _ h1, ?_, (kp.trans (Keep.of_same g)).trans Keep.put, ?_⟩
    · have : ((zs.take i).filter pr).length ≤ zs.length := Nat.le_trans (List.length_filter_le _ _) (by rw [List.length_take]; omega)
      rw [List.length_map, sizeLine_eq]; omega
    · rw [upd_same, et, List.filter_append, List.map_append, List.filter_cons_of_pos hp]; rfl
  · refine ⟨kp.trans (Keep.of_same g), ?_⟩
    rw [g _ _ h1, et, List.filter_append, List.filter_cons_of_neg (by rw [hp]; decide)]
    simp
theorem zip_of {R : Addr → E3 → Prop} : ∀ {as : List Addr} {es : List E3}, Paired R as es → ∃ zs : List (Addr × E3), as = zs.map (·.1) ∧ es = zs.map (·.2) ∧ ∀ z ∈ zs, R z.1 z.2 := by
  intro as es h
  induction h with
  | nil => exact ⟨[], rfl, rfl, fun _ z => nomatch z⟩
  | @cons a b as bs r t ih =>
    obtain ⟨zs, h1, h2, h3⟩ := ih
    refine ⟨(a, b) :: zs, by rw [h1]; rfl, by rw [h2]; rfl, fun z hz => ?_⟩
    rcases List.mem_cons.mp hz with rfl | hz
    · exact r
    · exact h3 z hz
theorem of_zip {R : Addr → E3 → Prop} : ∀ {zs : List (Addr × E3)}, (∀ z ∈ zs, R z.1 z.2) → Paired R (zs.map (·.1)) (zs.map (·.2))
  | [], _ => .nil
  | z :: zs, h => .cons (h z (List.mem_cons_self ..)) (of_zip fun y hy => h y (List.mem_cons_of_mem _ hy))
theorem Plan.flip_size : ∀ p : Plan, p.flip.size = p.size
  | .leaf _ _ _ => rfl
  | .op true l r => by
    show l.flip.size + r.flip.size = l.size + r.size
    rw [Plan.flip_size l, Plan.flip_size r]
  | .op false l r => by
    show r.flip.size + l.flip.size = l.size + r.size
    rw [Plan.flip_size l, Plan.flip_size r, Nat.add_comm]
theorem fromE_size (e : E3) (m : Str) : (fromE e m).2.size = e.2.2.size := by
  unfold fromE
  split
  · rfl
  · exact Plan.flip_size _
/-- does the edge touch the post -/
def tch (m : Str) (e : E3) : Bool := decide (e.1 = m) || decide (e.2.1 = m)
theorem inV_ends (m : Str) (e : E3) : inV (.str m) [.str e.1, .str e.2.1] = tch m e := by
  show inV (.str m) ([e.1, e.2.1].map V.str) = tch m e
  rw [inV_str]
  unfold tch
  rw [Bool.eq_iff_iff]
  simp only [decide_eq_true_eq, List.mem_cons, List.not_mem_nil, or_false, Bool.or_eq_true]
  constructor
  · rintro (h | h)
    · exact .inl h.symm
    · exact .inr h.symm
  · rintro (h | h)
    · exact .inl h.symm
    · exact .inr h.symm
theorem cut2 (x y z : V) : cutV [x, y, z] none (some 2) = [x, y] := rfl
theorem part2 : ¬ (HT.sIx 3 0 none = 0 ∧ HT.sIx 3 3 (some 2) = 3) := by decide
section
variable {P : Program} {w : World} {K : PySem.W.Frag} {mg : Str → Option Value} {base : Heap} {f : Addr} {fd : FuncData}
abbrev sChained : Stmt := top 59
theorem scChained : FnScope ["edges", "post", "here", "one", "near", "other", "far", "rest", "edge"] ["edges", "post"] (defScope sChained) := ⟨rfl, rfl, rfl, by decide +kernel, rfl, by decide +kernel, by decide +kernel⟩
def spChained (n : Nat) : Sp := fun vs H Q _ => ∃ (L : Addr) (m : Str) (es : List E3), vs = [.ref L, .str m] ∧ EdgesAt H L es ∧ es.length ≤ 100 ∧ (∀ e ∈ es, e.2.2.size ≤ n) ∧
  ((es.filter (tch m)).length ≠ 2 → ∀ H', Same H H' → Q .non H') ∧
  (∀ e f L' H', es.filter (tch m) = [e, f] → Same H H' → EdgesAt H' L' (es.filter (fun e => !tch m e) ++ [((fromE e m).1, (fromE f m).1, .op false (fromE e m).2.flip (fromE f m).2)]) → Q (.ref L') H')
theorem ok_chained {t1 : Tok} {n : Nat} (hb : ∀ x ∈ blts, mg x = none) (gR : mg "IN_ROW" = some (.str "+" t1)) (D : Dv P w K mg base CX0 n "flipped" ["tree"] (spFlip n)) (EF : Dv P w K mg base CX0 (n + 1) "edge_from" ["edge", "post"] (spEdgeFrom n)) (F : L2.Fun K "chained" "chained" sChained f fd) : FnOk P w K mg base CX0 (n + 2) f fd ["edges", "post"] (spChained n) := by
  refine F.ok scChained (fun vs H Q E h => ?_) (fun cdv A outer s H vs Q E hr h => ?_)
  · obtain ⟨a, m, p, rfl, _⟩ := h
    rfl
  · obtain ⟨L, m, es, rfl, ⟨as, hL, prs⟩, hlen, hsz, k1, k2⟩ := h
    have nd := scChained.nd
    refine ⟨_, pss_cons (ps_setLc (i := 2) (own := [("edge", 8)]) (g := gName 8) (tt := _) rfl nd rfl rfl (sw_true rfl rfl rfl (by decide +kernel)) (pi_list (pv 0)) (blkOk_by (N := ["edges", "post", "here", "one", "near", "other", "far", "rest", "edge"]) (sc := defScope sChained) (by decide +kernel)) (fun _ _ _ _ _ => pg_name (i := 8) nd rfl (Or.inl rfl))
        (fun _ _ _ _ _ => pts_one (pt_cmpR (show OpR _ _ (rIn K false) from op_in_seq) (pv 1) (pe_slice (show SlR _ (rSlT K) from sl_tup) (pv 8) po_none (po_some pe_int)) rfl)) (fun _ _ _ _ _ => pv 8))
      (pss_cons (ps_if (pt_cmpR op_ne (pe_callB call_len rfl (hb _ (by decide)) (by first | rfl | kernel_rfl) (pa_cons (pv 2) pa_nil)) pe_int (nomark _)) (pss_one (ps_ret pe_non)) pss_nil)
      (pss_cons (ps_asg (pe_lc (own := [("edge", 8)]) (g := gName 8) (tt := tYes) rfl nd (pi_list (pv 2)) (blkOk_by (N := ["edges", "post", "here", "one", "near", "other", "far", "rest", "edge"]) (sc := defScope sChained) (by decide +kernel)) (fun _ _ _ _ _ => pg_name (i := 8) nd rfl (Or.inl rfl)) (fun _ _ _ _ _ => pts_nil)
          (fun _ _ _ _ _ => pe_dv EF hr pass0 (pa_cons (pv 8) (pa_cons (pv 1) pa_nil))))
          (pg_lst rfl (pgs_cons (pg_tup rfl (pgs_cons (pg_name (i := 3) nd rfl (Or.inl rfl)) (pgs_cons (pg_name (i := 4) nd rfl (Or.inl rfl)) pgs_nil))) (pgs_cons (pg_tup rfl (pgs_cons (pg_name (i := 5) nd rfl (Or.inl rfl)) (pgs_cons (pg_name (i := 6) nd rfl (Or.inl rfl)) pgs_nil))) pgs_nil))))
      (pss_cons (ps_setLc (i := 7) (own := [("edge", 8)]) (g := gName 8) (tt := _) rfl nd rfl rfl (sw_true rfl rfl rfl (by decide +kernel)) (pi_list (pv 0)) (blkOk_by (N := ["edges", "post", "here", "one", "near", "other", "far", "rest", "edge"]) (sc := defScope sChained) (by decide +kernel)) (fun _ _ _ _ _ => pg_name (i := 8) nd rfl (Or.inl rfl))
        (fun _ _ _ _ _ => pts_one (pt_cmpR (show OpR _ _ (rIn K true) from op_notIn_seq) (pv 1) (pe_slice (show SlR _ (rSlT K) from sl_tup) (pv 8) po_none (po_some pe_int)) rfl)) (fun _ _ _ _ _ => pv 8))
      (pss_one (ps_ret (pe_lst (StX.pa_star (pv 7) (pa_cons (pe_tup (pa_cons (pv 3) (pa_cons (pv 5) (pa_cons (pe_tup (pa_cons (pe_glob (v := .str "+") rfl gR ⟨_, rfl⟩) (pa_cons (pe_dv D (hr.mono (Nat.le_succ _)) pass0 (pa_cons (pv 4) pa_nil)) (pa_cons (pv 6) pa_nil)))) pa_nil)))) pa_nil)))))))), ?_⟩
    obtain ⟨zs, ea, ee, hzs⟩ := zip_of prs
    subst ea ee
    rw [List.map_map] at hL
    have hzl : zs.length ≤ 100 := by rw [List.length_map] at hlen; exact hlen
    refine ⟨_, rfl, L, rfl, ⟨_, SqL.of hL⟩, fun D1 hD1 => ?_⟩
    refine lc_filt zs (fun z => V.ref z.1) (fun z => tch m z.2) walk_list (by omega) hD1 (fun H' g => SqL.of (g _ _ hL)) (fun i z H' QT QF hz g qT qF => ?_) fun H1 g1 h1 => ?_
    · obtain ⟨t, hz1, hz2⟩ := hzs z (List.mem_of_getElem? hz)
      refine ⟨rfl, _, rfl, _, rfl, _, rfl, z.1, _, rfl, SqT.of (g _ _ hz1), part2, fun p hp => ⟨p, _, rfl, .inr (SqT.of upd_same), rfl, rfl, _, rfl, ?_⟩⟩
      rw [cut2, if_neg Bool.false_ne_true, inV_ends]
      have gp : Same H' (upd H' p (.tup [.str z.2.1, .str z.2.2.1])) := same_new hp
      cases e : tch m z.2 with
      | true => exact iteT ⟨_, rfl, qT e _ gp⟩
      | false => exact iteF (qF e _ gp)
    have ef : (zs.map (·.2)).filter (tch m) = (zs.filter fun z => tch m z.2).map (·.2) := by rw [List.filter_map]; rfl
    have ef2 : (zs.map (·.2)).filter (fun e => !tch m e) = (zs.filter fun z => !tch m z.2).map (·.2) := by rw [List.filter_map]; rfl
    refine ⟨_, rfl, .ref D1, _, rfl, .inl ⟨_, SqL.of h1, rfl⟩, rfl, _, rfl, ?_⟩
    refine ite2 (fun h2 => ?_) (fun h2 => ?_)
    · refine k1 (fun z => ?_) _ g1
      rw [ef, List.length_map] at z
      rw [List.length_map, z] at h2
      exact absurd h2 (by decide)
    have l2 : (zs.filter fun z => tch m z.2).length = 2 := by
      apply Classical.byContradiction
      intro z
      apply h2
      rw [List.length_map]
      rw [decide_eq_false (fun q => z (by injection q with q; omega))]
      rfl
    obtain ⟨z1, z2, ez⟩ : ∃ z1 z2, (zs.filter fun z => tch m z.2) = [z1, z2] := by
      generalize (zs.filter fun z => tch m z.2) = l at l2
      match l, l2 with
      | [z1, z2], _ => exact ⟨z1, z2, rfl⟩
      | [], h => exact absurd h (by decide)
      | [_], h => exact absurd h (by simp)
      | _ :: _ :: _ :: _, h => exact absurd h (by simp)
    rw [ez] at h1
    have m1 : z1 ∈ zs := (List.mem_filter.mp (ez ▸ List.mem_cons_self .. : z1 ∈ zs.filter fun z => tch m z.2)).1
    have m2 : z2 ∈ zs := (List.mem_filter.mp (ez ▸ List.mem_cons_of_mem _ (List.mem_cons_self ..) : z2 ∈ zs.filter fun z => tch m z.2)).1
    refine ⟨_, rfl, D1, rfl, ⟨_, SqL.of h1⟩, fun D2 hD2 => ?_⟩
    refine lc_it (g := gName 8) (tt := tYes) (te := fun σ H Q => tCons (tVar 8) (tCons (tVar 1) tNil) σ H fun vs H1 => spEdgeFrom n vs H1 Q E0) (walk_list (xs := [z1, z2].map fun z => V.ref z.1)) (fun i H' => ∃ bs : List Addr, Keep D2 H1 H' ∧ H' D2 = some (.lst (bs.map V.ref)) ∧ Paired (fun b (z : Addr × E3) => ∃ t, H' b = some (.tup [.str (fromE z.2 m).1, .ref t]) ∧ TreeAt H' (fromE z.2 m).2 t) bs ([z1, z2].take i)) ⟨[], Keep.fresh hD2, upd_same, .nil⟩ (fun i H' _ ⟨bs, kp, _⟩ => SqL.of (kp.same hD2 _ _ h1)) (fun i v H2 H3 hi ⟨bs, kp, hbs, prs2⟩ hy => ?_) fun H2 ⟨bs, kp, hbs, prs2⟩ => ?_
    · obtain ⟨e, hx⟩ := hy
      subst e
      obtain ⟨z, hz, rfl⟩ := map_get hx
      have hzm : z ∈ zs := by
        rcases List.mem_cons.mp (List.mem_of_getElem? hz) with rfl | h
        · exact m1
        · rw [List.mem_singleton.mp h]; exact m2
      have k1' := kp.same hD2
      refine ⟨rfl, ?_⟩
      rw [tYes_if]
      refine ⟨_, rfl, _, rfl, z.1, z.2, m, rfl, (hzs z hzm).stay (Stay.of_same (g1.trans k1')), hsz _ (List.mem_map_of_mem hzm), fun b t H4 g4 hb1 ht1 => ⟨_, g4 _ _ hbs, ?_, bs ++ [b], (kp.trans (Keep.of_same g4)).trans Keep.put, by rw [upd_same, List.map_append]; rfl, ?_⟩⟩
      · have := Paired.length prs2
        rw [List.length_take] at this
        rw [List.length_map, sizeLine_eq]
        show _ < 16777216
        have : ([z1, z2] : List (Addr × E3)).length = 2 := rfl
        omega
      · have nb : ∀ {q : Addr} {o : HO}, (∀ xs, o ≠ .lst xs) → H4 q = some o → q ≠ D2 := fun no e z => by
          rw [z, g4 _ _ hbs] at e
          exact no _ (Option.some.inj e).symm
        have st : Stay H4 (upd H4 D2 (.lst (bs.map V.ref ++ [.ref b]))) := Stay.keep (g4 _ _ hbs) Keep.put
        have e : [z1, z2].take (i + 1) = [z1, z2].take i ++ [z] := by rw [List.take_add_one, hz]; rfl
        rw [e]
        refine Paired.append (Paired.mapP prs2 fun b' z' ⟨t', q1, q2⟩ => ⟨t', st _ _ (fun _ z => nomatch z) (g4 _ _ q1), (q2.stay (Stay.of_same g4)).stay st⟩) (.cons ⟨t, st _ _ (fun _ z => nomatch z) hb1, ht1.stay st⟩ .nil)
    obtain ⟨b1, b2, rfl, ⟨t1', p1, p1t⟩, ⟨t2', p2, p2t⟩⟩ : ∃ b1 b2, bs = [b1, b2] ∧ (∃ t, H2 b1 = some (.tup [.str (fromE z1.2 m).1, .ref t]) ∧ TreeAt H2 (fromE z1.2 m).2 t) ∧ (∃ t, H2 b2 = some (.tup [.str (fromE z2.2 m).1, .ref t]) ∧ TreeAt H2 (fromE z2.2 m).2 t) := by
      cases prs2 with
      | cons q1 r1 =>
        cases r1 with
        | cons q2 r2 =>
          cases r2
          exact ⟨_, _, rfl, q1, q2⟩
    have g2 := kp.same hD2
    refine ⟨D2, _, rfl, SqL.of hbs, rfl, _, _, rfl, b1, _, rfl, SqT.of p1, rfl, _, _, rfl, _, _, rfl, rfl, _, _, rfl, b2, _, rfl, SqT.of p2, rfl, _, _, rfl, _, _, rfl, rfl, rfl, ?_⟩
    have g12 := g1.trans g2
    refine ⟨_, rfl, L, rfl, ⟨_, SqL.of (g12 _ _ hL)⟩, fun D3 hD3 => ?_⟩
    refine lc_filt zs (fun z => V.ref z.1) (fun z => !tch m z.2) walk_list (by omega) hD3 (fun H' g => SqL.of (g _ _ (g12 _ _ hL))) (fun i z H' QT QF hz g qT qF => ?_) fun H3 g3 h3 => ?_
    · obtain ⟨t, hz1, hz2⟩ := hzs z (List.mem_of_getElem? hz)
      refine ⟨rfl, _, rfl, _, rfl, _, rfl, z.1, _, rfl, SqT.of (g _ _ (g12 _ _ hz1)), part2, fun p hp => ⟨p, _, rfl, .inr (SqT.of upd_same), rfl, rfl, _, rfl, ?_⟩⟩
      rw [cut2, if_pos rfl, inV_ends]
      have gp : Same H' (upd H' p (.tup [.str z.2.1, .str z.2.2.1])) := same_new hp
      cases e : tch m z.2 with
      | true => exact iteF (qF (by rw [e]; rfl) _ gp)
      | false => exact iteT ⟨_, rfl, qT (by rw [e]; rfl) _ gp⟩
    have g13 := g12.trans g3
    refine ⟨_, rfl, D3, _, rfl, .inr (SqL.of h3), _, rfl, _, rfl, _, rfl, t1', (fromE z1.2 m).2, rfl, p1t.stay (Stay.of_same g3), ?_, fun u H4 g4 ht4 => ⟨_, rfl, three_le, fun y1 hy1 => ⟨three_le, fun y2 hy2 => ⟨?_, fun l hl => ?_⟩⟩⟩⟩
    · rw [fromE_size]
      exact hsz _ (List.mem_map_of_mem m1)
    · have := List.length_filter_le (fun z : Addr × E3 => !tch m z.2) zs
      rw [List.length_append, List.length_map, sizeLine_eq]
      show _ + 1 ≤ _
      omega
    · have s5 := same_new (o := .tup [.str "+", .ref u, .ref t2']) hy1
      have s6 := same_new (o := .tup [.str (fromE z1.2 m).1, .str (fromE z2.2 m).1, .ref y1]) hy2
      have s7 := same_new (o := .lst (((zs.filter fun z => !tch m z.2).map fun z => V.ref z.1) ++ [V.ref y2])) hl
      have gT := g13.trans (g4.trans (s5.trans (s6.trans s7)))
      refine k2 z1.2 z2.2 l _ (by rw [ef, ez]; rfl) gT ?_
      rw [ef2]
      refine ⟨(zs.filter fun z => !tch m z.2).map (·.1) ++ [y2], ?_, Paired.append (of_zip fun z hz => (hzs z (List.mem_filter.mp hz).1).stay (Stay.of_same gT)) (.cons ⟨y1, s7 _ _ upd_same, u, t2', s7 _ _ (s6 _ _ upd_same), ht4.stay (Stay.of_same (s5.trans (s6.trans s7))), p2t.stay (Stay.of_same (g3.trans (g4.trans (s5.trans (s6.trans s7)))))⟩ .nil)⟩
      rw [upd_same, List.map_append, List.map_map]
      rfl
end
end Wr
-- WrBetw
/-! tree_between -/
namespace Wr
open PySem L2
/-- a block that reads nothing of the blocks around it -/
theorem blkOk_in {N : List Str} {sc sc' scope : Scope} {own : List (Str × Nat)} (h : blkC N sc' scope own = true) (h2 : (scope.names.all fun y => match y.2 with | .free => false | _ => true) = true) : BlkOk N sc scope own := by
  refine blkOk_by ?_
  unfold blkC at h ⊢
  rw [Bool.and_eq_true] at h ⊢
  refine ⟨h.1, ?_⟩
  have h3 := h.2
  rw [List.all_eq_true] at h3 h2 ⊢
  intro y hy
  have a := h3 y hy
  have b := h2 y hy
  revert a b
  cases y.2 <;> intro a b <;> first | exact a | exact absurd b Bool.false_ne_true
section
variable {P : Program} {w : World} {K : PySem.W.Frag} {mg : Str → Option Value} {base : Heap} {f : Addr} {fd : FuncData}
abbrev sBetween : Stmt := top 61
abbrev nBetw : List Str := ["posts", "ties", "one", "other", "edges", "left", "touched", "step", "post", "tie", "edge", "end"]
theorem scBetween : FnScope nBetw ["posts", "ties", "one", "other"] (defScope sBetween) := ⟨rfl, rfl, rfl, by decide +kernel, rfl, by decide +kernel, by decide +kernel⟩
end
end Wr
-- WrNetE
/-! the edges of the program as a net: what merging keeps -/
namespace Wr
open PySem
instance (s : S2) : Decidable (okS s) := by unfold okS; infer_instance
/-- what a plan is worth -/
def vP (p : Plan) : V2 := ⟨p.span.bind fun s => if okS s then some s else none, fun s h => by
  obtain ⟨x, _, h⟩ := Option.bind_eq_some_iff.mp h
  split at h
  · rename_i hx
    cases h
    exact hx
  · cases h⟩
theorem vP_ok {B : Int} {p : Plan} (h : p.ok B) : vP p = ⟨p.span, Plan.span_ok h⟩ := by
  apply Subtype.ext
  show p.span.bind (fun s => if okS s then some s else none) = p.span
  cases e : p.span with
  | none => rfl
  | some s =>
    show (if okS s then some s else none) = some s
    rw [if_pos (Plan.span_ok h s e)]
theorem vP_op {B : Int} {q : Bool} {l r : Plan} (hl : l.ok B) (hr : r.ok B) : vP (.op q l r) = opV q (vP l) (vP r) := by
  rw [vP_ok (p := .op q l r) (B := B) ⟨hl, hr⟩, vP_ok hl, vP_ok hr]
  rfl
theorem vP_flip {B : Int} {p : Plan} (h : p.ok B) : vP p.flip = vP p := by
  rw [vP_ok h, vP_ok (Plan.flip_ok h)]
  exact Subtype.ext (Plan.flip_span p)
def eV (e : E3) : Str × Str × V2 := (e.1, e.2.1, vP e.2.2)
namespace Plan
/-- the ties of a plan -/
def leaves : Plan → List (Str × Int × Int)
  | leaf x lo hi => [(x, lo, hi)]
  | op _ l r => l.leaves ++ r.leaves
theorem flip_leaves : ∀ (p : Plan) t, t ∈ p.flip.leaves ↔ t ∈ p.leaves
  | leaf _ _ _, t => Iff.rfl
  | op true l r, t => by
    show t ∈ l.flip.leaves ++ r.flip.leaves ↔ t ∈ l.leaves ++ r.leaves
    rw [List.mem_append, List.mem_append, flip_leaves l, flip_leaves r]
  | op false l r, t => by
    show t ∈ r.flip.leaves ++ l.flip.leaves ↔ t ∈ l.leaves ++ r.leaves
    rw [List.mem_append, List.mem_append, flip_leaves l, flip_leaves r, or_comm]
end Plan
/-- the net that the edges make -/
structure NetAt (a b : Str) (M : List Str) (v : V2) (B : Int) (N : Nat) (T : List (Str × Int × Int)) (es : List E3) : Prop where
  net : SPN spanAlg a b M (es.map eV) v
  ok : ∀ e ∈ es, e.2.2.ok B
  size : (es.map fun e => e.2.2.size).sum = N
  leaf : ∀ e ∈ es, ∀ t ∈ e.2.2.leaves, t ∈ T
section
variable {a b : Str} {M : List Str} {v : V2} {B : Int} {N : Nat} {T : List (Str × Int × Int)}
theorem NetAt.len {es : List E3} (h : NetAt a b M v B N T es) : es.length ≤ N := by
  rw [← h.size]
  clear h
  induction es with
  | nil => exact Nat.zero_le _
  | cons e es ih =>
    rw [List.length_cons, List.map_cons, List.sum_cons]
    have := e.2.2.size_pos
    omega
theorem mem_sum {es : List E3} {e : E3} (h : e ∈ es) : e.2.2.size ≤ (es.map fun e => e.2.2.size).sum := by
  induction es with
  | nil => cases h
  | cons x es ih =>
    rw [List.map_cons, List.sum_cons]
    rcases List.mem_cons.mp h with rfl | h
    · omega
    · have := ih h; omega
theorem NetAt.sizes {es : List E3} (h : NetAt a b M v B N T es) : ∀ e ∈ es, e.2.2.size ≤ N := fun e he => by
  rw [← h.size]; exact mem_sum he
theorem NetAt.ne {es : List E3} (h : NetAt a b M v B N T es) : es ≠ [] := fun z => h.net.ne (by rw [z]; rfl)
/-- bundled -/
theorem NetAt.bundle {A Bs C : List E3} {e f : E3} {p : Plan} (h : NetAt a b M v B N T (A ++ e :: (Bs ++ f :: C))) (hE : Ends f e.1 e.2.1) (hp : p = f.2.2 ∨ p = f.2.2.flip) :
    NetAt a b M v B N T (A ++ (e.1, e.2.1, .op true e.2.2 p) :: (Bs ++ C)) := by
  have hf : f ∈ A ++ e :: (Bs ++ f :: C) := by simp
  have he : e ∈ A ++ e :: (Bs ++ f :: C) := by simp
  have okp : p.ok B := by
    rcases hp with rfl | rfl
    · exact h.ok f hf
    · exact Plan.flip_ok (h.ok f hf)
  have vp : vP p = vP f.2.2 := by
    rcases hp with rfl | rfl
    · rfl
    · exact vP_flip (h.ok f hf)
  have szp : p.size = f.2.2.size := by
    rcases hp with rfl | rfl
    · rfl
    · exact Plan.flip_size _
  have lfp : ∀ t, t ∈ p.leaves ↔ t ∈ f.2.2.leaves := by
    rcases hp with rfl | rfl
    · intro t; exact Iff.rfl
    · exact Plan.flip_leaves _
  have pm : (A ++ e :: (Bs ++ f :: C)).Perm (e :: f :: (A ++ (Bs ++ C))) := by
    refine List.perm_middle.trans (List.Perm.cons e ?_)
    have : (A ++ (Bs ++ f :: C)).Perm ((A ++ Bs) ++ f :: C) := by rw [List.append_assoc]
    refine this.trans (List.perm_middle.trans ?_)
    rw [List.append_assoc]
  have pm2 : (A ++ (e.1, e.2.1, Plan.op true e.2.2 p) :: (Bs ++ C)).Perm ((e.1, e.2.1, Plan.op true e.2.2 p) :: (A ++ (Bs ++ C))) := List.perm_middle
  refine ⟨?_, fun x hx => ?_, ?_, fun x hx => ?_⟩
  · have m := h.net.merge (eV e) (eV f) ((A ++ (Bs ++ C)).map eV) (pm.map eV) hE e.1 e.2.1 (.inl ⟨rfl, rfl⟩)
    refine .perm m (List.Perm.refl _) ?_
    have e1 : (((e.1, e.2.1, Plan.op true e.2.2 p) :: (A ++ (Bs ++ C))).map eV) = (e.1, e.2.1, spanAlg.par (eV e).2.2 (eV f).2.2) :: (A ++ (Bs ++ C)).map eV := by
      rw [List.map_cons]
      congr 1
      show (e.1, e.2.1, vP (.op true e.2.2 p)) = (e.1, e.2.1, opV true (vP e.2.2) (vP f.2.2))
      rw [vP_op (h.ok e he) okp, vp]
    rw [← e1]
    exact (pm2.map eV).symm
  · rcases List.mem_cons.mp (pm2.mem_iff.mp hx) with rfl | hx
    · exact ⟨h.ok e he, okp⟩
    · exact h.ok x (pm.mem_iff.mpr (List.mem_cons_of_mem _ (List.mem_cons_of_mem _ hx)))
  · have e1 := (pm.map fun e => e.2.2.size).sum_nat
    have e2 := (pm2.map fun e => e.2.2.size).sum_nat
    rw [h.size] at e1
    rw [e2, e1]
    simp only [List.map_cons, List.sum_cons]
    have : (Plan.op true e.2.2 p).size = e.2.2.size + p.size := rfl
    omega
  · rcases List.mem_cons.mp (pm2.mem_iff.mp hx) with rfl | hx
    · intro t ht
      rcases List.mem_append.mp (show t ∈ e.2.2.leaves ++ p.leaves from ht) with ht | ht
      · exact h.leaf e he t ht
      · exact h.leaf f hf t ((lfp t).mp ht)
    · exact h.leaf x (pm.mem_iff.mpr (List.mem_cons_of_mem _ (List.mem_cons_of_mem _ hx)))
theorem from_ends {e : E3} {m : Str} (h : tch m e = true) : (e.1 = m ∧ e.2.1 = (fromE e m).1) ∨ (e.1 = (fromE e m).1 ∧ e.2.1 = m) := by
  unfold tch at h
  unfold fromE
  rw [Bool.or_eq_true, decide_eq_true_eq, decide_eq_true_eq] at h
  by_cases z : e.1 = m
  · rw [if_pos z]; exact .inl ⟨z, rfl⟩
  · rw [if_neg z]; exact .inr ⟨rfl, h.resolve_left z⟩
theorem from_ok {e : E3} {m : Str} (h : e.2.2.ok B) : (fromE e m).2.ok B := by
  unfold fromE
  split
  · exact h
  · exact Plan.flip_ok h
theorem from_v {e : E3} {m : Str} (h : e.2.2.ok B) : vP (fromE e m).2 = vP e.2.2 := by
  unfold fromE
  split
  · rfl
  · exact vP_flip h
theorem from_leaves {e : E3} {m : Str} : ∀ t, t ∈ (fromE e m).2.leaves ↔ t ∈ e.2.2.leaves := by
  unfold fromE
  split
  · exact fun t => Iff.rfl
  · exact Plan.flip_leaves _
/-- no two edges between the same posts -/
def NoTwo (es : List E3) : Prop := es.Pairwise fun e f => ¬ Ends f e.1 e.2.1
theorem noTwo_of {es : List E3} (h : ∀ (i j : Nat) (e f : E3), i < j → es[i]? = some e → es[j]? = some f → ¬ Ends f e.1 e.2.1) : NoTwo es :=
  List.pairwise_iff_getElem.mpr fun i j hi hj hij => h i j _ _ hij (List.getElem?_eq_getElem hi) (List.getElem?_eq_getElem hj)
theorem filter_two {es : List E3} {m : Str} {e f : E3} (h : es.filter (tch m) = [e, f]) : es.Perm (e :: f :: es.filter fun e => !tch m e) := by
  have := List.filter_append_perm (tch m) es
  rw [h] at this
  exact this.symm
/-- chained -/
theorem NetAt.chainE {es : List E3} {m : Str} {e f : E3} (h : NetAt a b M v B N T es) (hm : m ∈ M) (hf : es.filter (tch m) = [e, f]) (no : NoTwo es) :
    ∃ M', M.Perm (m :: M') ∧ NetAt a b M' v B N T (es.filter (fun e => !tch m e) ++ [((fromE e m).1, (fromE f m).1, .op false (fromE e m).2.flip (fromE f m).2)]) := by
  have pm := filter_two hf
  have he : e ∈ es := pm.mem_iff.mpr (by simp)
  have hf' : f ∈ es := pm.mem_iff.mpr (by simp)
  have te : tch m e = true := (List.mem_filter.mp (hf ▸ (by simp : e ∈ [e, f]) : e ∈ es.filter (tch m))).2
  have tf : tch m f = true := (List.mem_filter.mp (hf ▸ (by simp : f ∈ [e, f]) : f ∈ es.filter (tch m))).2
  have ee := from_ends te
  have ef := from_ends tf
  have oe := h.ok e he
  have of := h.ok f hf'
  obtain ⟨s1, s2, rfl⟩ := List.append_of_mem hm
  have pM : (s1 ++ m :: s2).Perm (m :: (s1 ++ s2)) := List.perm_middle
  refine ⟨s1 ++ s2, pM, ?_⟩
  have ne : (fromE e m).1 ≠ (fromE f m).1 := fun z => by
    have sub : List.Sublist [e, f] es := hf ▸ List.filter_sublist
    have := (List.Pairwise.sublist sub no)
    rw [List.pairwise_cons] at this
    refine this.1 f (List.mem_singleton.mpr rfl) ?_
    rcases ee with ⟨a1, a2⟩ | ⟨a1, a2⟩ <;> rcases ef with ⟨b1, b2⟩ | ⟨b1, b2⟩
    · exact .inl ⟨b1.trans a1.symm, b2.trans (z.symm.trans a2.symm)⟩
    · exact .inr ⟨b1.trans (z.symm.trans a2.symm), b2.trans a1.symm⟩
    · exact .inr ⟨b1.trans a2.symm, b2.trans (z.symm.trans a1.symm)⟩
    · exact .inl ⟨b1.trans (z.symm.trans a1.symm), b2.trans a2.symm⟩
  have hR : ∀ g ∈ (es.filter fun e => !tch m e).map eV, ¬ Touches g m := fun g hg ht => by
    obtain ⟨x, hx, rfl⟩ := List.mem_map.mp hg
    have hx2 := (List.mem_filter.mp hx).2
    have : tch m x = true := by
      unfold tch
      rcases ht with ht | ht
      · have ht : x.1 = m := ht
        rw [decide_eq_true ht]; rfl
      · have ht : x.2.1 = m := ht
        rw [decide_eq_true ht, Bool.or_true]
    rw [this] at hx2
    exact absurd hx2 (by decide)
  have ap : (es.filter (fun e => !tch m e) ++ [((fromE e m).1, (fromE f m).1, Plan.op false (fromE e m).2.flip (fromE f m).2)]).Perm (((fromE e m).1, (fromE f m).1, Plan.op false (fromE e m).2.flip (fromE f m).2) :: es.filter (fun e => !tch m e)) := List.perm_append_comm
  refine ⟨?_, fun x hx => ?_, ?_, fun x hx => ?_⟩
  · have c := h.net.chain m (s1 ++ s2) (eV e) (eV f) ((es.filter fun e => !tch m e).map eV) pM (pm.map eV) (fromE e m).1 (fromE f m).1 ee ef ne hR (fromE e m).1 (fromE f m).1 (.inl ⟨rfl, rfl⟩)
    refine .perm c (List.Perm.refl _) ?_
    refine List.Perm.trans ?_ (ap.map eV).symm
    rw [List.map_cons]
    have e1 : eV ((fromE e m).1, (fromE f m).1, Plan.op false (fromE e m).2.flip (fromE f m).2) = ((fromE e m).1, (fromE f m).1, spanAlg.ser (eV e).2.2 (eV f).2.2) := by
      show ((fromE e m).1, (fromE f m).1, vP (Plan.op false (fromE e m).2.flip (fromE f m).2)) = ((fromE e m).1, (fromE f m).1, opV false (vP e.2.2) (vP f.2.2))
      rw [vP_op (Plan.flip_ok (from_ok oe)) (from_ok of), vP_flip (from_ok oe), from_v oe, from_v of]
    rw [e1]
  · rcases List.mem_cons.mp (ap.mem_iff.mp hx) with rfl | hx
    · exact ⟨Plan.flip_ok (from_ok oe), from_ok of⟩
    · exact h.ok x (pm.mem_iff.mpr (List.mem_cons_of_mem _ (List.mem_cons_of_mem _ hx)))
  · have e1 := (pm.map fun e => e.2.2.size).sum_nat
    have e2 := (ap.map fun e => e.2.2.size).sum_nat
    rw [h.size] at e1
    rw [e2, e1]
    simp only [List.map_cons, List.sum_cons]
    have z1 : (Plan.op false (fromE e m).2.flip (fromE f m).2).size = (fromE e m).2.flip.size + (fromE f m).2.size := rfl
    have z2 := Plan.flip_size (fromE e m).2
    have z3 := fromE_size e m
    have z4 := fromE_size f m
    omega
  · rcases List.mem_cons.mp (ap.mem_iff.mp hx) with rfl | hx
    · intro t ht
      rcases List.mem_append.mp (show t ∈ (fromE e m).2.flip.leaves ++ (fromE f m).2.leaves from ht) with ht | ht
      · exact h.leaf e he t ((from_leaves t).mp ((Plan.flip_leaves _ t).mp ht))
      · exact h.leaf f hf' t ((from_leaves t).mp ht)
    · exact h.leaf x (pm.mem_iff.mpr (List.mem_cons_of_mem _ (List.mem_cons_of_mem _ hx)))
/-- nothing more to do: one edge -/
theorem NetAt.stuck {es : List E3} (h : NetAt a b M v B N T es) (no : NoTwo es) (hc : ∀ m ∈ M, (es.filter (tch m)).length ≠ 2) : ∃ e, es = [e] ∧ M = [] ∧ v = vP e.2.2 ∧ Ends e a b := by
  rcases h.net.progress with ⟨e, he⟩ | ⟨e, f, R, p, q⟩ | ⟨m, hm, e, f, R, p, t1, t2, t3⟩
  · obtain ⟨e0, rfl⟩ : ∃ e0, es = [e0] := by
      match es, he with
      | [x], _ => exact ⟨x, rfl⟩
    obtain ⟨r1, r2, r3⟩ := h.net.last (eV e0) rfl
    exact ⟨e0, rfl, r1, r2, r3⟩
  · exfalso
    have n2 : (es.map eV).Pairwise fun e f => ¬ Ends f e.1 e.2.1 := List.pairwise_map.mpr no
    have n3 := (List.Perm.pairwise_iff (R := fun e f : Str × Str × V2 => ¬ Ends f e.1 e.2.1) (fun {x y} hxy z => hxy (by
      rcases z with ⟨z1, z2⟩ | ⟨z1, z2⟩
      · exact .inl ⟨z1.symm, z2.symm⟩
      · exact .inr ⟨z2.symm, z1.symm⟩)) p).mp n2
    rw [List.pairwise_cons] at n3
    exact n3.1 f (by simp) q
  · exfalso
    refine hc m hm ?_
    have key : ∀ x : Str × Str × V2, (decide (x.1 = m) || decide (x.2.1 = m)) = true ↔ Touches x m := fun x => by
      rw [Bool.or_eq_true, decide_eq_true_eq, decide_eq_true_eq]
    have e1 : (es.filter (tch m)).length = ((es.map eV).filter fun x => decide (x.1 = m) || decide (x.2.1 = m)).length := by
      rw [List.filter_map, List.length_map]
      rfl
    have e2 := (p.filter fun x => decide (x.1 = m) || decide (x.2.1 = m)).length_eq
    rw [e1, e2, List.filter_cons_of_pos (p := fun x : Str × Str × V2 => decide (x.1 = m) || decide (x.2.1 = m)) ((key e).mpr t1), List.filter_cons_of_pos (p := fun x : Str × Str × V2 => decide (x.1 = m) || decide (x.2.1 = m)) ((key f).mpr t2)]
    have e3 : R.filter (fun x => decide (x.1 = m) || decide (x.2.1 = m)) = [] := List.filter_eq_nil_iff.mpr fun g hg z => t3 g hg ((key g).mp z)
    rw [e3]
    rfl
end
end Wr
-- WrFlat
/-! [end for edge in edges for end in edge[:2]] -/
namespace Wr
open PySem L2
def flatE (es : List E3) : List Str := es.flatMap fun e => [e.1, e.2.1]
theorem mem_flatE {es : List E3} {m : Str} : m ∈ flatE es ↔ ∃ e ∈ es, tch m e = true := by
  unfold flatE
  rw [List.mem_flatMap]
  constructor
  · rintro ⟨e, he, hm⟩
    refine ⟨e, he, ?_⟩
    unfold tch
    rcases List.mem_cons.mp hm with rfl | hm
    · rw [decide_eq_true rfl]; rfl
    · rw [List.mem_singleton.mp hm, decide_eq_true rfl, Bool.or_true]
  · rintro ⟨e, he, hm⟩
    refine ⟨e, he, ?_⟩
    unfold tch at hm
    rw [Bool.or_eq_true, decide_eq_true_eq, decide_eq_true_eq] at hm
    rcases hm with h | h
    · rw [← h]; simp
    · rw [← h]; simp
def tEnds (K : PySem.W.Frag) (i : Nat) : TE := tLc2 (iList K (tVar i)) (gName 10) tYes (iTup K (tSl (rSlT K) (tVar 10) tNoPart (tPart (tC (.int 2))))) (gName 11) tYes (tVar 11) (([("edge", 10), ("end", 11)] : List (Str × Nat)).map (·.2)) [11]
theorem flat_len : ∀ es : List E3, (flatE es).length = 2 * es.length
  | [] => rfl
  | e :: es => by
    show ([e.1, e.2.1] ++ flatE es).length = _
    rw [List.length_append, flat_len es, List.length_cons]
    show 2 + 2 * es.length = 2 * (es.length + 1)
    omega
theorem ends_read {K : PySem.W.Frag} {i : Nat} {s0 s1 s2 s3 s4 s5 s6 s7 s8 s9 s10 s11 : Option V} {H : Hp} {L : Addr} {es : List E3} {Q : VK}
    (hi : ([s0, s1, s2, s3, s4, s5, s6, s7, s8, s9, s10, s11] : L2.St)[i]? = some (some (.ref L))) (hL : EdgesAt H L es) (few : es.length ≤ 100) (k : ∀ D H', Same H H' → H' D = some (.lst ((flatE es).map V.str)) → Q (.ref D) H') :
    tEnds K i [s0, s1, s2, s3, s4, s5, s6, s7, s8, s9, s10, s11] H Q := by
  obtain ⟨as, ha, prs⟩ := hL
  have la : as.length = es.length := Paired.length prs
  refine ⟨.ref L, hi, L, rfl, ⟨_, SqL.of ha⟩, fun D hD => ?_⟩
  refine ⟨fun i m H' => m = es.length - i ∧ i ≤ es.length ∧ Keep D H H' ∧ H' D = some (.lst ((flatE (es.take i)).map V.str)), ⟨es.length, rfl, Nat.zero_le _, Keep.fresh hD, upd_same⟩, ?_⟩
  rintro i m H' ⟨rfl, hi, kp, hd⟩
  have g := kp.same hD
  by_cases hlt : i < es.length
  · have hai : (as.map V.ref)[i]? = some (.ref (as[i]'(by omega))) := by rw [List.getElem?_map, List.getElem?_eq_getElem (by omega)]; rfl
    refine .inr ⟨⟨as.map V.ref, _, SqL.of (g _ _ ha), hai⟩, fun H2 => Keep D H H2 ∧ H2 D = some (.lst ((flatE (es.take (i + 1))).map V.str)), fun H2 ⟨k1, k2⟩ => ⟨es.length - (i + 1), by omega, rfl, hlt, k1, k2⟩, fun x H2 hy => ?_⟩
    obtain ⟨e, hy⟩ := hy
    subst e
    have hx := hy _ (SqL.of (g _ _ ha))
    rw [hai] at hx
    obtain rfl := (Option.some.inj hx).symm
    obtain ⟨e, he, t, h1, h2⟩ := paired_get prs (List.getElem?_eq_getElem (show i < as.length by omega))
    have et : flatE (es.take (i + 1)) = flatE (es.take i) ++ [e.1, e.2.1] := by
      rw [List.take_add_one, he]
      unfold flatE
      rw [List.flatMap_append]
      simp
    refine ⟨rfl, ?_⟩
    rw [tYes_if]
    refine ⟨_, rfl, _, rfl, as[i]'(by omega), _, rfl, SqT.of (g _ _ h1), part2, fun p hp => ⟨p, rfl, ⟨_, SqT.of upd_same⟩, ?_⟩⟩
    rw [cut2]
    have gp : Same H2 (upd H2 p (.tup [.str e.1, .str e.2.1])) := same_new hp
    have hpD : p ≠ D := Ne.symm (ne_of_none hd hp)
    refine ⟨fun j k' H4 => k' = 2 - j ∧ j ≤ 2 ∧ Keep D H H4 ∧ H4 p = some (.tup [.str e.1, .str e.2.1]) ∧ H4 D = some (.lst ((flatE (es.take i) ++ [e.1, e.2.1].take j).map V.str)), ⟨2, rfl, Nat.zero_le _, kp.trans (Keep.of_same gp), upd_same, by rw [gp _ _ hd, List.take_zero, List.append_nil]⟩, ?_⟩
    rintro j k' H4 ⟨rfl, hj, kp4, hp4, hd4⟩
    by_cases hlt2 : j < 2
    · obtain ⟨z, hz⟩ : ∃ z, [e.1, e.2.1][j]? = some z := ⟨_, List.getElem?_eq_getElem hlt2⟩
      have hzv : ([.str e.1, .str e.2.1] : List V)[j]? = some (.str z) := by
        rw [show ([.str e.1, .str e.2.1] : List V) = [e.1, e.2.1].map V.str from rfl, List.getElem?_map, hz]; rfl
      refine .inr ⟨⟨_, _, SqT.of hp4, hzv⟩, fun H5 => Keep D H H5 ∧ H5 p = some (.tup [.str e.1, .str e.2.1]) ∧ H5 D = some (.lst ((flatE (es.take i) ++ [e.1, e.2.1].take (j + 1)).map V.str)), fun H5 ⟨q1, q2, q3⟩ => ⟨2 - (j + 1), by omega, rfl, hlt2, q1, q2, q3⟩, fun x H5 hy5 => ?_⟩
      obtain ⟨e5, hy5⟩ := hy5
      subst e5
      have hx5 := hy5 _ (SqT.of hp4)
      rw [hzv] at hx5
      obtain rfl := (Option.some.inj hx5).symm
      refine ⟨rfl, ?_⟩
      rw [tYes_if]
      refine ⟨_, rfl, _, hd4, ?_, kp4.trans Keep.put, by rw [upd_ne hpD]; exact hp4, ?_⟩
      · have z1 := flat_len (es.take i)
        have z2 : (es.take i).length ≤ es.length := by rw [List.length_take]; omega
        have z3 : ([e.1, e.2.1].take j).length ≤ 2 := by rw [List.length_take]; exact Nat.min_le_right _ _
        rw [List.length_map, List.length_append, sizeLine_eq]
        omega
      · rw [upd_same, List.take_add_one, hz, ← List.append_assoc]
        simp
    · have : j = 2 := by omega
      subst this
      refine .inl ⟨⟨_, SqT.of hp4, Nat.le_refl _⟩, kp4, ?_⟩
      rw [hd4, et]
      rfl
  · have : i = es.length := by omega
    subst this
    refine .inl ⟨⟨_, SqL.of (g _ _ ha), by rw [List.length_map]; omega⟩, k D H' g ?_⟩
    rw [hd, List.take_length]
end Wr
-- WrLeft
namespace Wr
open PySem L2
section
variable {x y : Str} {M M' : List Str} {v : V2} {B : Int} {N : Nat} {T : List (Str × Int × Int)} {es es' : List E3}
theorem NetAt.flat (h : NetAt x y M v B N T es) {z : Str} : z ∈ flatE es ↔ z ∈ x :: y :: M := by
  rw [mem_flatE]
  constructor
  · rintro ⟨e, he, ht⟩
    obtain ⟨_, h1, h2⟩ := h.net.ends (eV e) (List.mem_map_of_mem he)
    unfold tch at ht
    rw [Bool.or_eq_true, decide_eq_true_eq, decide_eq_true_eq] at ht
    rcases ht with ht | ht
    · exact ht ▸ h1
    · exact ht ▸ h2
  · intro hz
    obtain ⟨e, he, ht⟩ := h.net.touch z hz
    obtain ⟨e', he', rfl⟩ := List.mem_map.mp he
    refine ⟨e', he', ?_⟩
    unfold tch
    rcases ht with ht | ht
    · have ht : e'.1 = z := ht
      rw [decide_eq_true ht]; rfl
    · have ht : e'.2.1 = z := ht
      rw [decide_eq_true ht, Bool.or_true]
theorem left_perm (h : NetAt x y M v B N T es) (h' : NetAt x y M' v B N T es') (sub : ∀ z ∈ M', z ∈ M) {lf : List Str} (p : lf.Perm M) : (lf.filter fun z => decide (z ∈ flatE es')).Perm M' := by
  have n1 := h.net.nodup
  have n2 := h'.net.nodup
  rw [List.nodup_cons, List.nodup_cons] at n1 n2
  have nl : lf.Nodup := p.nodup_iff.mpr n1.2.2
  refine (List.perm_ext_iff_of_nodup (nl.filter _) n2.2.2).mpr fun z => ?_
  rw [List.mem_filter, decide_eq_true_eq, h'.flat, p.mem_iff]
  constructor
  · rintro ⟨z1, z2⟩
    rcases List.mem_cons.mp z2 with rfl | z2
    · exact absurd (List.mem_cons_of_mem _ z1) n1.1
    rcases List.mem_cons.mp z2 with rfl | z2
    · exact absurd z1 n1.2.1
    · exact z2
  · intro hz
    exact ⟨sub z hz, List.mem_cons_of_mem _ (List.mem_cons_of_mem _ hz)⟩
theorem left_start (h : NetAt x y M v B N T es) {ps : List Str} (p : ps.Perm (x :: y :: M)) : (ps.filter fun z => !decide (z ∈ [x, y])).Perm M := by
  have n1 := h.net.nodup
  have np : ps.Nodup := p.nodup_iff.mpr n1
  rw [List.nodup_cons, List.nodup_cons] at n1
  refine (List.perm_ext_iff_of_nodup (np.filter _) n1.2.2).mpr fun z => ?_
  rw [List.mem_filter, p.mem_iff]
  simp only [Bool.not_eq_true', decide_eq_false_iff_not, List.mem_cons, List.not_mem_nil, or_false, not_or]
  constructor
  · rintro ⟨z1, z2, z3⟩
    rcases z1 with h | h | h
    · exact absurd h z2
    · exact absurd h z3
    · exact h
  · intro hz
    refine ⟨.inr (.inr hz), fun e => ?_, fun e => ?_⟩
    · exact n1.1 (e ▸ List.mem_cons_of_mem _ hz)
    · exact n1.2.1 (e ▸ hz)
/-- the loop of tree_between: a step to look at, or nothing more to do -/
def LoopAt (H : Hp) (a b : Addr) (x y : Str) (D3 : Addr) (v : V2) (B : Int) (n : Nat) (T : List (Str × Int × Int)) (μ : Nat) (σ : L2.St) (H' : Hp) : Prop :=
  Same H H' ∧ ∃ (Lf : Addr) (lf : List Str) (v4 v7 v8 v9 v10 v11 : Option V) (M : List Str), σ = [some (.ref a), some (.ref b), some (.str x), some (.str y), v4, some (.ref Lf), some (.ref D3), v7, v8, v9, v10, v11] ∧ H' Lf = some (.lst (lf.map V.str)) ∧ lf.length ≤ 1000 ∧ lf.Perm M ∧
    ((∃ (L : Addr) (es : List E3), v7 = some (.ref L) ∧ EdgesAt H' L es ∧ NetAt x y M v B n T es ∧ μ = es.length + 1) ∨
     (∃ (L : Addr) (es : List E3), v7 = some .non ∧ v4 = some (.ref L) ∧ EdgesAt H' L es ∧ NetAt x y M v B n T es ∧ NoTwo es ∧ (∀ m ∈ M, (es.filter (tch m)).length ≠ 2) ∧ μ = 0))
end
def tLeft (K : PySem.W.Frag) : TE := tLc (iList K (tVar 5)) (gName 8) (tOr (tTest (tOp (fun x y H Q => y = V.non ∧ Q (V.bl (decide (x = V.non))) H) (tVar 7) (tC V.non))) (tTest (tOp (rIn K false) (tVar 8) (tEnds K 7)))) (tVar 8) (([("post", 8)] : List (Str × Nat)).map (·.2))
theorem left_read {K : PySem.W.Frag} {s0 s1 s2 s3 s4 s6 s8 s9 s10 s11 : Option V} {H : Hp} {Lf : Addr} {lf lf' : List Str} {v7 : V} {Q : VK}
    (hLf : H Lf = some (.lst (lf.map V.str))) (few : lf.length ≤ 1000)
    (hv : (v7 = .non ∧ lf' = lf) ∨ ∃ L es, v7 = .ref L ∧ EdgesAt H L es ∧ es.length ≤ 100 ∧ lf' = lf.filter fun z => decide (z ∈ flatE es))
    (k : ∀ D H', Same H H' → H' D = some (.lst (lf'.map V.str)) → Q (.ref D) H') :
    tLeft K [s0, s1, s2, s3, s4, some (.ref Lf), s6, some v7, s8, s9, s10, s11] H Q := by
  refine ⟨.ref Lf, rfl, Lf, rfl, ⟨_, SqL.of hLf⟩, fun D hD => ?_⟩
  rcases hv with ⟨rfl, rfl⟩ | ⟨L, es, rfl, hL, hes, rfl⟩
  · refine lc_filt lf' V.str (fun _ => true) walk_list (by omega) hD (fun H' g => SqL.of (g _ _ hLf)) (fun i z H' QT QF hz g qT qF => ?_) fun H' g h => k D H' g (by rw [h, List.filter_eq_self.mpr (fun _ _ => rfl)])
    exact ⟨rfl, _, rfl, rfl, _, rfl, iteT ⟨_, rfl, qT rfl _ (Same.refl _)⟩⟩
  · refine lc_filt lf V.str (fun z => decide (z ∈ flatE es)) walk_list (by omega) hD (fun H' g => SqL.of (g _ _ hLf)) (fun i z H' QT QF hz g qT qF => ?_) fun H' g h => k D H' g h
    refine ⟨rfl, _, rfl, rfl, _, rfl, iteF ⟨_, rfl, ?_⟩⟩
    refine ends_read (i := 7) rfl (hL.same g) hes fun D5 H5 g5 h5 => ⟨D5, _, rfl, .inl (SqL.of h5), rfl, flat_strs _, _, rfl, ?_⟩
    rw [if_neg Bool.false_ne_true, inV_str]
    cases e : decide (z ∈ flatE es) with
    | true => exact iteT ⟨_, rfl, qT e _ g5⟩
    | false => exact iteF (qF e _ g5)
end Wr
-- WrBetw2
set_option maxHeartbeats 8000000
namespace Wr
open PySem L2
section
variable {P : Program} {w : World} {K : PySem.W.Frag} {mg : Str → Option Value} {base : Heap} {f : Addr} {fd : FuncData}
/-- a tie as an edge -/
def rowE (r : T5) : E3 := (r.one, r.other, .leaf r.x r.lo r.hi)
def spBetween (N : Nat) : Sp := fun vs H Q _ => ∃ (a b : Addr) (ps : List Str) (rows : List T5) (x y : Str) (M : List Str) (v : V2) (B : Int) (T : List (Str × Int × Int)), vs = [.ref a, .ref b, .str x, .str y] ∧ TextsAt H a ps ∧ TiesAt H b rows ∧ ps.Perm (x :: y :: M) ∧ ps.length ≤ 100 ∧ N ≤ 100 ∧
  NetAt x y M v B N T (rows.map rowE) ∧ ∀ t p H', Same H H' → TreeAt H' p t → p.ok B → vP p = v → p.size = N → (∀ l ∈ p.leaves, l ∈ T) → Q (.ref t) H'
theorem ok_between {n : Nat} (hb : ∀ x ∈ blts, mg x = none) (D : Dv P w K mg base CX0 n "flipped" ["tree"] (spFlip n)) (BU : Dv P w K mg base CX0 (n + 1) "bundled" ["edges"] (spBundled n)) (CH : Dv P w K mg base CX0 (n + 2) "chained" ["edges", "post"] (spChained n))
    (F : L2.Fun K "tree_between" "tree_between" sBetween f fd) : FnOk P w K mg base CX0 (n + 3) f fd ["posts", "ties", "one", "other"] (spBetween n) := by
  refine F.ok scBetween (fun vs H Q E h => ?_) (fun cdv A outer s H vs Q E hr h => ?_)
  · obtain ⟨a, b, ps, rows, x, y, M, v, B, T, rfl, _⟩ := h
    rfl
  · obtain ⟨a, b, ps, rows, x, y, M, v, B, T, rfl, ha, ⟨as, hT, prs⟩, pps, lps, hn, net, k⟩ := h
    have nd := scBetween.nd
    refine ⟨_, pss_cons (ps_setLc (i := 4) (own := [("tie", 9)]) (g := gName 9) (tt := tYes) rfl nd rfl rfl (sw_true rfl rfl rfl (by decide +kernel)) (pi_tup (pv 1)) (blkOk_by (N := nBetw) (sc := defScope sBetween) (by decide +kernel)) (fun _ _ _ _ _ => pg_name (i := 9) nd rfl (Or.inl rfl)) (fun _ _ _ _ _ => pts_nil)
        (fun _ _ _ _ _ => pe_tup (pa_cons (pe_ix (show IxR _ (rIxT K) from ix_tup) (pv 9) pe_int (fun _ _ => rfl)) (pa_cons (pe_ix (show IxR _ (rIxT K) from ix_tup) (pv 9) pe_int (fun _ _ => rfl)) (pa_cons (pe_tup (pa_cons (pe_ix (show IxR _ (rIxT K) from ix_tup) (pv 9) pe_int (fun _ _ => rfl)) pa_nil)) pa_nil)))))
      (pss_cons (ps_setLc (i := 5) (own := [("post", 8)]) (g := gName 8) (tt := _) rfl nd rfl rfl (sw_true rfl rfl rfl (by decide +kernel)) (pi_tup (pv 0)) (blkOk_by (N := nBetw) (sc := defScope sBetween) (by decide +kernel)) (fun _ _ _ _ _ => pg_name (i := 8) nd rfl (Or.inl rfl))
        (fun _ _ _ _ _ => pts_one (pt_cmpR (show OpR _ _ (rIn K true) from op_notIn_seq) (pv 8) (pe_tup (pa_cons (pv 2) (pa_cons (pv 3) pa_nil))) rfl)) (fun _ _ _ _ _ => pv 8))
      (pss_cons (ps_set (i := 6) nd rfl (Or.inr rfl) (pe_lc2 (own := [("edge", 10), ("end", 11)]) (vs1 := [11]) (g := gName 10) (g1 := gName 11) (tt := tYes) (tt1 := tYes) rfl nd (pi_list (pv 4)) (blkOk_by (N := nBetw) (sc := defScope sBetween) (by decide +kernel)) (by decide)
        (fun _ _ _ _ _ => pg_name (i := 10) nd rfl (Or.inl rfl)) (fun _ _ _ _ _ => pts_nil) (fun _ _ _ _ _ => (show PI _ _ _ (iTup K _) from pi_tup (pe_slice (show SlR _ (rSlT K) from sl_tup) (pv 10) po_none (po_some pe_int)))) (fun _ _ _ _ _ => pg_name (i := 11) nd rfl (Or.inl rfl)) (fun _ _ _ _ _ => pts_nil) (fun _ _ _ _ _ => pv 11)))
      (pss_cons (ps_if (pt_not (pt_val (pe_callB (cr_all rfl) rfl (hb _ (by decide)) (by first | rfl | kernel_rfl) (pa_cons
          (pe_lc (own := [("post", 8)]) (g := gName 8) (tt := tYes) rfl nd (pi_tup (pv 0)) (blkOk_by (N := nBetw) (sc := defScope sBetween) (by decide +kernel)) (fun _ _ _ _ _ => pg_name (i := 8) nd rfl (Or.inl rfl)) (fun _ _ _ _ _ => pts_nil)
            (fun _ _ _ _ _ => pe_cmpR (show OpR _ _ (rIn K false) from op_in_seq) (pv 8) (pv 6) rfl)) pa_nil)))) pss_never pss_nil)
      (pss_cons (ps_set (i := 7) nd rfl (Or.inr rfl) (pv 4))
      (pss_cons (ps_while PassesOwn.never (pt_cmpR op_notN (pv 7) pe_non (nomark _))
        (pss_cons (ps_asg (pe_tup (pa_cons (pv 7) (pa_cons (pe_dv BU (hr.mono (Nat.le_succ _)) pass0 (pa_cons (pv 7) pa_nil)) pa_nil))) (pg_tup rfl (pgs_cons (pg_name (i := 4) nd rfl (Or.inl rfl)) (pgs_cons (pg_name (i := 7) nd rfl (Or.inr rfl)) pgs_nil))))
        (pss_cons (ps_for PassesOwn.never rfl (pi_list (pv 5)) (pg_name (i := 8) nd rfl (Or.inl rfl)) (pss_one (ps_if (pt_cmpR op_isN (pv 7) pe_non (nomark _)) (pss_one (ps_set (i := 7) nd rfl (Or.inr rfl) (pe_dv CH hr pass0 (pa_cons (pv 4) (pa_cons (pv 8) pa_nil))))) pss_nil)))
        (pss_one (ps_setLc (i := 5) (own := [("post", 8)]) (g := gName 8) (tt := _) rfl nd rfl rfl (sw_true rfl rfl rfl (by decide +kernel)) (pi_list (pv 5)) (blkOk_by (N := nBetw) (sc := defScope sBetween) (by decide +kernel)) (fun _ _ _ _ _ => pg_name (i := 8) nd rfl (Or.inl rfl))
          (fun _ _ _ _ _ => pts_one (PW.pt (pw_or (pt_cmpR op_isN (pv 7) pe_non (nomark _)) (pw_or1 (pt_cmpR (show OpR _ _ (rIn K false) from op_in_seq) (pv 8)
            (pe_lc2 (own := [("edge", 10), ("end", 11)]) (vs1 := [11]) (g := gName 10) (g1 := gName 11) (tt := tYes) (tt1 := tYes) (wi := iList K (tVar 7)) rfl nd (pi_list (pv 7)) (blkOk_in (N := nBetw) (sc' := defScope sBetween) (by decide +kernel) (by decide +kernel)) (by decide)
              (fun _ _ _ _ _ => pg_name (i := 10) nd rfl (Or.inl rfl)) (fun _ _ _ _ _ => pts_nil) (fun _ _ _ _ _ => (show PI _ _ _ (iTup K _) from pi_tup (pe_slice (show SlR _ (rSlT K) from sl_tup) (pv 10) po_none (po_some pe_int)))) (fun _ _ _ _ _ => pg_name (i := 11) nd rfl (Or.inl rfl)) (fun _ _ _ _ _ => pts_nil) (fun _ _ _ _ _ => pv 11)) rfl))))) (fun _ _ _ _ _ => pv 8))))))
      (pss_cons (ps_if (PW.pt (pw_or (pt_cmpR op_ne (pe_callB call_len rfl (hb _ (by decide)) (by first | rfl | kernel_rfl) (pa_cons (pv 4) pa_nil)) pe_int (nomark _))
          (pw_or (pt_cmpR op_gt (pe_callB call_len rfl (hb _ (by decide)) (by first | rfl | kernel_rfl) (pa_cons (pv 5) pa_nil)) pe_int (nomark _))
          (pw_or1 (pt_cmpR (op_notInP hr.units) (pe_slice sl_tup (pe_ix ix_list (pv 4) pe_int (fun _ _ => rfl)) po_none (po_some pe_int)) (pe_tup (pa_cons (pe_tup (pa_cons (pv 2) (pa_cons (pv 3) pa_nil))) (pa_cons (pe_tup (pa_cons (pv 3) (pa_cons (pv 2) pa_nil))) pa_nil))) rfl))))) pss_never pss_nil)
      (pss_one (ps_ret (pe_ifExp (pt_cmpR op_eq (pe_ix ix_tup (pe_ix ix_list (pv 4) pe_int (fun _ _ => rfl)) pe_int (fun _ _ => rfl)) (pv 2) (nomark _)) (pe_ix ix_tup (pe_ix ix_list (pv 4) pe_int (fun _ _ => rfl)) pe_int (fun _ _ => rfl))
        (pe_dv D (hr.mono (by omega)) pass0 (pa_cons (pe_ix ix_tup (pe_ix ix_list (pv 4) pe_int (fun _ _ => rfl)) pe_int (fun _ _ => rfl)) pa_nil))))))))))), ?_⟩
    have lr : rows.length ≤ 100 := by have := net.len; rw [List.length_map] at this; omega
    have la : as.length = rows.length := Paired.length prs
    -- edges
    refine ⟨_, rfl, b, rfl, ⟨_, SqT.of hT⟩, fun D1 hD1 => ?_⟩
    refine lc_it (walk_tup (xs := as.map V.ref)) (fun i H' => ∃ bs : List Addr, Keep D1 H H' ∧ H' D1 = some (.lst (bs.map V.ref)) ∧ Paired (EdgeAt H') bs ((rows.map rowE).take i)) ⟨[], Keep.fresh hD1, upd_same, .nil⟩ (fun i H' _ ⟨bs, kp, _⟩ => SqT.of (kp.same hD1 _ _ hT)) (fun i u H2 H3 hi ⟨bs, kp, hbs, prs2⟩ hy => ?_) fun H1 ⟨bs, kp, hbs, prs2⟩ => ?_
    · obtain ⟨e, hx⟩ := hy
      subst e
      obtain ⟨t, ht, rfl⟩ := map_get hx
      obtain ⟨r, hr1, hr2⟩ := paired_get prs ht
      have htie : H3 t = some (.tup r.vs) := kp.same hD1 _ _ hr2
      refine ⟨rfl, ?_⟩
      rw [tYes_if]
      refine ⟨_, rfl, t, _, _, _, rfl, rfl, SqT.of htie, rfl, _, rfl, t, _, _, _, rfl, rfl, SqT.of htie, rfl, _, rfl, t, _, _, _, rfl, rfl, SqT.of htie, rfl, one_le, fun y1 hy1 => ⟨three_le, fun y2 hy2 => ?_⟩⟩
      have s1 := same_new (o := .tup [.str r.x]) hy1
      have s2 := same_new (o := .tup [.str r.one, .str r.other, .ref y1]) hy2
      have lb : bs.length = ((rows.map rowE).take i).length := Paired.length prs2
      have hd2 := (s1.trans s2) _ _ hbs
      refine ⟨_, hd2, ?_, bs ++ [y2], (kp.trans (Keep.of_same (s1.trans s2))).trans Keep.put, by rw [upd_same, List.map_append]; rfl, ?_⟩
      · rw [List.length_take, List.length_map] at lb
        rw [List.length_map, sizeLine_eq]
        omega
      · have e : (rows.map rowE).take (i + 1) = (rows.map rowE).take i ++ [rowE r] := by rw [List.take_add_one, List.getElem?_map, hr1]; rfl
        have st := Stay.keep hd2 (Keep.put (o := .lst (bs.map V.ref ++ [.ref y2])))
        rw [e]
        exact Paired.append (Paired.mapP prs2 fun _ _ z => (z.stay (Stay.of_same (s1.trans s2))).stay st) (.cons ⟨y1, st _ _ (fun _ z => nomatch z) upd_same, st _ _ (fun _ z => nomatch z) (s2 _ _ upd_same)⟩ .nil)
    have g1 := kp.same hD1
    rw [List.length_map, la, ← List.length_map (f := rowE) , List.take_length] at prs2
    -- left
    refine ⟨_, rfl, a, rfl, ⟨_, SqT.of (g1 _ _ ha)⟩, fun D2 hD2 => ?_⟩
    refine lc_filt ps V.str (fun z => !decide (z ∈ [x, y])) walk_tup (by omega) hD2 (fun H' g => SqT.of (g _ _ (g1 _ _ ha))) (fun i z H' QT QF hz g qT qF => ?_) fun H2 g2 h2 => ?_
    · refine ⟨rfl, _, rfl, _, rfl, _, rfl, two_le, fun p hp => ⟨p, _, rfl, .inr (SqT.of upd_same), rfl, rfl, _, rfl, ?_⟩⟩
      have gp : Same H' (upd H' p (.tup [.str x, .str y])) := same_new hp
      have ei : inV (.str z) [.str x, .str y] = decide (z ∈ [x, y]) := inV_str z [x, y]
      rw [if_pos rfl, ei]
      cases e : decide (z ∈ [x, y]) with
      | true => exact iteF (qF (by rw [e]; rfl) _ gp)
      | false => exact iteT ⟨_, rfl, qT (by rw [e]; rfl) _ gp⟩
    have hL1 : EdgesAt H1 D1 (rows.map rowE) := ⟨bs, hbs, prs2⟩
    have few1 : (rows.map rowE).length ≤ 100 := by rw [List.length_map]; exact lr
    -- touched
    change tSeq (tAsg (tEnds K 4) (gName 6)) _ _ [some (.ref a), some (.ref b), some (.str x), some (.str y), some (.ref D1), some (.ref D2), none, none, none, none, none, none] H2
    unfold tSeq tAsg
    refine ends_read (i := 4) rfl (hL1.same g2) few1 fun D3 H3 g3 h3 => ?_
    have g13 := g1.trans (g2.trans g3)
    refine ⟨_, rfl, a, rfl, ⟨_, SqT.of (g13 _ _ ha)⟩, fun D4 hD4 => ?_⟩
    refine lc_trues (walk_tup (xs := ps.map V.str)) (by rw [List.length_map]; omega) hD4 (fun H' g => SqT.of (g _ _ (g13 _ _ ha))) (fun i u H' Q' hx g q => ?_) gName_mono tYes_mono fun H4 g4 h4 => ?_
    · obtain ⟨z, hz, rfl⟩ := map_get hx
      refine ⟨rfl, rfl, _, rfl, _, rfl, D3, _, rfl, .inl (SqL.of (g _ _ h3)), rfl, flat_strs _, ?_⟩
      rw [if_neg Bool.false_ne_true, inV_str]
      have hz2 : z ∈ flatE (rows.map rowE) := by
        have hm : z ∈ x :: y :: M := pps.mem_iff.mp (List.mem_of_getElem? hz)
        obtain ⟨e, he, ht⟩ := net.net.touch z hm
        obtain ⟨e', he', rfl⟩ := List.mem_map.mp he
        refine mem_flatE.mpr ⟨e', he', ?_⟩
        unfold tch
        rcases ht with ht | ht
        · have ht : e'.1 = z := ht
          rw [decide_eq_true ht]; rfl
        · have ht : e'.2.1 = z := ht
          rw [decide_eq_true ht, Bool.or_true]
      rw [decide_eq_true hz2]
      exact q _ (Same.refl _)
    refine ⟨D4, _, rfl, SqL.of h4, ?_⟩
    rw [all_rep]
    refine ⟨true, rfl, iteF ⟨_, rfl, ?_⟩⟩
    have g14 := g13.trans g4
    refine ⟨LoopAt H a b x y D3 v B n T, ⟨_, g14, D2, _, _, _, _, _, _, _, M, rfl, g4 _ _ (g3 _ _ h2), Nat.le_trans (List.length_filter_le _ _) (by omega), left_start net pps, .inl ⟨D1, _, rfl, hL1.same (g2.trans (g3.trans g4)), net, rfl⟩⟩, ?_⟩
    rintro μ σ H5 ⟨g5, Lf, lf, v4, v7, v8, v9, v10, v11, M1, rfl, hLf, fewL, pM, st⟩
    rcases st with ⟨L, es, rfl, hL, nt, rfl⟩ | ⟨L, es, rfl, rfl, hL, nt, no, nch, rfl⟩
    · -- a step
      have hes : es.length ≤ 100 := by have := nt.len; omega
      refine ⟨_, rfl, rfl, _, rfl, ?_⟩
      refine iteT ⟨fun σ' H' => ∃ m', m' < es.length + 1 ∧ LoopAt H a b x y D3 v B n T m' σ' H', fun _ _ z => z, ?_⟩
      refine ⟨_, rfl, _, rfl, L, es, rfl, hL, hes, nt.sizes, fun hno H6 g6 => ⟨two_le, fun p hp => ?_⟩, fun A e Bs f C pl L' H6 hsp hE hpl g6 hL' => ⟨two_le, fun p hp => ?_⟩⟩
      · have s1 := same_new (o := .tup [.ref L, .non]) hp
        refine ⟨p, _, rfl, SqT.of upd_same, rfl, _, _, rfl, _, _, rfl, rfl, ?_⟩
        have g7 := g6.trans s1
        have hLf7 := g7 _ _ hLf
        have hL7 := hL.same g7
        have g57 := g5.trans g7
        have no := noTwo_of hno
        generalize (upd H6 p (.tup [.ref L, .non])) = H7 at *
        refine ⟨_, rfl, Lf, rfl, ⟨_, SqL.of hLf7⟩, for_list (xs := lf.map V.str) (fun i σ H' => Same H7 H' ∧ ∃ v7 v8, σ = [some (.ref a), some (.ref b), some (.str x), some (.str y), some (.ref L), some (.ref Lf), some (.ref D3), some v7, v8, v9, v10, v11] ∧
            ((v7 = .non ∧ ∀ m ∈ lf.take i, (es.filter (tch m)).length ≠ 2) ∨ ∃ L2 es2 M2, v7 = .ref L2 ∧ EdgesAt H' L2 es2 ∧ NetAt x y M2 v B n T es2 ∧ es2.length < es.length ∧ ∀ z ∈ M2, z ∈ M1))
          ⟨Same.refl _, _, _, rfl, .inl ⟨rfl, fun m h => nomatch h⟩⟩ (fun i σ H' _ ⟨g, _⟩ => SqL.of (g _ _ hLf7)) (fun i u σ H' hx ⟨g, w7, w8, es', hw⟩ => ?_) fun σ H' ⟨g, w7, w8, es', hw⟩ => ?_⟩
        · subst es'
          obtain ⟨z, hz, rfl⟩ := map_get hx
          rcases hw with ⟨rfl, hw⟩ | ⟨L2, es2, M2, rfl, hw⟩
          · refine ⟨_, rfl, rfl, _, rfl, iteT ⟨_, rfl, _, rfl, L, z, es, rfl, hL7.same g, hes, nt.sizes, fun h2 H8 g8 => ?_, fun e f L' H8 h2 g8 hL' => ?_⟩⟩
            · refine ⟨g.trans g8, _, _, rfl, .inl ⟨rfl, fun m hm => ?_⟩⟩
              rw [List.take_add_one, hz] at hm
              rcases List.mem_append.mp hm with hm | hm
              · exact hw m hm
              · have : m = z := by simpa using hm
                rw [this]; exact h2
            · have hzM : z ∈ M1 := pM.mem_iff.mp (List.mem_of_getElem? hz)
              obtain ⟨M2, pm2, nt2⟩ := nt.chainE hzM h2 no
              refine ⟨g.trans g8, _, _, rfl, .inr ⟨L', _, M2, rfl, hL', nt2, ?_, fun q hq => pm2.mem_iff.mpr (List.mem_cons_of_mem _ hq)⟩⟩
              have := (filter_two h2).length_eq
              rw [List.length_append, this]
              simp only [List.length_cons, List.length_nil]
              omega
          · obtain ⟨q1, q2, q3, q4⟩ := hw
            exact ⟨_, rfl, rfl, _, rfl, iteF ⟨g, _, _, rfl, .inr ⟨L2, es2, M2, rfl, q1, q2, q3, q4⟩⟩⟩
        · subst es'
          have g7' := g57.trans g
          change tAsg (tLeft K) (gName 5) _ [some (.ref a), some (.ref b), some (.str x), some (.str y), some (.ref L), some (.ref Lf), some (.ref D3), some w7, w8, v9, v10, v11] _
          unfold tAsg
          rcases hw with ⟨rfl, hw⟩ | ⟨L2, es2, M2, rfl, q1, q2, q3, q4⟩
          · refine left_read (g _ _ hLf7) fewL (.inl ⟨rfl, rfl⟩) fun D5 H8 g8 h8 => ?_
            refine ⟨0, by omega, g7'.trans g8, D5, _, _, _, _, _, _, _, M1, rfl, h8, fewL, pM, .inr ⟨L, es, rfl, rfl, hL7.same (g.trans g8), nt, no, fun m hm => hw m ?_, rfl⟩⟩
            rw [List.length_map, List.take_length]
            exact pM.mem_iff.mpr hm
          · refine left_read (g _ _ hLf7) fewL (.inr ⟨L2, _, rfl, q1, by omega, rfl⟩) fun D5 H8 g8 h8 => ?_
            exact ⟨_, by omega, g7'.trans g8, D5, _, _, _, _, _, _, _, M2, rfl, h8, Nat.le_trans (List.length_filter_le _ _) fewL, left_perm nt q2 q4 pM, .inl ⟨L2, _, rfl, q1.same g8, q2, rfl⟩⟩
      · have s1 := same_new (o := .tup [.ref L, .ref L']) hp
        refine ⟨p, _, rfl, SqT.of upd_same, rfl, _, _, rfl, _, _, rfl, rfl, ?_⟩
        have g7 := g6.trans s1
        have hLf7 := g7 _ _ hLf
        have nt' : NetAt x y M1 v B n T (A ++ (e.1, e.2.1, .op true e.2.2 pl) :: (Bs ++ C)) := (hsp ▸ nt : NetAt x y M1 v B n T (A ++ e :: (Bs ++ f :: C))).bundle hE hpl
        have le' : (A ++ (e.1, e.2.1, Plan.op true e.2.2 pl) :: (Bs ++ C)).length < es.length := by
          rw [hsp]
          simp only [List.length_append, List.length_cons]
          omega
        have hL7 := hL'.same s1
        have g57 := g5.trans g7
        generalize (upd H6 p (.tup [.ref L, .ref L'])) = H7 at *
        refine ⟨_, rfl, Lf, rfl, ⟨_, SqL.of hLf7⟩, for_list (xs := lf.map V.str) (fun i σ H' => H' = H7 ∧ ∃ v8, σ = [some (.ref a), some (.ref b), some (.str x), some (.str y), some (.ref L), some (.ref Lf), some (.ref D3), some (.ref L'), v8, v9, v10, v11]) ⟨rfl, _, rfl⟩ (fun i σ H' _ ⟨e, _⟩ => by rw [e]; exact SqL.of hLf7) (fun i u σ H' hx ⟨e, w8, es'⟩ => ?_) fun σ H' ⟨e, w8, es'⟩ => ?_⟩
        · subst e es'
          exact ⟨_, rfl, rfl, _, rfl, iteF ⟨rfl, _, rfl⟩⟩
        · subst e es'
          change tAsg (tLeft K) (gName 5) _ [some (.ref a), some (.ref b), some (.str x), some (.str y), some (.ref L), some (.ref Lf), some (.ref D3), some (.ref L'), w8, v9, v10, v11] _
          unfold tAsg
          refine left_read hLf7 ?_ (.inr ⟨L', _, rfl, hL7, by omega, rfl⟩) fun D5 H8 g8 h8 => ?_
          · exact fewL
          · exact ⟨_, by omega, g57.trans g8, D5, _, _, _, _, _, _, _, M1, rfl, h8, Nat.le_trans (List.length_filter_le _ _) fewL, left_perm nt nt' (fun _ z => z) pM, .inl ⟨L', _, rfl, hL7.same g8, nt', rfl⟩⟩
    · -- the end
      obtain ⟨e, rfl, rfl, hv, hE⟩ := nt.stuck no nch
      obtain rfl : lf = [] := List.Perm.eq_nil pM
      obtain ⟨as2, hL2, pr2⟩ := hL
      obtain ⟨ea, rfl, t, het, htt⟩ : ∃ ea, as2 = [ea] ∧ EdgeAt H5 ea e := by
        cases pr2 with
        | cons q1 r1 =>
          cases r1
          exact ⟨_, rfl, q1⟩
      have okE := nt.ok e (List.mem_singleton.mpr rfl)
      have szE : e.2.2.size = n := by have := nt.size; simpa using this
      have lfE := nt.leaf e (List.mem_singleton.mpr rfl)
      refine ⟨_, rfl, rfl, _, rfl, iteF ?_⟩
      refine ⟨_, rfl, .ref L, _, rfl, .inl ⟨_, SqL.of hL2, rfl⟩, rfl, _, rfl, iteF ⟨_, rfl, .ref Lf, _, rfl, .inl ⟨_, SqL.of hLf, rfl⟩, _, _, rfl, rfl, _, rfl, iteF ?_⟩⟩
      refine ⟨_, rfl, L, _, _, _, rfl, rfl, SqL.of hL2, rfl, _, rfl, ea, _, rfl, SqT.of het, part2, fun p1 hp1 => ⟨_, rfl, _, rfl, two_le, fun p2 hp2 => ⟨_, rfl, _, rfl, two_le, fun p3 hp3 => ⟨two_le, fun p4 hp4 => ?_⟩⟩⟩⟩
      have s1 := same_new (o := .tup [.str e.1, .str e.2.1]) hp1
      have s2 := same_new (o := .tup [.str x, .str y]) hp2
      have s3 := same_new (o := .tup [.str y, .str x]) hp3
      have s4 := same_new (o := .tup [.ref p2, .ref p3]) hp4
      refine ⟨p1, p4, p2, p3, _, _, _, _, _, _, rfl, rfl, s4 _ _ (s3 _ _ (s2 _ _ upd_same)), upd_same, s4 _ _ (s3 _ _ upd_same), s4 _ _ upd_same, _, rfl, ?_⟩
      have sA := s1.trans (s2.trans (s3.trans s4))
      have gF := g5.trans sA
      rw [decide_eq_true (by
        rcases hE with ⟨z1, z2⟩ | ⟨z1, z2⟩
        · exact .inl ⟨z1.symm, z2.symm⟩
        · exact .inr ⟨z1.symm, z2.symm⟩)]
      refine iteF ⟨_, rfl, L, _, _, _, rfl, rfl, SqL.of (sA _ _ hL2), rfl, ea, _, _, _, rfl, rfl, SqT.of (sA _ _ het), rfl, _, rfl, rfl, _, rfl, ?_⟩
      refine ite2 (fun _ => ?_) (fun _ => ?_)
      · exact ⟨_, rfl, L, _, _, _, rfl, rfl, SqL.of (sA _ _ hL2), rfl, ea, _, _, _, rfl, rfl, SqT.of (sA _ _ het), rfl, k t _ _ gF (htt.stay (Stay.of_same sA)) okE hv.symm szE lfE⟩
      · refine ⟨_, rfl, L, _, _, _, rfl, rfl, SqL.of (sA _ _ hL2), rfl, ea, _, _, _, rfl, rfl, SqT.of (sA _ _ het), rfl, t, e.2.2, rfl, htt.stay (Stay.of_same sA), by omega, fun t2 H8 g8 ht8 => ?_⟩
        exact k t2 _ _ (gF.trans g8) ht8 (Plan.flip_ok okE) ((vP_flip okE).trans hv.symm) ((Plan.flip_size _).trans szE) fun l hl => lfE l ((Plan.flip_leaves _ l).mp hl)
end
end Wr
-- WrBuilt
/-! built, piece_of -/
namespace Wr
open PySem L2
def skey (x : Str) : Key := Sum.inr x
/-- the spans of the ties of a plan stand in the dict -/
def SpansOf (c : Cs) (H : Hp) (kvs : List (Key × V)) (T : List (Str × Int × Int)) : Prop := ∀ t ∈ T, ∃ s, valV kvs (skey t.1) = some (.ref s) ∧ SpanAt c H s (t.2.1, t.2.2)
theorem SpansOf.stay {c : Cs} {H H' : Hp} (k : Stay H H') {kvs : List (Key × V)} {T : List (Str × Int × Int)} (h : SpansOf c H kvs T) : SpansOf c H' kvs T := fun t ht => let ⟨s, e, q⟩ := h t ht; ⟨s, e, q.stay k⟩
section
variable {P : Program} {w : World} {K : PySem.W.Frag} {mg : Str → Option Value} {base : Heap} {f : Addr} {fd : FuncData} {c : Cs}
theorem op_span_parts {q : Bool} {l r : Plan} {s : S2} (h : (Plan.op q l r).span = some s) : ∃ s1 s2, l.span = some s1 ∧ r.span = some s2 := by
  obtain ⟨x, hx, e⟩ := Option.bind_eq_some_iff.mp (show opO q l.span r.span = some s from h)
  obtain ⟨y, hy, e⟩ := Option.bind_eq_some_iff.mp e
  exact ⟨x, y, hx, hy⟩
abbrev sBuilt : Stmt := top 62
theorem scBuilt : FnScope ["tree", "spans", "sign", "near", "far"] ["tree", "spans"] (defScope sBuilt) := ⟨rfl, rfl, rfl, by decide +kernel, rfl, by decide +kernel, by decide +kernel⟩
def spBuilt (c : Cs) (n : Nat) : Sp := fun vs H Q _ => ∃ (a d : Addr) (p : Plan) (kvs : List (Key × V)) (s : S2) (B : Int), vs = [.ref a, .ref d] ∧ TreeAt H p a ∧ H d = some (.dK kvs) ∧ SpansOf c H kvs p.leaves ∧ p.ok B ∧ p.span = some s ∧ p.size ≤ n ∧ p.size ≤ 1000 ∧
  ∀ b H', Same H H' → PieceAt c H' p b → Q (.ref b) H'
theorem ok_built {t1 : Tok} {n : Nat} (hb : ∀ x ∈ blts, mg x = none) (gR : mg "IN_ROW" = some (.str "+" t1)) (TM : TieMv P w K mg base c) (PA : PAddD P w K mg base c) (PB : PAndD P w K mg base c) (D : Dv P w K mg base CX0 (8 + n) "built" ["tree", "spans"] (spBuilt c n))
    (F : L2.Fun K "built" "built" sBuilt f fd) : FnOk P w K mg base CX0 (8 + n + 1) f fd ["tree", "spans"] (spBuilt c (n + 1)) := by
  refine F.ok scBuilt (fun vs H Q E h => ?_) (fun cdv A outer s H vs Q E hr h => ?_)
  · obtain ⟨a, d, p, kvs, s, B, rfl, _⟩ := h
    rfl
  · obtain ⟨a, d, p, kvs, s, B, rfl, ha, hd, hS, ok, hs, hn, h1000, k⟩ := h
    have nd := scBuilt.nd
    refine ⟨_, pss_cons (ps_if (pt_cmpR op_eq (pe_callB call_len rfl (hb _ (by decide)) (by first | rfl | kernel_rfl) (pa_cons (pv 0) pa_nil)) pe_int (nomark _))
        (pss_one (ps_ret (pe_mv TM (hr.mono (by omega)) pass0 (pa_cons (pe_ix ix_tup (pv 0) pe_int (fun _ _ => rfl)) (pa_cons (pe_dget (hu_of hr) (pv 1) (pe_ix ix_tup (pv 0) pe_int (fun _ _ => rfl)) (fun _ _ => rfl)) pa_nil))))) pss_nil)
      (pss_cons (ps_asg (pv 0) (pg_tup rfl (pgs_cons (pg_name (i := 2) nd rfl (Or.inl rfl)) (pgs_cons (pg_name (i := 3) nd rfl (Or.inl rfl)) (pgs_cons (pg_name (i := 4) nd rfl (Or.inl rfl)) pgs_nil)))))
      (pss_cons (ps_if (pt_cmpR op_eq (pv 2) (pe_glob (v := .str "+") rfl gR ⟨_, rfl⟩) (nomark _))
        (pss_one (ps_ret (pe_op (op_fam PA (hr.mono (by omega)) pass0) (pe_dv D hr pass0 (pa_cons (pv 3) (pa_cons (pv 1) pa_nil))) (pe_dv D hr pass0 (pa_cons (pv 4) (pa_cons (pv 1) pa_nil)))))) pss_nil)
      (pss_one (ps_ret (pe_op (op_fam PB (hr.mono (by omega)) passL) (pe_dv D hr pass0 (pa_cons (pv 3) (pa_cons (pv 1) pa_nil))) (pe_dv D hr pass0 (pa_cons (pv 4) (pa_cons (pv 1) pa_nil)))))))), ?_⟩
    cases p with
    | leaf x lo hi =>
      have ha : H a = some (.tup [.str x]) := ha
      refine ⟨_, rfl, .ref a, 1, rfl, .inr ⟨_, SqT.of ha, rfl⟩, rfl, _, rfl, iteT ?_⟩
      obtain ⟨sp, e1, e2⟩ := hS (x, lo, hi) (List.mem_singleton.mpr rfl)
      have dg : DGet H d (.str x) (some (.ref sp)) := e1 ▸ DGet.k (k := skey x) hd
      exact ⟨_, rfl, a, _, _, _, rfl, rfl, SqT.of ha, rfl, _, rfl, _, rfl, a, _, _, _, rfl, rfl, SqT.of ha, rfl, d, _, rfl, dg, made_tie (s := (lo, hi)) e2 k⟩
    | op q l r =>
      obtain ⟨u, v, e, h1, h2⟩ := ha
      have hn' : l.size + r.size ≤ n + 1 := hn
      have h1000' : l.size + r.size ≤ 1000 := h1000
      have z1 := l.size_pos
      have z2 := r.size_pos
      obtain ⟨s1, s2, es1, es2⟩ := op_span_parts hs
      have S1 : SpansOf c H kvs l.leaves := fun t ht => hS t (List.mem_append_left _ ht)
      have S2 : SpansOf c H kvs r.leaves := fun t ht => hS t (List.mem_append_right _ ht)
      refine ⟨_, rfl, .ref a, 3, rfl, .inr ⟨_, SqT.of e, rfl⟩, rfl, _, rfl, ?_⟩
      refine iteF ⟨_, rfl, a, _, rfl, SqT.of e, rfl, _, _, rfl, _, _, rfl, _, _, rfl, rfl, ?_⟩
      refine ⟨_, rfl, rfl, _, rfl, ?_⟩
      rw [signOf_eq]
      cases q with
      | false =>
        refine iteT ⟨_, rfl, _, rfl, u, d, l, kvs, s1, B, rfl, h1, hd, S1, ok.1, es1, by omega, by omega, fun b1 H1 g1 p1 => ⟨_, rfl, _, rfl, v, d, r, kvs, s2, B, rfl, h2.stay (Stay.of_same g1), g1 _ _ hd, S2.stay (Stay.of_same g1), ok.2, es2, by omega, by omega, fun b2 H2 g2 p2 => ?_⟩⟩
        have p1' := p1.stay (Stay.of_same g2)
        obtain ⟨C1, dx1, _, _, _, _, _, i1, c1, _⟩ := p1'.head
        obtain ⟨C2, dx2, _, _, _, _, _, i2, c2, _⟩ := p2.head
        exact ⟨b1, C1, dx1, _, b2, C2, dx2, _, rfl, rfl, i1, i2, c1, c2, b1, b2, l, r, B, rfl, p1', p2, ok.1, ok.2, by omega, fun x H3 g3 p3 => k x H3 (g1.trans (g2.trans g3)) p3, fun z => by rw [hs] at z; cases z⟩
      | true =>
        refine iteF ⟨_, rfl, _, rfl, u, d, l, kvs, s1, B, rfl, h1, hd, S1, ok.1, es1, by omega, by omega, fun b1 H1 g1 p1 => ⟨_, rfl, _, rfl, v, d, r, kvs, s2, B, rfl, h2.stay (Stay.of_same g1), g1 _ _ hd, S2.stay (Stay.of_same g1), ok.2, es2, by omega, by omega, fun b2 H2 g2 p2 => ?_⟩⟩
        have p1' := p1.stay (Stay.of_same g2)
        obtain ⟨C1, dx1, _, _, _, _, _, i1, c1, _⟩ := p1'.head
        obtain ⟨C2, dx2, _, _, _, _, _, i2, c2, _⟩ := p2.head
        exact ⟨b1, C1, dx1, _, b2, C2, dx2, _, rfl, rfl, i1, i2, c1, c2, b1, b2, l, r, B, rfl, p1', p2, ok.1, ok.2, by omega, fun x H3 g3 p3 => k x H3 (g1.trans (g2.trans g3)) p3, fun z => by rw [hs] at z; cases z⟩
theorem all_built {t1 : Tok} (hb : ∀ x ∈ blts, mg x = none) (gR : mg "IN_ROW" = some (.str "+" t1)) (TM : TieMv P w K mg base c) (PA : PAddD P w K mg base c) (PB : PAndD P w K mg base c) (F : L2.Fun K "built" "built" sBuilt f fd) (hm : mg "built" = some (.ref f)) (hB : Binds K fd ["tree", "spans"] []) :
    ∀ n, Dv P w K mg base CX0 (8 + n) "built" ["tree", "spans"] (spBuilt c n)
  | 0 => ⟨f, fd, ⟨fun vs H Q E h => by obtain ⟨a, d, p, kvs, s, B, rfl, _⟩ := h; rfl, fun A outer s H args us vs Q E _ _ _ _ h => by
      obtain ⟨a, d, p, kvs, s', B, _, _, _, _, _, _, h0, _⟩ := h
      have := p.size_pos
      omega⟩, hm, F.kp, hB⟩
  | n + 1 => ⟨f, fd, ok_built hb gR TM PA PB (all_built hb gR TM PA PB F hm hB n) F, hm, F.kp, hB⟩
end
end Wr
-- WrBuilt2
/-! piece_of -/
namespace Wr
open PySem L2
section
variable {P : Program} {w : World} {K : PySem.W.Frag} {mg : Str → Option Value} {base : Heap} {f : Addr} {fd : FuncData} {c : Cs}
/-- a web stands at q -/
def WebAt (wb : Addr) (H : Hp) (q a b : Addr) : Prop := ∃ dx, H q = some (.ins wb dx [("places", .ref a), ("bonds", .ref b)])
abbrev sPieceOf : Stmt := top 63
theorem scPieceOf : FnScope ["web", "one", "other", "tree", "tie"] ["web", "one", "other"] (defScope sPieceOf) := ⟨rfl, rfl, rfl, by decide +kernel, rfl, by decide +kernel, by decide +kernel⟩
def rowL (r : T5) : Str × Int × Int := (r.x, r.lo, r.hi)
def spPieceOf (c : Cs) (wb : Addr) (n : Nat) : Sp := fun vs H Q _ => ∃ (q a b : Addr) (ps : List Str) (rows : List T5) (x y : Str) (M : List Str) (v : V2) (s : S2) (B : Int), vs = [.ref q, .str x, .str y] ∧ WebAt wb H q a b ∧ TextsAt H a ps ∧ TiesAt H b rows ∧ ps.Perm (x :: y :: M) ∧ ps.length ≤ 100 ∧ n ≤ 100 ∧
  NetAt x y M v B n (rows.map rowL) (rows.map rowE) ∧ (rows.map T5.x).Nodup ∧ (∀ r ∈ rows, 0 ≤ r.lo ∧ r.lo ≤ r.hi) ∧ v.1 = some s ∧ ∀ t p H', Same H H' → PieceAt c H' p t → p.span = some s → Q (.ref t) H'
theorem ok_piece_of {wb : Addr} {n : Nat} (hb : ∀ x ∈ blts, mg x = none) (W : WebC K mg wb) (NP : Dv P w K mg base CX0 2 "need_pair" ["posts", "one", "other"] spNeedPair) (TB : Dv P w K mg base CX0 (n + 3) "tree_between" ["posts", "ties", "one", "other"] (spBetween n))
    (BL : Dv P w K mg base CX0 (8 + n) "built" ["tree", "spans"] (spBuilt c n)) (SM : SpanMv P w K mg base c) (P1 : Pv P w K mg base wb "posts" "places") (P2 : Pv P w K mg base wb "ties" "bonds") (F : L2.Fun K "piece_of" "piece_of" sPieceOf f fd) :
    FnOk P w K mg base CX0 (8 + n + 1) f fd ["web", "one", "other"] (spPieceOf c wb n) := by
  refine F.ok scPieceOf (fun vs H Q E h => ?_) (fun cdv A outer s H vs Q E hr h => ?_)
  · obtain ⟨q, a, b, ps, rows, x, y, M, v, s, B, rfl, _⟩ := h
    rfl
  · obtain ⟨q, a, b, ps, rows, x, y, M, v, s', B, rfl, ⟨dx, hq⟩, ha, hT, pps, lps, hn, net, tnd, spans, hv, k⟩ := h
    have nd := scPieceOf.nd
    refine ⟨_, pss_cons (ps_expr (pe_dv NP (hr.mono (by omega)) pass0 (pa_cons (pe_pv P1 (pv 0) W.cls (hr.mono (by omega))) (pa_cons (pv 1) (pa_cons (pv 2) pa_nil)))))
      (pss_cons (ps_set (i := 3) nd rfl (Or.inl rfl) (pe_dv TB (hr.mono (by omega)) pass0 (pa_cons (pe_pv P1 (pv 0) W.cls (hr.mono (by omega))) (pa_cons (pe_pv P2 (pv 0) W.cls (hr.mono (by omega))) (pa_cons (pv 1) (pa_cons (pv 2) pa_nil))))))
      (pss_cons (ps_if (pt_cmpR op_isN (pv 3) pe_non (nomark _)) pss_never pss_nil)
      (pss_one (ps_ret (pe_dv BL hr pass0 (pa_cons (pv 3) (pa_cons (pe_dc (own := [("tie", 4)]) (g := gName 4) (tt := tYes) rfl nd (pi_tup (pe_pv P2 (pv 0) W.cls (hr.mono (by omega)))) (blkOk_by (N := ["web", "one", "other", "tree", "tie"]) (sc := defScope sPieceOf) (by decide +kernel)) (fun _ _ _ _ _ => pg_name (i := 4) nd rfl (Or.inl rfl)) (fun _ _ _ _ _ => pts_nil)
        (fun _ _ _ _ _ => pe_ix (show IxR _ (rIxT K) from ix_tup) (pv 4) pe_int (fun _ _ => rfl)) (fun _ _ _ _ _ => pe_mv SM (hr.mono (by omega)) pass0 (pa_cons (pe_ix (show IxR _ (rIxT K) from ix_tup) (pv 4) pe_int (fun _ _ => rfl)) (pa_cons (pe_ix (show IxR _ (rIxT K) from ix_tup) (pv 4) pe_int (fun _ _ => rfl)) pa_nil)))) pa_nil))))))), ?_⟩
    have hx : x ∈ ps := pps.mem_iff.mpr (by simp)
    have hy : y ∈ ps := pps.mem_iff.mpr (by simp)
    have hne : x ≠ y := fun z => by
      have := net.net.nodup
      rw [List.nodup_cons] at this
      exact this.1 (by rw [z]; simp)
    refine ⟨_, rfl, q, dx, _, _, rfl, hq, rfl, _, rfl, _, rfl, a, ps, x, y, rfl, ha, hx, hy, hne, fun H1 g1 => ?_⟩
    refine ⟨_, rfl, q, dx, _, _, rfl, g1 _ _ hq, rfl, _, rfl, q, dx, _, _, rfl, g1 _ _ hq, rfl, _, rfl, _, rfl, a, b, ps, rows, x, y, M, v, B, _, rfl, g1 _ _ ha, hT.same g1, pps, lps, hn, net, fun t p H2 g2 ht okp vp szp lfp => ?_⟩
    have g12 := g1.trans g2
    refine ⟨_, rfl, rfl, _, rfl, iteF ⟨_, rfl, _, rfl, q, dx, _, _, rfl, g12 _ _ hq, rfl, b, rfl, ?_⟩⟩
    obtain ⟨as, hT2, prs⟩ := hT.same g12
    refine ⟨⟨_, SqT.of hT2⟩, fun D hD => ?_⟩
    have la : as.length = rows.length := Paired.length prs
    have lr : rows.length ≤ 100 := by have := net.len; rw [List.length_map] at this; omega
    refine dc_tup (g := gName 4) (tt := tYes) (tk := tOp (rIxT K) (tVar 4) (tC (.int 0))) (tv := fun σ H Q => (tCons (tOp (rIxT K) (tVar 4) (tC (.int 3))) (tCons (tOp (rIxT K) (tVar 4) (tC (.int 4))) tNil)) σ H fun vs H1 => MadeBy c.span (spSpanI c) E0 vs H1 Q) (xs := as.map V.ref) (fun i H' => ∃ kvs : List (Key × V), Keep D H2 H' ∧ H' D = some (.dK kvs) ∧ kvs.length ≤ i ∧ ∀ r ∈ rows.take i, ∃ s, valV kvs (skey r.x) = some (.ref s) ∧ SpanAt c H' s (r.lo, r.hi)) ⟨[], Keep.fresh hD, upd_same, Nat.zero_le _, fun r h => nomatch h⟩ (fun i H' _ ⟨_, kp, _⟩ => SqT.of (kp.same hD _ _ hT2)) (fun i u H' hx ⟨kvs, kp, hkv, lk, sp⟩ => ?_) fun H' ⟨kvs, kp, hkv, lk, sp⟩ => ?_
    · obtain ⟨t1, ht1, rfl⟩ := map_get hx
      obtain ⟨r, hr1, hr2⟩ := paired_get prs ht1
      have htie : H' t1 = some (.tup r.vs) := kp.same hD _ _ hr2
      have mem : r ∈ rows := List.mem_of_getElem? hr1
      have hi : i < rows.length := (List.getElem?_eq_some_iff.mp hr1).1
      refine ⟨rfl, ?_⟩
      rw [tYes_if]
      refine ⟨_, rfl, t1, _, _, _, rfl, rfl, SqT.of htie, rfl, _, rfl, t1, _, _, _, rfl, rfl, SqT.of htie, rfl, _, rfl, t1, _, _, _, rfl, rfl, SqT.of htie, rfl, ?_⟩
      unfold tNil
      refine made_span (s := (r.lo, r.hi)) rfl (spans r mem) fun z H3 g3 hz => ⟨kvs, skey r.x, rfl, g3 _ _ hkv, by rw [sizeLine_eq]; omega, _, (kp.trans (Keep.of_same g3)).trans Keep.put, upd_same, by have := length_putK kvs (skey r.x) (V.ref z); omega, fun r2 hr2' => ?_⟩
      have st : ∀ {b : Addr} {s : S2}, SpanAt c H3 b s → SpanAt c (upd H3 D (.dK (putK kvs (skey r.x) (.ref z)))) b s := fun {b s} ⟨db, e⟩ => ⟨db, by rw [upd_ne (fun q => by rw [q, g3 _ _ hkv] at e; cases e)]; exact e⟩
      rw [List.take_add_one, hr1] at hr2'
      rcases List.mem_append.mp hr2' with h | h
      · obtain ⟨s2, e1, e2⟩ := sp r2 h
        refine ⟨s2, ?_, st (e2.stay (Stay.of_same g3))⟩
        rw [valV_put, if_neg ?_]
        · exact e1
        · intro e
          have e : r2.x = r.x := by injection e
          obtain ⟨j, hj, ej⟩ := List.getElem_of_mem h
          rw [List.length_take] at hj
          rw [List.getElem_take] at ej
          obtain ⟨_, ei⟩ := List.getElem?_eq_some_iff.mp hr1
          have e2 : (rows.map T5.x)[j]'(by rw [List.length_map]; omega) = (rows.map T5.x)[i]'(by rw [List.length_map]; omega) := by
            rw [List.getElem_map, List.getElem_map, ej, ei, e]
          have := nodup_get tnd (by rw [List.length_map]; omega) (by rw [List.length_map]; omega) e2
          omega
      · have : r2 = r := by simpa using h
        subst this
        exact ⟨z, by rw [valV_put, if_pos rfl], st hz⟩
    · rw [List.length_map, la, List.take_length] at sp
      have g3 := kp.same hD
      have lv : SpansOf c H' kvs p.leaves := fun l hl => by
        obtain ⟨r, hr1, rfl⟩ := List.mem_map.mp (lfp l hl)
        exact sp r hr1
      have es : p.span = some s' := by
        rw [vP_ok okp] at vp
        rw [← hv, ← vp]
      exact ⟨t, D, p, kvs, s', B, rfl, ht.stay (Stay.of_same g3), hkv, lv, okp, es, by omega, by omega, fun b2 H4 g4 hp => k b2 p H4 (g12.trans (g3.trans g4)) hp es⟩
end
end Wr
-- WrLaw1
/-! the law's draws: only that they are within their bounds -/
namespace Wr
open PySem L2
section
variable {P : Program} {w : World} {K : PySem.W.Frag} {mg : Str → Option Value} {base : Heap} {f : Addr} {fd : FuncData}
abbrev sTake : Stmt := top 66
theorem scTake : FnScope ["_law_feed_here", "_law_many", "_law_digit", "_law_mix"] ["_law_feed_here", "_law_many"] (defScope sTake) := ⟨rfl, rfl, rfl, by decide +kernel, rfl, by decide +kernel, by decide +kernel⟩
def spTake : Sp := fun vs H Q _ => ∃ (f : Addr) (n : Int), vs = [.ref f, .int n] ∧ FeedAt H f ∧ 0 < n ∧ n < 1073741824 ∧ ∀ (d : Int) H', 0 ≤ d → d < n → Fed f H H' → Q (.int d) H'
theorem ok_take (F : L2.Fun K "_law_take" "_law_take" sTake f fd) : FnOk P w K mg base CX0 1 f fd ["_law_feed_here", "_law_many"] spTake := by
  refine F.ok scTake (fun vs H Q E h => ?_) (fun cdv A outer s H vs Q E hr h => ?_)
  · obtain ⟨f, n, rfl, _⟩ := h
    rfl
  · obtain ⟨f, n, rfl, ⟨a, b, c, hf⟩, hn, hn2, k⟩ := h
    refine ⟨_, pss_cons (ps_if (pt_cmpR op_gt (pe_ix ix_list (pv 0) pe_int (fun _ _ => rfl)) pe_int (nomark _))
        (pss_cons (ps_set (i := 2) scTake.nd rfl (Or.inl rfl) (pe_op op_modN (pe_ix ix_list (pv 0) pe_int (fun _ _ => rfl)) (pv 1)))
        (pss_cons (ps_asg (pe_op op_fdivN (pe_ix ix_list (pv 0) pe_int (fun _ _ => rfl)) (pv 1)) (pg_sub (pv 0) pe_int set_list))
        (pss_one (ps_ret (pv 2))))) pss_nil)
      (pss_cons (ps_asg (pe_op op_add (pe_ix ix_list (pv 0) pe_int (fun _ _ => rfl)) pe_int) (pg_sub (pv 0) pe_int set_list))
      (pss_cons (ps_set (i := 3) scTake.nd rfl (Or.inl rfl) (pe_op op_modN (pe_op op_mul (pe_op op_add (pe_ix ix_list (pv 0) pe_int (fun _ _ => rfl)) (pe_op op_mul pe_int (pe_ix ix_list (pv 0) pe_int (fun _ _ => rfl)))) pe_int) pe_int))
      (pss_cons (ps_asg (pe_op op_add (pe_op op_modN (pe_op op_add (pe_op op_mul (pv 3) pe_int) pe_int) pe_int) pe_int) (pg_sub (pv 0) pe_int set_list))
      (pss_one (ps_ret (pe_op op_modN (pe_op op_fdivN (pe_op op_add (pe_op op_mul (pv 3) pe_int) (pe_ix ix_list (pv 0) pe_int (fun _ _ => rfl))) pe_int) (pv 1))))))), ?_⟩
    have n0 : n ≠ 0 := by omega
    have nn : n.natAbs < 1073741824 := by omega
    have fm : ∀ i : Int, 0 ≤ i.fmod n ∧ i.fmod n < n := fun i => ⟨Int.fmod_nonneg_of_pos i hn, Int.fmod_lt_of_pos i hn⟩
    refine ⟨_, rfl, f, _, _, _, rfl, rfl, SqL.of hf, rfl, _, _, rfl, rfl, _, rfl, ?_⟩
    refine ite2 (fun _ => ?_) (fun _ => ?_)
    · refine ⟨_, rfl, f, _, _, _, rfl, rfl, SqL.of hf, rfl, _, rfl, _, _, rfl, rfl, n0, ?_⟩
      refine ⟨_, rfl, f, _, _, _, rfl, rfl, SqL.of hf, rfl, _, rfl, _, _, rfl, rfl, ⟨n0, nn⟩, _, rfl, f, _, _, _, rfl, rfl, hf, rfl, ?_⟩
      exact ⟨_, rfl, k _ _ (fm a).1 (fm a).2 ⟨⟨_, _, _, upd_same⟩, Keep.put⟩⟩
    · refine ⟨_, rfl, f, _, _, _, rfl, rfl, SqL.of hf, rfl, _, _, rfl, rfl, _, rfl, f, _, _, _, rfl, rfl, hf, rfl, ?_⟩
      have h1 : (upd H f (.lst [.int a, .int b, .int (c + 1)])) f = some (.lst [.int a, .int b, .int (c + 1)]) := upd_same
      refine ⟨_, rfl, f, _, _, _, rfl, rfl, SqL.of h1, rfl, _, rfl, f, _, _, _, rfl, rfl, SqL.of h1, rfl, _, _, rfl, rfl, .inl ⟨by decide, by decide⟩, _, _, rfl, rfl, _, _, rfl, rfl, .inr ⟨by decide, by decide⟩, _, _, rfl, rfl, (by show (2147483647 : Int) ≠ 0; decide), ?_⟩
      refine ⟨_, rfl, _, _, rfl, rfl, .inr ⟨by decide, by decide⟩, _, _, rfl, rfl, _, _, rfl, rfl, (by show (2147483629 : Int) ≠ 0; decide), _, _, rfl, rfl, _, rfl, f, _, _, _, rfl, rfl, h1, rfl, ?_⟩
      refine ⟨_, rfl, _, _, rfl, rfl, .inr ⟨by decide, by decide⟩, _, rfl, f, _, _, _, rfl, rfl, SqL.of upd_same, rfl, _, _, rfl, rfl, _, _, rfl, rfl, ⟨by decide, by decide⟩, _, rfl, _, _, rfl, rfl, n0, ?_⟩
      exact k _ _ (fm _).1 (fm _).2 ⟨⟨_, _, _, upd_same⟩, Keep.put.trans Keep.put⟩
end
end Wr
-- WrLaw2
namespace Wr
open PySem L2
theorem perm_erase {α : Type} {xs : List α} {k : Nat} {y : α} (h : xs[k]? = some y) : (y :: xs.eraseIdx k).Perm xs := by
  induction xs generalizing k with
  | nil => cases h
  | cons x xs ih =>
    cases k with
    | zero => cases h; exact List.Perm.refl _
    | succ k =>
      have := ih (k := k) h
      rw [List.eraseIdx_cons_succ]
      exact (List.Perm.swap _ _ _).trans (this.cons x)
theorem seq_at {t : Int} {n : Nat} (h0 : 0 ≤ t) (h1 : t < n) : seqIndex? t n = some t.toNat := by
  unfold seqIndex?
  have e : (if t < 0 then t + (n : Int) else t) = t := by
    split
    · omega
    · rfl
  simp only [e]
  rw [if_pos (by simp [h0, h1])]
theorem FeedAt.upd {f l : Addr} {H : Hp} {o : HO} (h : FeedAt H f) (n : l ≠ f) : FeedAt (L2.upd H l o) f := let ⟨a, b, c, e⟩ := h; ⟨a, b, c, by rw [upd_ne (Ne.symm n)]; exact e⟩
/-- what is not there at first may change -/
theorem Fed.put {f l : Addr} {H H' : Hp} {o : HO} (g : Fed f H H') (n : l ≠ f) (hl : H l = none) : Fed f H (L2.upd H' l o) := ⟨g.at_.upd n, fun b u nb e => by rw [upd_ne (ne_of_none e hl)]; exact g.kp b u nb e⟩
section
variable {P : Program} {w : World} {K : PySem.W.Frag} {mg : Str → Option Value} {base : Heap} {f : Addr} {fd : FuncData}
abbrev TakeD (P : Program) (w : World) (K : PySem.W.Frag) (mg : Str → Option Value) (base : Heap) : Prop := Dv P w K mg base CX0 1 "_law_take" ["_law_feed_here", "_law_many"] spTake
abbrev sMixed : Stmt := top 67
theorem scMixed : FnScope ["_law_feed_here", "_law_items", "_law_left", "_law_found", "_law_turn"] ["_law_feed_here", "_law_items"] (defScope sMixed) := ⟨rfl, rfl, rfl, by decide +kernel, rfl, by decide +kernel, by decide +kernel⟩
def spMixed : Sp := fun vs H Q _ => ∃ (f a : Addr) (xs : List V), vs = [.ref f, .ref a] ∧ FeedAt H f ∧ H a = some (.lst xs) ∧ xs.length ≤ 1000 ∧ ∀ q ys H', ys.Perm xs → Fed f H H' → H q = none → H' q = some (.lst ys) → Q (.ref q) H'
theorem ok_mixed (hb : ∀ x ∈ blts, mg x = none) (T : TakeD P w K mg base) (F : L2.Fun K "_law_mixed" "_law_mixed" sMixed f fd) : FnOk P w K mg base CX0 2 f fd ["_law_feed_here", "_law_items"] spMixed := by
  refine F.ok scMixed (fun vs H Q E h => ?_) (fun cdv A outer s H vs Q E hr h => ?_)
  · obtain ⟨f, a, xs, rfl, _⟩ := h
    rfl
  · obtain ⟨f, a, xs, rfl, hf, ha, hn, k⟩ := h
    have nd := scMixed.nd
    refine ⟨_, pss_cons (ps_par (i := 2) (j := 3) rfl nd rfl rfl (by decide) rfl rfl (pa_cons (pe_callTy call_list_of rfl (hb _ (by decide)) (by first | rfl | kernel_rfl) (pa_cons (pv 1) pa_nil)) (pa_cons (pe_lst pa_nil) pa_nil)) rfl)
      (pss_cons (ps_for PassesOwn.never rfl (pi_range1 rfl (hb _ (by decide)) (pa_cons (pe_callB call_len rfl (hb _ (by decide)) (by first | rfl | kernel_rfl) (pa_cons (pv 2) pa_nil)) pa_nil)) (pg_name (i := 4) nd rfl (Or.inl rfl))
        (pss_one (ps_expr (pe_bm PySem.F.plainAttrs_list PySem.F.slot_list_append PySem.F.type_list_append mt_append (pv 3) (pa_cons
          (pe_bm PySem.F.plainAttrs_list PySem.F.slot_list_pop PySem.F.type_list_pop mt_popAt (pv 2) (pa_cons (pe_dv T hr pass0 (pa_cons (pv 0) (pa_cons (pe_callB call_len rfl (hb _ (by decide)) (by first | rfl | kernel_rfl) (pa_cons (pv 2) pa_nil)) pa_nil))) pa_nil)) pa_nil)))))
      (pss_one (ps_ret (pv 3)))), ?_⟩
    refine ⟨_, rfl, a, _, rfl, .inl (SqL.of ha), fun l hl => ⟨by rw [sizeLine_eq]; decide, fun d hd => ⟨_, _, rfl, ?_⟩⟩⟩
    have s1 := same_new (o := .lst xs) hl
    have s2 := same_new (o := .lst ([] : List V)) hd
    have lf : l ≠ f := fun z => by obtain ⟨x, y, c, e⟩ := hf; rw [← z, hl] at e; cases e
    have df : d ≠ f := fun z => by obtain ⟨x, y, c, e⟩ := hf; rw [← z, s1.free hd] at e; cases e
    have ld : l ≠ d := fun z => by rw [← z, upd_same] at hd; cases hd
    refine ⟨_, rfl, .ref l, _, rfl, .inl ⟨_, SqL.of (s2 _ _ upd_same), rfl⟩, _, rfl, by omega, by omega, ?_⟩
    refine for_range (n := _) (fun i σ H' => ∃ v4 ls ds, σ = [some (.ref f), some (.ref a), some (.ref l), some (.ref d), v4] ∧ Fed f H H' ∧ H' l = some (.lst ls) ∧ H' d = some (.lst ds) ∧ (ds ++ ls).Perm xs ∧ ls.length + i = xs.length)
      ⟨none, xs, [], rfl, Fed.same hf (s1.trans s2), s2 _ _ upd_same, upd_same, List.Perm.refl _, rfl⟩ (fun i σ H' hi ⟨v4, ls, ds, es, g, h1, h2, pm, le⟩ => ?_) fun σ H' ⟨v4, ls, ds, es, g, h1, h2, pm, le⟩ => ?_
    · subst es
      have hi : i < xs.length := by
        have : i < (((xs.length : Nat) : Int) - 0).toNat := hi
        omega
      refine ⟨_, rfl, .inl ⟨rfl, _, SqL.of h2⟩, _, rfl, .inl ⟨rfl, _, SqL.of h1⟩, _, rfl, _, rfl, .ref l, _, rfl, .inl ⟨_, SqL.of h1, rfl⟩, f, _, rfl, g.at_, by omega, by omega, fun t H2 t0 t1 g2 => ?_⟩
      have h1' := g2.kp _ _ lf h1
      have h2' := g2.kp _ _ df h2
      have lt : t.toNat < ls.length := by omega
      refine ⟨l, ls, t, t.toNat, ls[t.toNat], rfl, rfl, h1', by omega, by omega, ?_, List.getElem?_eq_getElem lt, ?_⟩
      · exact seq_at t0 (by omega)
      · refine ⟨d, ds, ls[t.toNat], rfl, rfl, by rw [upd_ne (Ne.symm ld)]; exact h2', ?_, ?_⟩
        · have := pm.length_eq
          rw [List.length_append] at this
          rw [sizeLine_eq]; omega
        have er := perm_erase (xs := ls) (List.getElem?_eq_getElem lt)
        refine ⟨_, ls.eraseIdx t.toNat, ds ++ [ls[t.toNat]], rfl, ((g.trans g2).put lf hl).put df (s1.free hd), by rw [upd_ne ld]; exact upd_same, upd_same, ?_, ?_⟩
        · rw [List.append_assoc]
          exact (er.append_left ds).trans pm
        · rw [List.length_eraseIdx, if_pos lt]
          omega
    · subst es
      have : ls = [] := by
        exact List.length_eq_zero_iff.mp (by omega)
      subst this
      rw [List.append_nil] at pm
      exact ⟨_, rfl, k d ds H' pm g (s1.free hd) h2⟩
end
end Wr
-- WrLaw3
namespace Wr
open PySem L2
theorem cmul_bool (i : Int) (b : Bool) : CMul i (if b = true then 1 else 0) := by
  cases b
  · exact .inr ⟨by decide, by decide⟩
  · exact .inr ⟨by decide, by decide⟩
section
variable {P : Program} {w : World} {K : PySem.W.Frag} {mg : Str → Option Value} {base : Heap} {f : Addr} {fd : FuncData}
abbrev sFeed : Stmt := top 65
theorem scFeed : FnScope ["_law_script", "_law_k", "_law_cell", "_law_seed"] ["_law_script", "_law_k"] (defScope sFeed) := ⟨rfl, rfl, rfl, by decide +kernel, rfl, by decide +kernel, by decide +kernel⟩
def spFeed (K : PySem.W.Frag) : Sp := fun vs H Q _ => ∃ (a : Addr) (xs : List Int) (k : Nat), vs = [.ref a, .int (k : Nat)] ∧ SqL K H a (xs.map V.int) ∧ (k < xs.length ∨ xs = []) ∧ k ≤ 2 ∧ ∀ f H', H f = none → Same H H' → FeedAt H' f → Q (.ref f) H'
theorem ok_feed (hb : ∀ x ∈ blts, mg x = none) (F : L2.Fun K "_law_feed" "_law_feed" sFeed f fd) : FnOk P w K mg base CX0 1 f fd ["_law_script", "_law_k"] (spFeed K) := by
  refine F.ok scFeed (fun vs H Q E h => ?_) (fun cdv A outer s H vs Q E hr h => ?_)
  · obtain ⟨a, xs, k, rfl, _⟩ := h
    rfl
  · obtain ⟨a, xs, k, rfl, ha, hk, k2, kk⟩ := h
    have nd := scFeed.nd
    refine ⟨_, pss_cons (ps_set (i := 2) nd rfl (Or.inl rfl) (pe_op op_add (pe_op op_mul pe_int (pv 1)) pe_int))
      (pss_cons (ps_if (pt_cmpR op_lt (pv 1) (pe_callB call_len rfl (hb _ (by decide)) (by first | rfl | kernel_rfl) (pa_cons (pv 0) pa_nil)) (nomark _))
        (pss_one (ps_set (i := 2) nd rfl (Or.inl rfl) (pe_callB call_abs rfl (hb _ (by decide)) (by first | rfl | kernel_rfl) (pa_cons (pe_ix ix_list (pv 0) (pv 1) (fun _ _ => rfl)) pa_nil))))
        (pss_one (ps_if (pt_cmpR op_gt (pe_callB call_len rfl (hb _ (by decide)) (by first | rfl | kernel_rfl) (pa_cons (pv 0) pa_nil)) pe_int (nomark _)) pss_never pss_nil)))
      (pss_cons (ps_set (i := 3) nd rfl (Or.inl rfl) (pe_op op_add (pe_op op_modN (pe_op op_add (pe_op op_mul (pe_op op_modN (pv 2) pe_int) pe_int) (pe_op op_mul pe_int (pv 1))) pe_int) pe_int))
      (pss_one (ps_ret (pe_lst (pa_cons (pe_op op_mul (pv 2) (pe_callTy call_int1 rfl (hb _ (by decide)) (by first | rfl | kernel_rfl) (pa_cons (pe_cmpR op_ge (pv 2) (pe_op op_pow pe_int pe_int) (nomark _)) pa_nil))) (pa_cons (pv 3) (pa_cons pe_int pa_nil)))))))), ?_⟩
    refine ⟨_, rfl, _, _, rfl, rfl, .inl ⟨by decide, by decide⟩, _, _, rfl, rfl, _, rfl, _, rfl, .ref a, _, rfl, .inl ⟨_, ha, rfl⟩, _, _, rfl, rfl, _, rfl, ?_⟩
    rw [List.length_map]
    by_cases hlt : k < xs.length
    · rw [decide_eq_true (by omega)]
      refine iteT ⟨_, rfl, _, rfl, a, _, _, _, rfl, rfl, ha, atI_nat (v := .int xs[k]) (by rw [List.getElem?_map, List.getElem?_eq_getElem hlt]; rfl), _, rfl, ?_⟩
      refine ⟨_, rfl, _, _, rfl, rfl, (by show (2147483629 : Int) ≠ 0; decide), _, _, rfl, rfl, .inr ⟨by decide, by decide⟩, _, rfl, _, _, rfl, rfl, .inl ⟨by decide, by decide⟩, _, _, rfl, rfl, _, _, rfl, rfl, (by show (2147483629 : Int) ≠ 0; decide), _, _, rfl, rfl, ?_⟩
      refine ⟨_, rfl, _, rfl, _, _, rfl, rfl, ⟨by decide, by decide, by decide⟩, _, _, rfl, rfl, .inr ⟨_, rfl, _, _, rfl, rfl, ?_, _, rfl, three_le, fun l hl => ?_⟩⟩
      · exact cmul_bool _ _
      · exact kk l _ hl (same_new hl) ⟨_, _, _, upd_same⟩
    · have e0 : xs = [] := hk.resolve_left hlt
      rw [decide_eq_false (by omega)]
      refine iteF ⟨_, rfl, .ref a, _, rfl, .inl ⟨_, ha, rfl⟩, _, _, rfl, rfl, _, rfl, ?_⟩
      rw [List.length_map, e0]
      refine iteF ?_
      refine ⟨_, rfl, _, _, rfl, rfl, (by show (2147483629 : Int) ≠ 0; decide), _, _, rfl, rfl, .inr ⟨by decide, by decide⟩, _, rfl, _, _, rfl, rfl, .inl ⟨by decide, by decide⟩, _, _, rfl, rfl, _, _, rfl, rfl, (by show (2147483629 : Int) ≠ 0; decide), _, _, rfl, rfl, ?_⟩
      refine ⟨_, rfl, _, rfl, _, _, rfl, rfl, ⟨by decide, by decide, by decide⟩, _, _, rfl, rfl, .inr ⟨_, rfl, _, _, rfl, rfl, ?_, _, rfl, three_le, fun l hl => ?_⟩⟩
      · exact cmul_bool _ _
      · exact kk l _ hl (same_new hl) ⟨_, _, _, upd_same⟩
end
end Wr
-- WrLaw4
namespace Wr
open PySem L2
section
variable {P : Program} {w : World} {K : PySem.W.Frag} {mg : Str → Option Value} {base : Heap} {f : Addr} {fd : FuncData}
abbrev sBounds : Stmt := top 69
theorem scBounds : FnScope ["_law_feed_here", "_law_near", "_law_limit", "_law_form", "_law_slack"] ["_law_feed_here", "_law_near", "_law_limit"] (defScope sBounds) := ⟨rfl, rfl, rfl, by decide +kernel, rfl, by decide +kernel, by decide +kernel⟩
def spBounds : Sp := fun vs H Q _ => ∃ (f : Addr) (x m : Int), vs = [.ref f, .int x, .int m] ∧ FeedAt H f ∧ 0 ≤ x ∧ x ≤ m ∧ m ≤ 1000 ∧ ∀ q (lo hi : Int) H', 0 ≤ lo → lo ≤ x → x ≤ hi → hi ≤ m → Fed f H H' → H' q = some (.tup [.int lo, .int hi]) → Q (.ref q) H'
theorem ok_bounds (hb : ∀ x ∈ blts, mg x = none) (T : TakeD P w K mg base) (F : L2.Fun K "_law_bounds" "_law_bounds" sBounds f fd) : FnOk P w K mg base CX0 2 f fd ["_law_feed_here", "_law_near", "_law_limit"] spBounds := by
  refine F.ok scBounds (fun vs H Q E h => ?_) (fun cdv A outer s H vs Q E hr h => ?_)
  · obtain ⟨f, x, m, rfl, _⟩ := h
    rfl
  · obtain ⟨f, x, m, rfl, hf, h0, h1, h2, k⟩ := h
    have nd := scBounds.nd
    refine ⟨_, pss_cons (ps_par (i := 3) (j := 4) rfl nd rfl rfl (by decide) rfl rfl (pa_cons (pe_dv T hr pass0 (pa_cons (pv 0) (pa_cons pe_int pa_nil))) (pa_cons (pe_op op_add pe_int (pe_dv T hr pass0 (pa_cons (pv 0) (pa_cons
          (pe_ix ix_list (pe_lst (pa_cons pe_int (pa_cons (pe_op op_add (pe_op op_fdivN (pv 2) pe_int) pe_int) pa_nil))) (pe_dv T hr pass0 (pa_cons (pv 0) (pa_cons pe_int pa_nil))) (fun _ _ => rfl)) pa_nil)))) pa_nil)) rfl)
      (pss_cons (ps_if (pt_cmpR op_eq (pv 3) pe_int (nomark _)) (pss_one (ps_ret (pe_tup (pa_cons (pv 1) (pa_cons (pv 1) pa_nil))))) pss_nil)
      (pss_cons (ps_if (pt_cmpR op_eq (pv 3) pe_int (nomark _)) (pss_one (ps_ret (pe_tup (pa_cons pe_int (pa_cons (pe_callB (call_min2 rfl) rfl (hb _ (by decide)) (by first | rfl | kernel_rfl) (pa_cons (pv 2) (pa_cons (pe_op op_add (pv 1) (pe_dv T hr pass0 (pa_cons (pv 0) (pa_cons (pe_op op_add (pv 4) pe_int) pa_nil)))) pa_nil))) pa_nil))))) pss_nil)
      (pss_one (ps_ret (pe_tup (pa_cons (pe_callB (call_max2 rfl) rfl (hb _ (by decide)) (by first | rfl | kernel_rfl) (pa_cons pe_int (pa_cons (pe_op op_sub (pv 1) (pe_dv T hr pass0 (pa_cons (pv 0) (pa_cons (pe_op op_add (pv 4) pe_int) pa_nil)))) pa_nil)))
        (pa_cons (pe_callB (call_min2 rfl) rfl (hb _ (by decide)) (by first | rfl | kernel_rfl) (pa_cons (pv 2) (pa_cons (pe_op op_add (pv 1) (pe_dv T hr pass0 (pa_cons (pv 0) (pa_cons (pe_op op_add (pv 4) pe_int) pa_nil)))) pa_nil))) pa_nil))))))), ?_⟩
    refine ⟨_, rfl, f, 4, rfl, hf, by decide, by decide, fun d1 H1 a1 a2 g1 => ?_⟩
    refine ⟨_, rfl, _, rfl, _, _, rfl, rfl, ⟨by decide, by decide⟩, _, _, rfl, rfl, two_le, fun l hl => ?_⟩
    have s1 := same_new (o := .lst [.int 2, .int (m.fdiv 4 + 1)]) hl
    have lf : l ≠ f := fun z => by obtain ⟨_, _, _, e⟩ := g1.at_; rw [← z, hl] at e; cases e
    refine ⟨_, rfl, f, 2, rfl, g1.at_.same s1, by decide, by decide, fun d2 H2 b1 b2 g2 => ?_⟩
    have hm : 0 ≤ m.fdiv 4 := Int.fdiv_nonneg (by omega) (by decide)
    have hm2 : m.fdiv 4 ≤ m := by
      have := Int.mul_fdiv_add_fmod m 4
      have := Int.fmod_nonneg_of_pos m (b := 4) (by decide)
      omega
    obtain ⟨n, hn, n1, n2⟩ : ∃ n : Int, atI [V.int 2, V.int (m.fdiv 4 + 1)] d2 = some (.int n) ∧ 0 < n ∧ n ≤ 1002 := by
      have : d2 = 0 ∨ d2 = 1 := by omega
      rcases this with rfl | rfl
      · exact ⟨2, rfl, by decide, by decide⟩
      · exact ⟨m.fdiv 4 + 1, rfl, by omega, by omega⟩
    refine ⟨l, _, _, _, rfl, rfl, SqL.of (g2.kp _ _ lf upd_same), hn, f, n, rfl, g2.at_, n1, by omega, fun d3 H3 c1 c2 g3 => ?_⟩
    have gg := (g1.step s1).trans (g2.trans g3)
    refine ⟨_, _, rfl, rfl, _, _, rfl, ?_⟩
    refine ⟨_, rfl, rfl, _, rfl, ?_⟩
    refine ite2 (fun _ => ?_) (fun _ => ?_)
    · exact ⟨_, rfl, _, rfl, two_le, fun q hq => k q x x _ h0 (Int.le_refl _) (Int.le_refl _) h1 (gg.step (same_new hq)) upd_same⟩
    refine ⟨_, rfl, rfl, _, rfl, ?_⟩
    refine ite2 (fun _ => ?_) (fun _ => ?_)
    · refine ⟨_, rfl, _, rfl, _, rfl, _, rfl, _, _, rfl, rfl, f, _, rfl, gg.at_, by omega, by omega, fun t H4 t1 t2 g4 => ⟨_, _, rfl, rfl, _, _, rfl, two_le, fun q hq => ?_⟩⟩
      rw [min_if]
      exact k q 0 (min m (x + t)) _ (Int.le_refl _) h0 (by omega) (by omega) ((gg.trans g4).step (same_new hq)) upd_same
    · refine ⟨_, rfl, _, rfl, _, rfl, _, _, rfl, rfl, f, _, rfl, gg.at_, by omega, by omega, fun t H4 t1 t2 g4 => ⟨_, _, rfl, rfl, _, _, rfl, _, rfl, _, rfl, _, rfl, _, rfl, _, _, rfl, rfl, f, _, rfl, g4.at_, by omega, by omega, fun u H5 u1 u2 g5 => ⟨_, _, rfl, rfl, _, _, rfl, two_le, fun q hq => ?_⟩⟩⟩
      rw [min_if, max_if]
      exact k q (max 0 (x - t)) (min m (x + u)) _ (by omega) (by omega) (by omega) (by omega) ((gg.trans (g4.trans g5)).step (same_new hq)) upd_same
end
end Wr
-- WrLaw5
namespace Wr
open PySem L2
/-- the law's own plan: tuples of three -/
def LPlanAt (H : Hp) : Plan → Addr → Prop
  | .leaf x lo hi, a => H a = some (.tup [.str x, .int lo, .int hi])
  | .op q l r, a => ∃ u v, H a = some (.tup [.str (signOf q), .ref u, .ref v]) ∧ LPlanAt H l u ∧ LPlanAt H r v
theorem LPlanAt.stay {H H' : Hp} (k : Stay H H') : ∀ {p : Plan} {a : Addr}, LPlanAt H p a → LPlanAt H' p a
  | .leaf _ _ _, _, h => k _ _ (fun _ z => nomatch z) h
  | .op _ _ _, _, ⟨u, v, h, h1, h2⟩ => ⟨u, v, k _ _ (fun _ z => nomatch z) h, LPlanAt.stay k h1, LPlanAt.stay k h2⟩
/-- the length x is possible between the ends -/
def InS (x : Int) (p : Plan) : Prop := ∃ s, p.span = some s ∧ s.1 ≤ x ∧ x ≤ s.2
theorem inS_and {x : Int} {l r : Plan} (h1 : InS x l) (h2 : InS x r) : InS x (.op true l r) := by
  obtain ⟨s, e1, a1, a2⟩ := h1
  obtain ⟨t, e2, b1, b2⟩ := h2
  refine ⟨(max s.1 t.1, min s.2 t.2), ?_, by simp only; omega, by simp only; omega⟩
  show opO true l.span r.span = _
  rw [e1, e2]
  show andS s t = _
  unfold andS
  rw [if_pos (by omega)]
theorem inS_add {x y z : Int} {l r : Plan} (h1 : InS y l) (h2 : InS z r) (t1 : x ≤ y + z) (t2 : y ≤ x + z) (t3 : z ≤ x + y) (x0 : 0 ≤ x) : InS x (.op false l r) := by
  obtain ⟨s, e1, a1, a2⟩ := h1
  obtain ⟨t, e2, b1, b2⟩ := h2
  refine ⟨addS s t, ?_, ?_, ?_⟩
  · show opO false l.span r.span = _
    rw [e1, e2]; rfl
  · unfold addS; simp only; omega
  · unfold addS; simp only; omega
/-- the feed and the titles have moved, all else is as it was -/
def K2 (f g : Addr) (H H' : Hp) : Prop := ∀ b o, b ≠ f → b ≠ g → H b = some o → H' b = some o
theorem K2.trans {f g : Addr} {H H1 H2 : Hp} (a : K2 f g H H1) (b : K2 f g H1 H2) : K2 f g H H2 := fun c o n m h => b c o n m (a c o n m h)
theorem K2.of_keep {f g : Addr} {H H' : Hp} (a : Keep f H H') : K2 f g H H' := fun c o n _ h => a c o n h
theorem K2.stay {f g : Addr} {xs : List V} {H H' : Hp} (a : FeedAt H f) (e : H g = some (.lst xs)) (k : K2 f g H H') : Stay H H' := fun b o n h => k b o (a.ne h n) (fun z => by rw [z, e] at h; cases h; exact n _ rfl) h
section
variable {P : Program} {w : World} {K : PySem.W.Frag} {mg : Str → Option Value} {base : Heap} {f : Addr} {fd : FuncData}
abbrev nTree : List Str := ["_law_feed_here", "_law_titles", "_law_many", "_law_near", "_law_limit", "_law_bounds_here", "_law_cut", "_law_back", "_law_begin", "_law_end"]
abbrev pTree : List Str := ["_law_feed_here", "_law_titles", "_law_many", "_law_near", "_law_limit"]
abbrev sTree : Stmt := top 70
theorem scTree : FnScope nTree pTree (defScope sTree) := ⟨rfl, rfl, rfl, by decide +kernel, rfl, by decide +kernel, by decide +kernel⟩
def spTree (n : Nat) : Sp := fun vs H Q _ => ∃ (f t : Addr) (m x l : Int) (ts : List Str), vs = [.ref f, .ref t, .int m, .int x, .int l] ∧ FeedAt H f ∧ H t = some (.lst (ts.map V.str)) ∧ f ≠ t ∧ 1 ≤ m ∧ m ≤ n ∧ m ≤ 100 ∧ m ≤ ts.length ∧ 0 ≤ x ∧ x ≤ l ∧ l ≤ 1000 ∧
  ∀ q p rest H', p.size = m → p.ok l → InS x p → (p.names ++ rest).Perm ts → H' t = some (.lst (rest.map V.str)) → FeedAt H' f → K2 f t H H' → LPlanAt H' p q → Q (.ref q) H'
theorem ok_tree {n : Nat} (hb : ∀ x ∈ blts, mg x = none) (T : TakeD P w K mg base) (B : Dv P w K mg base CX0 2 "_law_bounds" ["_law_feed_here", "_law_near", "_law_limit"] spBounds) (D : Dv P w K mg base CX0 (2 + n) "_law_tree" pTree (spTree n)) (F : L2.Fun K "_law_tree" "_law_tree" sTree f fd) :
    FnOk P w K mg base CX0 (2 + n + 1) f fd pTree (spTree (n + 1)) := by
  refine F.ok scTree (fun vs H Q E h => ?_) (fun cdv A outer s H vs Q E hr h => ?_)
  · obtain ⟨f, t, m, x, l, ts, rfl, _⟩ := h
    rfl
  · obtain ⟨f, t, m, x, l, ts, rfl, hf, ht, nft, m1, mn, m100, mt, x0, xl, l1, k⟩ := h
    have nd := scTree.nd
    have hr1 : Room 1 _ := hr.mono (by omega)
    refine ⟨_, pss_cons (ps_if (pt_cmpR op_eq (pv 2) pe_int (nomark _))
        (pss_cons (ps_set (i := 5) nd rfl (Or.inl rfl) (pe_dv B (hr.mono (by omega)) pass0 (pa_cons (pv 0) (pa_cons (pv 3) (pa_cons (pv 4) pa_nil)))))
        (pss_one (ps_ret (pe_tup (pa_cons (pe_bm0 PySem.F.plainAttrs_list PySem.F.slot_list_pop PySem.F.type_list_pop mt_pop (pv 1)) (pa_cons (pe_ix ix_tup (pv 5) pe_int (fun _ _ => rfl)) (pa_cons (pe_ix ix_tup (pv 5) pe_int (fun _ _ => rfl)) pa_nil))))))) pss_nil)
      (pss_cons (ps_set (i := 6) nd rfl (Or.inl rfl) (pe_op op_add pe_int (pe_dv T hr1 pass0 (pa_cons (pv 0) (pa_cons (pe_op op_sub (pv 2) pe_int) pa_nil)))))
      (pss_cons (ps_if (pt_cmpR op_eq (pe_dv T hr1 pass0 (pa_cons (pv 0) (pa_cons pe_int pa_nil))) pe_int (nomark _))
        (pss_cons (ps_set (i := 7) nd rfl (Or.inl rfl) (pe_dv D hr pass0 (pa_cons (pv 0) (pa_cons (pv 1) (pa_cons (pv 6) (pa_cons (pv 3) (pa_cons (pv 4) pa_nil)))))))
        (pss_one (ps_ret (pe_tup (pa_cons pe_str (pa_cons (pv 7) (pa_cons (pe_dv D hr pass0 (pa_cons (pv 0) (pa_cons (pv 1) (pa_cons (pe_op op_sub (pv 2) (pv 6)) (pa_cons (pv 3) (pa_cons (pv 4) pa_nil)))))) pa_nil))))))) pss_nil)
      (pss_cons (ps_set (i := 8) nd rfl (Or.inl rfl) (pe_dv T hr1 pass0 (pa_cons (pv 0) (pa_cons (pe_op op_add (pv 4) pe_int) pa_nil))))
      (pss_cons (ps_set (i := 9) nd rfl (Or.inl rfl) (pe_op op_add (pe_callB call_abs rfl (hb _ (by decide)) (by first | rfl | kernel_rfl) (pa_cons (pe_op op_sub (pv 3) (pv 8)) pa_nil))
          (pe_dv T hr1 pass0 (pa_cons (pv 0) (pa_cons (pe_op op_add (pe_op op_sub (pe_op op_add (pv 3) (pv 8)) (pe_callB call_abs rfl (hb _ (by decide)) (by first | rfl | kernel_rfl) (pa_cons (pe_op op_sub (pv 3) (pv 8)) pa_nil))) pe_int) pa_nil)))))
      (pss_cons (ps_set (i := 7) nd rfl (Or.inl rfl) (pe_dv D hr pass0 (pa_cons (pv 0) (pa_cons (pv 1) (pa_cons (pe_op op_sub (pv 2) (pv 6)) (pa_cons (pe_callB (call_min2 rfl) rfl (hb _ (by decide)) (by first | rfl | kernel_rfl) (pa_cons (pv 4) (pa_cons (pv 9) pa_nil))) (pa_cons (pv 4) pa_nil)))))))
      (pss_one (ps_ret (pe_tup (pa_cons pe_str (pa_cons (pe_dv D hr pass0 (pa_cons (pv 0) (pa_cons (pv 1) (pa_cons (pv 6) (pa_cons (pv 8) (pa_cons (pv 4) pa_nil)))))) (pa_cons (pv 7) pa_nil))))))))))), ?_⟩
    refine ⟨_, rfl, rfl, _, rfl, ?_⟩
    refine ite2 (fun e => ?_) (fun e => ?_)
    · have e : m = 1 := by
        have := of_decide_eq_true e
        injection this
      subst e
      obtain ⟨rest, z, rfl⟩ : ∃ rest z, ts = rest ++ [z] := by
        rcases List.eq_nil_or_concat ts with h | ⟨r, z, h⟩
        · rw [h] at mt; exact absurd mt (by decide)
        · exact ⟨r, z, by rw [h, List.concat_eq_append]⟩
      refine ⟨_, rfl, _, rfl, _, rfl, f, x, l, rfl, hf, x0, xl, l1, fun q lo hi H1 b1 b2 b3 b4 g1 hq => ?_⟩
      have ht1 := g1.kp _ _ (Ne.symm nft) ht
      rw [List.map_append] at ht1
      have ql : q ≠ t := fun z' => by rw [z', ht1] at hq; cases hq
      refine ⟨_, rfl, .inl ⟨rfl, _, SqL.of ht1⟩, t, _, .str z, rfl, rfl, ht1, ?_, ?_⟩
      · rw [List.length_append, List.getElem?_append_right (by show _ ≤ _ + 1 - 1; omega)]
        show [V.str z][_ + 1 - 1 - _]? = _
        rw [Nat.add_sub_cancel, Nat.sub_self]; rfl
      have e2 : (rest.map V.str ++ [V.str z]).dropLast = rest.map V.str := List.dropLast_concat
      rw [show ([z].map V.str) = [V.str z] from rfl, e2]
      have hq2 : (upd H1 t (.lst (rest.map V.str))) q = some (.tup [.int lo, .int hi]) := by rw [upd_ne ql]; exact hq
      refine ⟨_, rfl, q, _, _, _, rfl, rfl, SqT.of hq2, rfl, _, rfl, q, _, _, _, rfl, rfl, SqT.of hq2, rfl, three_le, fun y hy => ?_⟩
      have s1 := same_new (o := .tup [.str z, .int lo, .int hi]) hy
      refine k y (.leaf z lo hi) rest _ rfl ⟨b1, by omega, b4⟩ ⟨(lo, hi), rfl, b2, b3⟩ ?_ (s1 _ _ upd_same) ((g1.at_.upd (Ne.symm nft)).same s1) ?_ upd_same
      · exact List.perm_append_comm
      · refine (K2.of_keep g1.kp).trans (K2.trans ?_ (fun b o _ _ h => s1 b o h))
        intro b o _ n h
        rw [upd_ne n]; exact h
    have m2 : 2 ≤ m := by
      have : m ≠ 1 := fun z => e (decide_eq_true (by rw [z]))
      omega
    refine ⟨_, rfl, _, rfl, _, _, rfl, rfl, f, _, rfl, hf, by omega, by omega, fun cut H1 c1 c2 g1 => ⟨_, _, rfl, rfl, ?_⟩⟩
    have ht1 := g1.kp _ _ (Ne.symm nft) ht
    refine ⟨_, rfl, f, 2, rfl, g1.at_, by decide, by decide, fun d H2 d1 d2 g2 => ⟨rfl, _, rfl, ?_⟩⟩
    have g12 := g1.trans g2
    have ht2 := g2.kp _ _ (Ne.symm nft) ht1
    refine ite2 (fun e => ?_) (fun e => ?_)
    · refine ⟨_, rfl, _, rfl, _, rfl, _, rfl, _, rfl, f, t, 1 + cut, x, l, ts, rfl, g12.at_, ht2, nft, by omega, by omega, by omega, by omega, x0, xl, l1, fun q1 p1 r1 H3 z1 o1 i1 pm1 ht3 hf3 k3 hp1 => ?_⟩
      have lr : m - (1 + cut) ≤ r1.length := by
        have := pm1.length_eq
        rw [List.length_append, Plan.names_len] at this
        omega
      refine ⟨_, rfl, _, rfl, _, rfl, _, rfl, _, rfl, _, _, rfl, rfl, _, rfl, _, rfl, f, t, m - (1 + cut), x, l, r1, rfl, hf3, ht3, nft, by omega, by omega, by omega, lr, x0, xl, l1, fun q2 p2 r2 H4 z2 o2 i2 pm2 ht4 hf4 k4 hp2 => ⟨three_le, fun y hy => ?_⟩⟩
      have s1 := same_new (o := .tup [.str "&", .ref q1, .ref q2]) hy
      refine k y (.op true p1 p2) r2 _ ?_ ⟨o1, o2⟩ (inS_and i1 i2) ?_ (s1 _ _ ht4) (hf4.same s1) ((K2.of_keep g12.kp).trans (k3.trans (k4.trans fun b o _ _ h => s1 b o h))) ⟨q1, q2, upd_same, (hp1.stay (K2.stay hf3 ht3 k4)).stay (Stay.of_same s1), hp2.stay (Stay.of_same s1)⟩
      · show ((p1.size + p2.size : Nat) : Int) = m
        omega
      · show ((p1.names ++ p2.names) ++ r2).Perm ts
        rw [List.append_assoc]
        exact (pm2.append_left p1.names).trans pm1
    · refine ⟨_, rfl, _, rfl, _, _, rfl, rfl, f, l + 1, rfl, g12.at_, by omega, by omega, fun bg H3 bg0 bg1 g3 => ?_⟩
      have g13 := g12.trans g3
      have ht3 := g3.kp _ _ (Ne.symm nft) ht2
      obtain ⟨ab, hab⟩ : ∃ ab : Int, ab = if x - bg < 0 then -(x - bg) else x - bg := ⟨_, rfl⟩
      have ab1 : x - bg ≤ ab ∧ bg - x ≤ ab ∧ 0 ≤ ab ∧ (ab = x - bg ∨ ab = bg - x) := by
        rw [hab]
        split <;> omega
      refine ⟨_, rfl, _, rfl, _, _, rfl, rfl, _, rfl, _, rfl, _, rfl, _, rfl, _, _, rfl, rfl, _, rfl, _, rfl, _, _, rfl, rfl, _, rfl, _, _, rfl, rfl, _, _, rfl, rfl, ?_⟩
      rw [← hab]
      refine ⟨f, x + bg - ab + 1, rfl, g13.at_, by omega, by omega, fun en H4 en0 en1 g4 => ⟨_, _, rfl, rfl, ?_⟩⟩
      have g14 := g13.trans g4
      have ht4 := g4.kp _ _ (Ne.symm nft) ht3
      refine ⟨_, rfl, _, rfl, _, rfl, _, rfl, _, _, rfl, rfl, _, rfl, _, rfl, _, _, rfl, _, rfl, ?_⟩
      rw [min_if]
      refine ⟨f, t, m - (1 + cut), min l (ab + en), l, ts, rfl, g14.at_, ht4, nft, by omega, by omega, by omega, by omega, by omega, by omega, l1, fun q2 p2 r1 H5 z2 o2 i2 pm1 ht5 hf5 k5 hp2 => ?_⟩
      have lr : 1 + cut ≤ r1.length := by
        have := pm1.length_eq
        rw [List.length_append, Plan.names_len] at this
        omega
      refine ⟨_, rfl, _, rfl, _, rfl, _, rfl, _, rfl, f, t, 1 + cut, bg, l, r1, rfl, hf5, ht5, nft, by omega, by omega, by omega, lr, by omega, by omega, l1, fun q1 p1 r2 H6 z1 o1 i1 pm2 ht6 hf6 k6 hp1 => ⟨_, rfl, three_le, fun y hy => ?_⟩⟩
      have s1 := same_new (o := .tup [.str "+", .ref q1, .ref q2]) hy
      refine k y (.op false p1 p2) r2 _ ?_ ⟨o1, o2⟩ (inS_add i1 i2 (by omega) (by omega) (by omega) x0) ?_ (s1 _ _ ht6) (hf6.same s1) ((K2.of_keep g14.kp).trans (k5.trans (k6.trans fun b o _ _ h => s1 b o h))) ⟨q1, q2, upd_same, hp1.stay (Stay.of_same s1), (hp2.stay (K2.stay hf5 ht5 k6)).stay (Stay.of_same s1)⟩
      · show ((p1.size + p2.size : Nat) : Int) = m
        omega
      · show ((p1.names ++ p2.names) ++ r2).Perm ts
        have a1 : ((p1.names ++ p2.names) ++ r2).Perm (p2.names ++ (p1.names ++ r2)) := by
          rw [← List.append_assoc]
          exact List.perm_append_comm.append_right r2
        exact a1.trans ((pm2.append_left p2.names).trans pm1)
theorem all_tree (hb : ∀ x ∈ blts, mg x = none) (T : TakeD P w K mg base) (B : Dv P w K mg base CX0 2 "_law_bounds" ["_law_feed_here", "_law_near", "_law_limit"] spBounds) (F : L2.Fun K "_law_tree" "_law_tree" sTree f fd) (hm : mg "_law_tree" = some (.ref f)) (hB : Binds K fd pTree []) :
    ∀ n, Dv P w K mg base CX0 (2 + n) "_law_tree" pTree (spTree n)
  | 0 => ⟨f, fd, ⟨fun vs H Q E h => by obtain ⟨f, t, m, x, l, ts, rfl, _⟩ := h; rfl, fun A outer s H args us vs Q E _ _ _ _ h => by
      obtain ⟨f, t, m, x, l, ts, _, _, _, _, h1, h0, _⟩ := h
      omega⟩, hm, F.kp, hB⟩
  | n + 1 => ⟨f, fd, ok_tree hb T B (all_tree hb T B F hm hB n) F, hm, F.kp, hB⟩
end
end Wr
-- WrLaw6
namespace Wr
open PySem L2
theorem name_not_sign {z : Str} (h : NameOk z) : z ∉ (["+", "&"] : List Str) := by
  intro hm
  have : z = "+" ∨ z = "&" := by simpa using hm
  have hc : z.cps[0]? = some 43 ∨ z.cps[0]? = some 38 := by
    rcases this with rfl | rfl
    · exact .inl rfl
    · exact .inr rfl
  rcases hc with h' | h'
  · exact absurd (h.first _ h') (by decide)
  · exact absurd (h.first _ h') (by decide)
theorem sign_in (q : Bool) : decide (signOf q ∈ (["+", "&"] : List Str)) = true := by
  cases q <;> decide +kernel
section
variable {P : Program} {w : World} {K : PySem.W.Frag} {mg : Str → Option Value} {base : Heap} {f : Addr} {fd : FuncData} {c : Cs}
abbrev sLPiece : Stmt := top 72
theorem scLPiece : FnScope ["_law_plan", "_law_signs", "_law_back", "_law_front"] ["_law_plan", "_law_signs"] (defScope sLPiece) := ⟨rfl, rfl, rfl, by decide +kernel, rfl, by decide +kernel, by decide +kernel⟩
def spLPiece (c : Cs) (n : Nat) : Sp := fun vs H Q _ => ∃ (a : Addr) (p : Plan) (s : S2) (B : Int), vs = [.ref a, .bl true] ∧ LPlanAt H p a ∧ (∀ z ∈ p.names, NameOk z) ∧ p.ok B ∧ p.span = some s ∧ p.size ≤ n ∧ p.size ≤ 1000 ∧ ∀ b H', Same H H' → PieceAt c H' p b → Q (.ref b) H'
theorem ok_lpiece {n : Nat} (hb : ∀ x ∈ blts, mg x = none) (SM : SpanMv P w K mg base c) (TM : TieMv P w K mg base c) (CM : ChainMv P w K mg base c) (BM : BundleMv P w K mg base c) (PA : PAddD P w K mg base c) (PB : PAndD P w K mg base c)
    (D : Dv P w K mg base CX0 (8 + n) "_law_piece" ["_law_plan", "_law_signs"] (spLPiece c n)) (F : L2.Fun K "_law_piece" "_law_piece" sLPiece f fd) : FnOk P w K mg base CX0 (8 + n + 1) f fd ["_law_plan", "_law_signs"] (spLPiece c (n + 1)) := by
  refine F.ok scLPiece (fun vs H Q E h => ?_) (fun cdv A outer s H vs Q E hr h => ?_)
  · obtain ⟨a, p, s, B, rfl, _⟩ := h
    rfl
  · obtain ⟨a, p, s, B, rfl, ha, hnm, ok, hs, hn, h1000, k⟩ := h
    have nd := scLPiece.nd
    refine ⟨_, pss_cons (ps_if (pt_cmpR op_notIn_seq (pe_ix ix_tup (pv 0) pe_int (fun _ _ => rfl)) (pe_tup (pa_cons pe_str (pa_cons pe_str pa_nil))) rfl)
        (pss_one (ps_ret (pe_mv TM (hr.mono (by omega)) pass0 (pa_cons (pe_ix ix_tup (pv 0) pe_int (fun _ _ => rfl)) (pa_cons (pe_mv SM (hr.mono (by omega)) pass0 (pa_cons (pe_ix ix_tup (pv 0) pe_int (fun _ _ => rfl)) (pa_cons (pe_ix ix_tup (pv 0) pe_int (fun _ _ => rfl)) pa_nil))) pa_nil))))) pss_nil)
      (pss_cons (ps_set (i := 2) nd rfl (Or.inl rfl) (pe_dv D hr pass0 (pa_cons (pe_ix ix_tup (pv 0) pe_int (fun _ _ => rfl)) (pa_cons (pv 1) pa_nil))))
      (pss_cons (ps_set (i := 3) nd rfl (Or.inl rfl) (pe_dv D hr pass0 (pa_cons (pe_ix ix_tup (pv 0) pe_int (fun _ _ => rfl)) (pa_cons (pv 1) pa_nil))))
      (pss_cons (ps_if (pt_cmpR op_eq (pe_ix ix_tup (pv 0) pe_int (fun _ _ => rfl)) pe_str (nomark _))
        (pss_one (ps_ret (pe_ifExp (pt_val (pv 1)) (pe_op (op_fam PA (hr.mono (by omega)) pass0) (pv 2) (pv 3)) (pe_mv CM (hr.mono (by omega)) pass0 (pa_cons (pv 2) (pa_cons (pv 3) pa_nil)))))) pss_nil)
      (pss_one (ps_ret (pe_ifExp (pt_val (pv 1)) (pe_op (op_fam PB (hr.mono (by omega)) passL) (pv 2) (pv 3)) (pe_mv BM (hr.mono (by omega)) passL (pa_cons (pv 2) (pa_cons (pv 3) pa_nil))))))))), ?_⟩
    cases p with
    | leaf x lo hi =>
      have ha : H a = some (.tup [.str x, .int lo, .int hi]) := ha
      refine ⟨_, rfl, a, _, _, _, rfl, rfl, SqT.of ha, rfl, two_le, fun p1 hp1 => ⟨p1, _, rfl, .inr (SqT.of upd_same), rfl, rfl, _, rfl, ?_⟩⟩
      have s1 := same_new (o := .tup [.str "+", .str "&"]) hp1
      have ei : inV (.str x) [.str "+", .str "&"] = decide (x ∈ (["+", "&"] : List Str)) := inV_str x ["+", "&"]
      rw [if_pos rfl, ei, decide_eq_false (name_not_sign (hnm x (List.mem_singleton.mpr rfl)))]
      have ha1 := s1 _ _ ha
      refine iteT ⟨_, rfl, a, _, _, _, rfl, rfl, SqT.of ha1, rfl, _, rfl, a, _, _, _, rfl, rfl, SqT.of ha1, rfl, _, rfl, a, _, _, _, rfl, rfl, SqT.of ha1, rfl, ?_⟩
      unfold tNil
      refine made_span (s := (lo, hi)) rfl ⟨ok.1, ok.2.1⟩ fun sp H2 g2 hsp => ?_
      exact made_tie (s := (lo, hi)) hsp fun y H3 g3 hy => k y H3 (s1.trans (g2.trans g3)) hy
    | op q l r =>
      obtain ⟨u, v, e, h1, h2⟩ := ha
      have hn' : l.size + r.size ≤ n + 1 := hn
      have h1000' : l.size + r.size ≤ 1000 := h1000
      have z1 := l.size_pos
      have z2 := r.size_pos
      obtain ⟨s1, s2, es1, es2⟩ := op_span_parts hs
      refine ⟨_, rfl, a, _, _, _, rfl, rfl, SqT.of e, rfl, two_le, fun p1 hp1 => ⟨p1, _, rfl, .inr (SqT.of upd_same), rfl, rfl, _, rfl, ?_⟩⟩
      have g1 := same_new (o := .tup [.str "+", .str "&"]) hp1
      have ei : inV (.str (signOf q)) [.str "+", .str "&"] = decide (signOf q ∈ (["+", "&"] : List Str)) := inV_str (signOf q) ["+", "&"]
      rw [if_pos rfl, ei, sign_in]
      have e1 := g1 _ _ e
      refine iteF ⟨_, rfl, a, _, _, _, rfl, rfl, SqT.of e1, rfl, _, rfl, u, l, s1, B, rfl, h1.stay (Stay.of_same g1), fun z hz => hnm z (List.mem_append_left _ hz), ok.1, es1, by omega, by omega, fun b1 H2 g2 p2 => ?_⟩
      have e2 := g2 _ _ e1
      refine ⟨_, rfl, a, _, _, _, rfl, rfl, SqT.of e2, rfl, _, rfl, v, r, s2, B, rfl, (h2.stay (Stay.of_same g1)).stay (Stay.of_same g2), fun z hz => hnm z (List.mem_append_right _ hz), ok.2, es2, by omega, by omega, fun b2 H3 g3 p3 => ?_⟩
      have p2' := p2.stay (Stay.of_same g3)
      obtain ⟨C1, dx1, _, _, _, _, _, i1, c1, _⟩ := p2'.head
      obtain ⟨C2, dx2, _, _, _, _, _, i2, c2, _⟩ := p3.head
      refine ⟨_, rfl, a, _, _, _, rfl, rfl, SqT.of (g3 _ _ e2), rfl, rfl, _, rfl, ?_⟩
      rw [signOf_eq]
      have gA := g1.trans (g2.trans g3)
      cases q with
      | false =>
        exact iteT ⟨_, rfl, true, rfl, iteT ⟨_, rfl, _, rfl, b1, C1, dx1, _, b2, C2, dx2, _, rfl, rfl, i1, i2, c1, c2, b1, b2, l, r, B, rfl, p2', p3, ok.1, ok.2, by omega, fun y H4 g4 p4 => k y H4 (gA.trans g4) p4, fun z => by rw [hs] at z; cases z⟩⟩
      | true =>
        exact iteF ⟨_, rfl, true, rfl, iteT ⟨_, rfl, _, rfl, b1, C1, dx1, _, b2, C2, dx2, _, rfl, rfl, i1, i2, c1, c2, b1, b2, l, r, B, rfl, p2', p3, ok.1, ok.2, by omega, fun y H4 g4 p4 => k y H4 (gA.trans g4) p4, fun z => by rw [hs] at z; cases z⟩⟩
theorem all_lpiece (hb : ∀ x ∈ blts, mg x = none) (SM : SpanMv P w K mg base c) (TM : TieMv P w K mg base c) (CM : ChainMv P w K mg base c) (BM : BundleMv P w K mg base c) (PA : PAddD P w K mg base c) (PB : PAndD P w K mg base c)
    (F : L2.Fun K "_law_piece" "_law_piece" sLPiece f fd) (hm : mg "_law_piece" = some (.ref f)) (hB : Binds K fd ["_law_plan", "_law_signs"] []) :
    ∀ n, Dv P w K mg base CX0 (8 + n) "_law_piece" ["_law_plan", "_law_signs"] (spLPiece c n)
  | 0 => ⟨f, fd, ⟨fun vs H Q E h => by obtain ⟨a, p, s, B, rfl, _⟩ := h; rfl, fun A outer s H args us vs Q E _ _ _ _ h => by
      obtain ⟨a, p, s', B, _, _, _, _, _, h0, _⟩ := h
      have := p.size_pos
      omega⟩, hm, F.kp, hB⟩
  | n + 1 => ⟨f, fd, ok_lpiece hb SM TM CM BM PA PB (all_lpiece hb SM TM CM BM PA PB F hm hB n) F, hm, F.kp, hB⟩
end
end Wr
-- WrLaw7
namespace Wr
open PySem L2
/-- the text of a plan -/
def textP : Plan → Str
  | .leaf x _ _ => x
  | .op q l r => Str.append (Str.append (Str.append (Str.append (Str.append (Str.append "(" (textP l)) " ") (signOf q)) " ") (textP r)) ")"
theorem len_app (a b : Str) : (Str.append a b).length = a.length + b.length := by
  exact strLen_append a b
theorem text_len : ∀ p : Plan, (∀ z ∈ p.names, NameOk z) → (textP p).length + 6 ≤ 12 * p.size
  | .leaf x lo hi, h => by
    have : x.cps.size ≤ 6 := (h x (List.mem_singleton.mpr rfl)).le
    show x.cps.size + 6 ≤ 12 * 1
    omega
  | .op q l r, h => by
    have h1 := text_len l fun z hz => h z (List.mem_append_left _ hz)
    have h2 := text_len r fun z hz => h z (List.mem_append_right _ hz)
    have e : (textP (.op q l r)).length = 1 + (textP l).length + 1 + (signOf q).length + 1 + (textP r).length + 1 := by
      show (Str.append _ _).length = _
      rw [len_app, len_app, len_app, len_app, len_app, len_app]
      rfl
    have e2 : (signOf q).length = 1 := by cases q <;> rfl
    have e3 : (Plan.op q l r).size = l.size + r.size := rfl
    omega
theorem cnt_app (a b : Str) : PyProof.Rows.cnt 43 (Str.append a b).cps.toList = PyProof.Rows.cnt 43 a.cps.toList + PyProof.Rows.cnt 43 b.cps.toList := by
  have : (Str.append a b).cps.toList = a.cps.toList ++ b.cps.toList := by
    show (a.cps ++ b.cps).toList = _
    rw [Array.toList_append]
  rw [this, PyProof.Rows.cnt_append]
theorem name_plus {z : Str} (h : NameOk z) : PyProof.Rows.cnt 43 z.cps.toList = 0 := by
  refine PyProof.Rows.cnt_none 43 _ fun hm => ?_
  obtain ⟨i, hi⟩ := List.getElem?_of_mem hm
  rw [Array.getElem?_toList] at hi
  rcases h.all i 43 hi with h | h
  · exact absurd h (by decide)
  · exact absurd h (by decide)
theorem text_plus : ∀ p : Plan, (∀ z ∈ p.names, NameOk z) → PyProof.Rows.cnt 43 (textP p).cps.toList = (p.joints : Nat)
  | .leaf x _ _, h => name_plus (h x (List.mem_singleton.mpr rfl))
  | .op q l r, h => by
    have h1 := text_plus l fun z hz => h z (List.mem_append_left _ hz)
    have h2 := text_plus r fun z hz => h z (List.mem_append_right _ hz)
    show PyProof.Rows.cnt 43 (Str.append _ _).cps.toList = _
    rw [cnt_app, cnt_app, cnt_app, cnt_app, cnt_app, cnt_app, h1, h2]
    have a1 : PyProof.Rows.cnt 43 (("(" : Str)).cps.toList = 0 := rfl
    have a2 : PyProof.Rows.cnt 43 ((" " : Str)).cps.toList = 0 := rfl
    have a3 : PyProof.Rows.cnt 43 ((")" : Str)).cps.toList = 0 := rfl
    rw [a1, a2, a3]
    show _ = ((l.joints + r.joints + (if q then 0 else 1) : Nat) : Int)
    cases q with
    | true =>
      have a4 : PyProof.Rows.cnt 43 (signOf true).cps.toList = 0 := rfl
      rw [a4]; simp
    | false =>
      have a4 : PyProof.Rows.cnt 43 (signOf false).cps.toList = 1 := rfl
      rw [a4]; simp; omega
theorem count_text {p : Plan} (h : ∀ z ∈ p.names, NameOk z) : PySem.Txt.count (textP p) "+" = (p.joints : Nat) := (PyProof.Rows.count_cnt _ 43).trans (text_plus p h)
end Wr
-- WrLaw8
namespace Wr
open PySem L2
section
variable {P : Program} {w : World} {K : PySem.W.Frag} {mg : Str → Option Value} {base : Heap} {f : Addr} {fd : FuncData} {c : Cs}
abbrev sWritten : Stmt := top 71
theorem scWritten : FnScope ["_law_plan"] ["_law_plan"] (defScope sWritten) := ⟨rfl, rfl, rfl, by decide +kernel, rfl, by decide +kernel, by decide +kernel⟩
def spWritten (n : Nat) : Sp := fun vs H Q _ => ∃ (a : Addr) (p : Plan), vs = [.ref a] ∧ LPlanAt H p a ∧ (∀ z ∈ p.names, NameOk z) ∧ p.size ≤ n ∧ p.size ≤ 1000 ∧ ∀ H', Same H H' → Q (.str (textP p)) H'
theorem ok_written {n : Nat} (D : Dv P w K mg base CX0 n "_law_written" ["_law_plan"] (spWritten n)) (F : L2.Fun K "_law_written" "_law_written" sWritten f fd) : FnOk P w K mg base CX0 (n + 1) f fd ["_law_plan"] (spWritten (n + 1)) := by
  refine F.ok scWritten (fun vs H Q E h => ?_) (fun cdv A outer s H vs Q E hr h => ?_)
  · obtain ⟨a, p, rfl, _⟩ := h
    rfl
  · obtain ⟨a, p, rfl, ha, hnm, hn, h1000, k⟩ := h
    refine ⟨_, pss_cons (ps_if (pt_cmpR op_in_seq (pe_ix ix_tup (pv 0) pe_int (fun _ _ => rfl)) (pe_tup (pa_cons pe_str (pa_cons pe_str pa_nil))) rfl)
        (pss_one (ps_ret (pe_op op_add_str (pe_op op_add_str (pe_op op_add_str (pe_op op_add_str (pe_op op_add_str (pe_op op_add_str pe_str (pe_dv D hr pass0 (pa_cons (pe_ix ix_tup (pv 0) pe_int (fun _ _ => rfl)) pa_nil))) pe_str) (pe_ix ix_tup (pv 0) pe_int (fun _ _ => rfl))) pe_str) (pe_dv D hr pass0 (pa_cons (pe_ix ix_tup (pv 0) pe_int (fun _ _ => rfl)) pa_nil))) pe_str))) pss_nil)
      (pss_one (ps_ret (pe_ix ix_tup (pv 0) pe_int (fun _ _ => rfl)))), ?_⟩
    cases p with
    | leaf x lo hi =>
      have ha : H a = some (.tup [.str x, .int lo, .int hi]) := ha
      refine ⟨_, rfl, a, _, _, _, rfl, rfl, SqT.of ha, rfl, two_le, fun p1 hp1 => ⟨p1, _, rfl, .inr (SqT.of upd_same), rfl, rfl, _, rfl, ?_⟩⟩
      have s1 := same_new (o := .tup [.str "+", .str "&"]) hp1
      have ei : inV (.str x) [.str "+", .str "&"] = decide (x ∈ (["+", "&"] : List Str)) := inV_str x ["+", "&"]
      rw [if_neg Bool.false_ne_true, ei, decide_eq_false (name_not_sign (hnm x (List.mem_singleton.mpr rfl)))]
      exact iteF ⟨_, rfl, a, _, _, _, rfl, rfl, SqT.of (s1 _ _ ha), rfl, k _ s1⟩
    | op q l r =>
      obtain ⟨u, v, e, h1, h2⟩ := ha
      have hn' : l.size + r.size ≤ n + 1 := hn
      have h1000' : l.size + r.size ≤ 1000 := h1000
      have z1 := l.size_pos
      have z2 := r.size_pos
      have n1 : ∀ z ∈ l.names, NameOk z := fun z hz => hnm z (List.mem_append_left _ hz)
      have n2 : ∀ z ∈ r.names, NameOk z := fun z hz => hnm z (List.mem_append_right _ hz)
      have t1 := text_len l n1
      have t2 := text_len r n2
      have t3 : (signOf q).length = 1 := by cases q <;> rfl
      refine ⟨_, rfl, a, _, _, _, rfl, rfl, SqT.of e, rfl, two_le, fun p1 hp1 => ⟨p1, _, rfl, .inr (SqT.of upd_same), rfl, rfl, _, rfl, ?_⟩⟩
      have g1 := same_new (o := .tup [.str "+", .str "&"]) hp1
      have ei : inV (.str (signOf q)) [.str "+", .str "&"] = decide (signOf q ∈ (["+", "&"] : List Str)) := inV_str (signOf q) ["+", "&"]
      rw [if_neg Bool.false_ne_true, ei, sign_in]
      have e1 := g1 _ _ e
      refine iteT ⟨_, rfl, a, _, _, _, rfl, rfl, SqT.of e1, rfl, u, l, rfl, h1.stay (Stay.of_same g1), n1, by omega, by omega, fun H2 g2 => ⟨_, _, rfl, rfl, ?_, _, _, rfl, rfl, ?_, ?_⟩⟩
      · rw [sizeLine_eq]; show 1 + (textP l).length ≤ _; omega
      · rw [sizeLine_eq, strLen_append]; show 1 + (textP l).length + 1 ≤ _; omega
      have e2 := g2 _ _ e1
      refine ⟨_, rfl, a, _, _, _, rfl, rfl, SqT.of e2, rfl, _, _, rfl, rfl, ?_, _, _, rfl, rfl, ?_, _, rfl, a, _, _, _, rfl, rfl, SqT.of e2, rfl, v, r, rfl, (h2.stay (Stay.of_same g1)).stay (Stay.of_same g2), n2, by omega, by omega, fun H3 g3 => ⟨_, _, rfl, rfl, ?_, _, _, rfl, rfl, ?_, k _ (g1.trans (g2.trans g3))⟩⟩
      · rw [sizeLine_eq, strLen_append, strLen_append]; show 1 + (textP l).length + 1 + _ ≤ _; omega
      · rw [sizeLine_eq, strLen_append, strLen_append, strLen_append]; show 1 + (textP l).length + 1 + _ + 1 ≤ _; omega
      · rw [sizeLine_eq, strLen_append, strLen_append, strLen_append, strLen_append]; show 1 + (textP l).length + 1 + _ + 1 + _ ≤ _; omega
      · rw [sizeLine_eq, strLen_append, strLen_append, strLen_append, strLen_append, strLen_append]; show 1 + (textP l).length + 1 + _ + 1 + _ + 1 ≤ _; omega
theorem all_written (F : L2.Fun K "_law_written" "_law_written" sWritten f fd) (hm : mg "_law_written" = some (.ref f)) (hB : Binds K fd ["_law_plan"] []) : ∀ n, Dv P w K mg base CX0 n "_law_written" ["_law_plan"] (spWritten n)
  | 0 => ⟨f, fd, ⟨fun vs H Q E h => by obtain ⟨a, p, rfl, _⟩ := h; rfl, fun A outer s H args us vs Q E _ _ _ _ h => by
      obtain ⟨a, p, _, _, _, h0, _⟩ := h
      have := p.size_pos
      omega⟩, hm, F.kp, hB⟩
  | n + 1 => ⟨f, fd, ok_written (all_written F hm hB n) F, hm, F.kp, hB⟩
end
end Wr
-- WrLaw9
namespace Wr
open PySem L2
/-- the name of a middle -/
def pN (k : Nat) : Str := Str.append "p" ((toString (k : Int) : String) : Str)
/-- the ties of a plan between two posts, its middles numbered from n on -/
def laidP : Plan → Str → Str → Nat → List T5
  | .leaf x lo hi, b, e, _ => [⟨x, b, e, lo, hi⟩]
  | .op true l r, b, e, n => laidP l b e n ++ laidP r b e (n + l.joints)
  | .op false l r, b, e, n => laidP l b (pN (n + l.joints)) n ++ laidP r (pN (n + l.joints)) e (n + l.joints + 1)
theorem laid_len : ∀ (p : Plan) (b e : Str) (n : Nat), (laidP p b e n).length = p.size
  | .leaf _ _ _, _, _, _ => rfl
  | .op true l r, b, e, n => by
    show (laidP l b e n ++ laidP r b e (n + l.joints)).length = l.size + r.size
    rw [List.length_append, laid_len l, laid_len r]
  | .op false l r, b, e, n => by
    show (laidP l b _ n ++ laidP r _ e _).length = l.size + r.size
    rw [List.length_append, laid_len l, laid_len r]
/-- a list of ties -/
def RowsAt5 (H : Hp) (q : Addr) (rows : List T5) : Prop := ∃ as : List Addr, H q = some (.lst (as.map V.ref)) ∧ Paired (fun a r => TieAt H a r) as rows
theorem RowsAt5.same {H H' : Hp} (k : Same H H') {t : Addr} {rows : List T5} : RowsAt5 H t rows → RowsAt5 H' t rows := fun ⟨as, h, p⟩ => ⟨as, k _ _ h, Paired.mapP p fun _ _ z => k _ _ z⟩
theorem five_le : 5 ≤ sizeLine := by rw [PySem.sizeLine_eq]; exact (by decide : 5 ≤ 16777216)
section
variable {P : Program} {w : World} {K : PySem.W.Frag} {mg : Str → Option Value} {base : Heap} {f : Addr} {fd : FuncData} {c : Cs}
abbrev pLaid : List Str := ["_law_plan", "_law_begin", "_law_end", "_law_number"]
abbrev nLaid : List Str := ["_law_plan", "_law_begin", "_law_end", "_law_number", "_law_more", "_law_back", "_law_middle"]
abbrev sLaid : Stmt := top 73
theorem scLaid : FnScope nLaid pLaid (defScope sLaid) := ⟨rfl, rfl, rfl, by decide +kernel, rfl, by decide +kernel, by decide +kernel⟩
def spLaid (n : Nat) : Sp := fun vs H Q _ => ∃ (a : Addr) (p : Plan) (b e : Str) (k : Nat), vs = [.ref a, .str b, .str e, .int (k : Nat)] ∧ LPlanAt H p a ∧ (∀ z ∈ p.names, NameOk z) ∧ p.size ≤ n ∧ p.size ≤ 1000 ∧ k ≤ 1000 ∧ k + p.size ≤ 1000 ∧ ∀ q H', Same H H' → RowsAt5 H' q (laidP p b e k) → Q (.ref q) H'
theorem ok_laid {n : Nat} (hb : ∀ x ∈ blts, mg x = none) (W : Dv P w K mg base CX0 n "_law_written" ["_law_plan"] (spWritten n)) (D : Dv P w K mg base CX0 (n + 1) "_law_laid" pLaid (spLaid n)) (F : L2.Fun K "_law_laid" "_law_laid" sLaid f fd) :
    FnOk P w K mg base CX0 (n + 1 + 1) f fd pLaid (spLaid (n + 1)) := by
  refine F.ok scLaid (fun vs H Q E h => ?_) (fun cdv A outer s H vs Q E hr h => ?_)
  · obtain ⟨a, p, b, e, k, rfl, _⟩ := h
    rfl
  · obtain ⟨a, p, b, e, k, rfl, ha, hnm, hn, h1000, hk, hkp, kk⟩ := h
    have nd := scLaid.nd
    refine ⟨_, pss_cons (ps_if (pt_cmpR op_notIn_seq (pe_ix ix_tup (pv 0) pe_int (fun _ _ => rfl)) (pe_tup (pa_cons pe_str (pa_cons pe_str pa_nil))) rfl)
        (pss_one (ps_ret (pe_lst (pa_cons (pe_tup (pa_cons (pe_ix ix_tup (pv 0) pe_int (fun _ _ => rfl)) (pa_cons (pv 1) (pa_cons (pv 2) (pa_cons (pe_ix ix_tup (pv 0) pe_int (fun _ _ => rfl)) (pa_cons (pe_ix ix_tup (pv 0) pe_int (fun _ _ => rfl)) pa_nil)))))) pa_nil)))) pss_nil)
      (pss_cons (ps_set (i := 4) nd rfl (Or.inl rfl) (pe_m1 PySem.F.slot_str_count PySem.F.type_str_count mt_count (pe_dv W (hr.mono (by omega)) pass0 (pa_cons (pe_ix ix_tup (pv 0) pe_int (fun _ _ => rfl)) pa_nil)) pe_str))
      (pss_cons (ps_if (pt_cmpR op_eq (pe_ix ix_tup (pv 0) pe_int (fun _ _ => rfl)) pe_str (nomark _))
        (pss_cons (ps_set (i := 5) nd rfl (Or.inl rfl) (pe_dv D hr pass0 (pa_cons (pe_ix ix_tup (pv 0) pe_int (fun _ _ => rfl)) (pa_cons (pv 1) (pa_cons (pv 2) (pa_cons (pv 3) pa_nil))))))
        (pss_one (ps_ret (pe_op op_cat (pv 5) (pe_dv D hr pass0 (pa_cons (pe_ix ix_tup (pv 0) pe_int (fun _ _ => rfl)) (pa_cons (pv 1) (pa_cons (pv 2) (pa_cons (pe_op op_add (pv 3) (pv 4)) pa_nil))))))))) pss_nil)
      (pss_cons (ps_set (i := 6) nd rfl (Or.inl rfl) (pe_op op_add_str pe_str (pe_callTy call_str_int rfl (hb _ (by decide)) (by first | rfl | kernel_rfl) (pa_cons (pe_op op_add (pv 3) (pv 4)) pa_nil))))
      (pss_cons (ps_set (i := 5) nd rfl (Or.inl rfl) (pe_dv D hr pass0 (pa_cons (pe_ix ix_tup (pv 0) pe_int (fun _ _ => rfl)) (pa_cons (pv 1) (pa_cons (pv 6) (pa_cons (pv 3) pa_nil))))))
      (pss_one (ps_ret (pe_op op_cat (pv 5) (pe_dv D hr pass0 (pa_cons (pe_ix ix_tup (pv 0) pe_int (fun _ _ => rfl)) (pa_cons (pv 6) (pa_cons (pv 2) (pa_cons (pe_op op_add (pe_op op_add (pv 3) (pv 4)) pe_int) pa_nil)))))))))))), ?_⟩
    cases p with
    | leaf x lo hi =>
      have ha : H a = some (.tup [.str x, .int lo, .int hi]) := ha
      refine ⟨_, rfl, a, _, _, _, rfl, rfl, SqT.of ha, rfl, two_le, fun p1 hp1 => ⟨p1, _, rfl, .inr (SqT.of upd_same), rfl, rfl, _, rfl, ?_⟩⟩
      have s1 := same_new (o := .tup [.str "+", .str "&"]) hp1
      have ei : inV (.str x) [.str "+", .str "&"] = decide (x ∈ (["+", "&"] : List Str)) := inV_str x ["+", "&"]
      rw [if_pos rfl, ei, decide_eq_false (name_not_sign (hnm x (List.mem_singleton.mpr rfl)))]
      have ha1 := s1 _ _ ha
      refine iteT ⟨_, rfl, a, _, _, _, rfl, rfl, SqT.of ha1, rfl, _, rfl, _, rfl, _, rfl, a, _, _, _, rfl, rfl, SqT.of ha1, rfl, _, rfl, a, _, _, _, rfl, rfl, SqT.of ha1, rfl, five_le, fun y hy => ⟨one_le, fun q hq => ?_⟩⟩
      have s2 := same_new (o := .tup [.str x, .str b, .str e, .int lo, .int hi]) hy
      have s3 := same_new (o := .lst [.ref y]) hq
      exact kk q _ (s1.trans (s2.trans s3)) ⟨[y], upd_same, .cons (s3 _ _ upd_same) .nil⟩
    | op q l r =>
      obtain ⟨u, v, e0, h1, h2⟩ := ha
      have hn' : l.size + r.size ≤ n + 1 := hn
      have h1000' : l.size + r.size ≤ 1000 := h1000
      have hkp' : k + (l.size + r.size) ≤ 1000 := hkp
      have z1 := l.size_pos
      have z2 := r.size_pos
      have j1 := l.joints_lt
      have n1 : ∀ z ∈ l.names, NameOk z := fun z hz => hnm z (List.mem_append_left _ hz)
      have n2 : ∀ z ∈ r.names, NameOk z := fun z hz => hnm z (List.mem_append_right _ hz)
      refine ⟨_, rfl, a, _, _, _, rfl, rfl, SqT.of e0, rfl, two_le, fun p1 hp1 => ⟨p1, _, rfl, .inr (SqT.of upd_same), rfl, rfl, _, rfl, ?_⟩⟩
      have g1 := same_new (o := .tup [.str "+", .str "&"]) hp1
      have ei : inV (.str (signOf q)) [.str "+", .str "&"] = decide (signOf q ∈ (["+", "&"] : List Str)) := inV_str (signOf q) ["+", "&"]
      rw [if_pos rfl, ei, sign_in]
      have e1 := g1 _ _ e0
      refine iteF ⟨_, rfl, a, _, _, _, rfl, rfl, SqT.of e1, rfl, u, l, rfl, h1.stay (Stay.of_same g1), n1, by omega, by omega, fun H2 g2 => ⟨⟨_, rfl⟩, _, _, rfl, rfl, ?_⟩⟩
      rw [count_text n1]
      have e2 := g2 _ _ e1
      have g12 := g1.trans g2
      refine ⟨_, rfl, a, _, _, _, rfl, rfl, SqT.of e2, rfl, rfl, _, rfl, ?_⟩
      cases q with
      | true =>
        refine iteT ⟨_, rfl, a, _, _, _, rfl, rfl, SqT.of e2, rfl, _, rfl, _, rfl, _, rfl, u, l, b, e, k, rfl, h1.stay (Stay.of_same g12), n1, by omega, by omega, hk, by omega, fun q1 H3 g3 r1 => ?_⟩
        have e3 := g3 _ _ e2
        refine ⟨_, rfl, _, rfl, a, _, _, _, rfl, rfl, SqT.of e3, rfl, _, rfl, _, rfl, _, rfl, _, rfl, _, _, rfl, rfl, v, r, b, e, k + l.joints, rfl, (h2.stay (Stay.of_same g12)).stay (Stay.of_same g3), n2, by omega, by omega, by omega, by omega, fun q2 H4 g4 r2 => ?_⟩
        obtain ⟨as1, a1, b1⟩ := r1.same g4
        obtain ⟨as2, a2, b2⟩ := r2
        have l1 := Paired.length b1
        have l2 := Paired.length b2
        rw [laid_len] at l1 l2
        refine ⟨q1, q2, _, _, rfl, rfl, a1, a2, by rw [List.length_map, List.length_map, sizeLine_eq]; omega, fun y hy => ?_⟩
        have s5 := same_new (o := .lst (as1.map V.ref ++ as2.map V.ref)) hy
        exact kk y _ (g12.trans (g3.trans (g4.trans s5))) ⟨as1 ++ as2, by rw [upd_same, List.map_append], Paired.append (Paired.mapP b1 fun _ _ z => s5 _ _ z) (Paired.mapP b2 fun _ _ z => s5 _ _ z)⟩
      | false =>
        refine iteF ⟨_, rfl, _, rfl, _, _, rfl, rfl, _, rfl, log_of (by omega) (by omega), _, _, rfl, rfl, ?_, ?_⟩
        · have := int_len (i := (k : Int) + (l.joints : Int)) (by omega) (by omega)
          rw [sizeLine_eq]
          show 1 + _ ≤ _
          omega
        refine ⟨_, rfl, a, _, _, _, rfl, rfl, SqT.of e2, rfl, _, rfl, _, rfl, _, rfl, u, l, b, pN (k + l.joints), k, rfl, h1.stay (Stay.of_same g12), n1, by omega, by omega, hk, by omega, fun q1 H3 g3 r1 => ?_⟩
        have e3 := g3 _ _ e2
        refine ⟨_, rfl, _, rfl, a, _, _, _, rfl, rfl, SqT.of e3, rfl, _, rfl, _, rfl, _, rfl, _, rfl, _, _, rfl, rfl, _, _, rfl, rfl, v, r, pN (k + l.joints), e, k + l.joints + 1, rfl, (h2.stay (Stay.of_same g12)).stay (Stay.of_same g3), n2, by omega, by omega, by omega, by omega, fun q2 H4 g4 r2 => ?_⟩
        obtain ⟨as1, a1, b1⟩ := r1.same g4
        obtain ⟨as2, a2, b2⟩ := r2
        have l1 := Paired.length b1
        have l2 := Paired.length b2
        rw [laid_len] at l1 l2
        refine ⟨q1, q2, _, _, rfl, rfl, a1, a2, by rw [List.length_map, List.length_map, sizeLine_eq]; omega, fun y hy => ?_⟩
        have s5 := same_new (o := .lst (as1.map V.ref ++ as2.map V.ref)) hy
        exact kk y _ (g12.trans (g3.trans (g4.trans s5))) ⟨as1 ++ as2, by rw [upd_same, List.map_append], Paired.append (Paired.mapP b1 fun _ _ z => s5 _ _ z) (Paired.mapP b2 fun _ _ z => s5 _ _ z)⟩
theorem all_laid (hb : ∀ x ∈ blts, mg x = none) (W : ∀ n, Dv P w K mg base CX0 n "_law_written" ["_law_plan"] (spWritten n)) (F : L2.Fun K "_law_laid" "_law_laid" sLaid f fd) (hm : mg "_law_laid" = some (.ref f)) (hB : Binds K fd pLaid []) :
    ∀ n, Dv P w K mg base CX0 (n + 1) "_law_laid" pLaid (spLaid n)
  | 0 => ⟨f, fd, ⟨fun vs H Q E h => by obtain ⟨a, p, b, e, k, rfl, _⟩ := h; rfl, fun A outer s H args us vs Q E _ _ _ _ h => by
      obtain ⟨a, p, b, e, k, _, _, _, h0, _⟩ := h
      have := p.size_pos
      omega⟩, hm, F.kp, hB⟩
  | n + 1 => ⟨f, fd, ok_laid hb (W n) (all_laid hb W F hm hB n) F, hm, F.kp, hB⟩
end
end Wr
-- WrLaw10
namespace Wr
open PySem L2
theorem num_of {c : Cs} {q : Bool} {u v : Addr} {l r : Plan} {B : Int} {H : Hp} {Q : VK} {E : XK} (hl : PieceAt c H l u) (hr : PieceAt c H r v) (ol : l.ok B) (or' : r.ok B) (hz : l.size + r.size ≤ 1000)
    (k1 : ∀ x H', Same H H' → PieceAt c H' (.op q l r) x → Q (.ref x) H') (k2 : (Plan.op q l r).span = none → ∀ d H', Same H H' → E (.ref c.snap) (some d) H') : rNum (isPc c) (spOp c q) E (.ref u) (.ref v) H Q := by
  obtain ⟨C1, dx1, _, _, _, _, _, i1, c1, _⟩ := hl.head
  obtain ⟨C2, dx2, _, _, _, _, _, i2, c2, _⟩ := hr.head
  exact ⟨u, C1, dx1, _, v, C2, dx2, _, rfl, rfl, i1, i2, c1, c2, u, v, l, r, B, rfl, hl, hr, ol, or', hz, k1, k2⟩
theorem opO_none_r (q : Bool) (a : Option S2) : opO q a none = none := by cases a <;> rfl
theorem opO_none_l (q : Bool) (a : Option S2) : opO q none a = none := rfl
section
variable {P : Program} {w : World} {K : PySem.W.Frag} {mg : Str → Option Value} {base : Heap} {f : Addr} {fd : FuncData} {c : Cs}
abbrev sJoined : Stmt := top 76
abbrev nJoined : List Str := ["_law_some", "_law_sign", "_law_late", "_law_back", "_law_middle", "_law_front"]
theorem scJoined : FnScope nJoined ["_law_some", "_law_sign", "_law_late"] (defScope sJoined) := ⟨rfl, rfl, rfl, by decide +kernel, rfl, by decide +kernel, by decide +kernel⟩
def spJoined (c : Cs) : Sp := fun vs H Q E => ∃ (a q1 q2 q3 : Addr) (p1 p2 p3 : Plan) (q late : Bool) (B : Int), vs = [.ref a, .str (signOf q), .bl late] ∧ H a = some (.lst [.ref q1, .ref q2, .ref q3]) ∧ PieceAt c H p1 q1 ∧ PieceAt c H p2 q2 ∧ PieceAt c H p3 q3 ∧ p1.ok B ∧ p2.ok B ∧ p3.ok B ∧ p1.size + p2.size + p3.size ≤ 1000 ∧
  (∀ t H', Same H H' → PieceAt c H' (joinP q late p1 p2 p3) t → Q (.ref t) H') ∧ ((joinP q late p1 p2 p3).span = none → ∀ d H', Same H H' → E (.ref c.snap) (some d) H')
theorem ok_joined (PA : PAddD P w K mg base c) (PB : PAndD P w K mg base c) (F : L2.Fun K "_law_joined" "_law_joined" sJoined f fd) : FnOk P w K mg base (L2.CX P w) 9 f fd ["_law_some", "_law_sign", "_law_late"] (spJoined c) := by
  refine F.okX scJoined (fun vs H Q E h => ?_) (fun cdv A outer s H vs Q E hr h => ?_)
  · obtain ⟨a, q1, q2, q3, p1, p2, p3, q, late, B, rfl, _⟩ := h
    rfl
  · obtain ⟨a, q1, q2, q3, p1, p2, p3, q, late, B, rfl, ha, h1, h2, h3, o1, o2, o3, hz, k1, k2⟩ := h
    have nd := scJoined.nd
    refine ⟨_, pss_cons (ps_asg (pv 0) (pg_lst rfl (pgs_cons (pg_name (i := 3) nd rfl (Or.inl rfl)) (pgs_cons (pg_name (i := 4) nd rfl (Or.inl rfl)) (pgs_cons (pg_name (i := 5) nd rfl (Or.inl rfl)) pgs_nil)))))
      (pss_cons (ps_if (pt_cmpR op_eq (pv 1) pe_str (nomark _))
        (pss_one (ps_ret (pe_ifExp (pt_val (pv 2)) (pe_op (op_fam PA hr pass0) (pv 3) (pe_op (op_fam PA hr pass0) (pv 4) (pv 5))) (pe_op (op_fam PA hr pass0) (pe_op (op_fam PA hr pass0) (pv 3) (pv 4)) (pv 5))))) pss_nil)
      (pss_one (ps_ret (pe_ifExp (pt_val (pv 2)) (pe_op (op_fam PB hr (passes_call (takes_of rfl rfl rfl rfl) fun _ _ _ _ h => h)) (pv 3) (pe_op (op_fam PB hr (passes_call (takes_of rfl rfl rfl rfl) fun _ _ _ _ h => h)) (pv 4) (pv 5)))
        (pe_op (op_fam PB hr (passes_call (takes_of rfl rfl rfl rfl) fun _ _ _ _ h => h)) (pe_op (op_fam PB hr (passes_call (takes_of rfl rfl rfl rfl) fun _ _ _ _ h => h)) (pv 3) (pv 4)) (pv 5)))))), ?_⟩
    refine ⟨_, rfl, a, _, rfl, SqL.of ha, rfl, _, _, rfl, _, _, rfl, _, _, rfl, rfl, ?_⟩
    refine ⟨_, rfl, rfl, _, rfl, ?_⟩
    rw [signOf_eq]
    have sp : ∀ {H0 : Hp} {l r : Plan} {u v : Addr}, PieceAt c H0 l u → PieceAt c H0 r v → (Plan.op false l r).span ≠ none := fun {H0 l r u v} hl hr z => by
      obtain ⟨_, _, _, _, _, _, s1, _, _, _, e1, _⟩ := hl.head
      obtain ⟨_, _, _, _, _, _, s2, _, _, _, e2, _⟩ := hr.head
      have z : opO false l.span r.span = none := z
      rw [e1, e2] at z
      cases z
    cases q with
    | false =>
      refine iteT ⟨_, rfl, late, rfl, ?_⟩
      cases late with
      | true =>
        refine iteT ⟨_, rfl, _, rfl, _, rfl, num_of h2 h3 o2 o3 (by omega) (fun x H1 g1 hx => ?_) (fun z => absurd z (sp h2 h3))⟩
        exact num_of (h1.stay (Stay.of_same g1)) hx o1 ⟨o2, o3⟩ (by show p1.size + (p2.size + p3.size) ≤ 1000; omega) (fun y H2 g2 hy => k1 y H2 (g1.trans g2) hy) (fun z => absurd z (sp (h1.stay (Stay.of_same g1)) hx))
      | false =>
        refine iteF ⟨_, rfl, _, rfl, num_of h1 h2 o1 o2 (by omega) (fun x H1 g1 hx => ⟨_, rfl, ?_⟩) (fun z => absurd z (sp h1 h2))⟩
        exact num_of hx (h3.stay (Stay.of_same g1)) ⟨o1, o2⟩ o3 (by show (p1.size + p2.size) + p3.size ≤ 1000; omega) (fun y H2 g2 hy => k1 y H2 (g1.trans g2) hy) (fun z => absurd z (sp hx (h3.stay (Stay.of_same g1))))
    | true =>
      refine iteF ⟨_, rfl, late, rfl, ?_⟩
      cases late with
      | true =>
        refine iteT ⟨_, rfl, _, rfl, _, rfl, num_of h2 h3 o2 o3 (by omega) (fun x H1 g1 hx => ?_) (fun z d H1 g1 => k2 ?_ d H1 g1)⟩
        · exact num_of (h1.stay (Stay.of_same g1)) hx o1 ⟨o2, o3⟩ (by show p1.size + (p2.size + p3.size) ≤ 1000; omega) (fun y H2 g2 hy => k1 y H2 (g1.trans g2) hy) (fun z d H2 g2 => k2 z d H2 (g1.trans g2))
        · show opO true p1.span (Plan.op true p2 p3).span = none
          rw [z, opO_none_r]
      | false =>
        refine iteF ⟨_, rfl, _, rfl, num_of h1 h2 o1 o2 (by omega) (fun x H1 g1 hx => ⟨_, rfl, ?_⟩) (fun z d H1 g1 => k2 ?_ d H1 g1)⟩
        · exact num_of hx (h3.stay (Stay.of_same g1)) ⟨o1, o2⟩ o3 (by show (p1.size + p2.size) + p3.size ≤ 1000; omega) (fun y H2 g2 hy => k1 y H2 (g1.trans g2) hy) (fun z d H2 g2 => k2 z d H2 (g1.trans g2))
        · show opO true (Plan.op true p1 p2).span p3.span = none
          rw [z, opO_none_l]
end
end Wr
-- WrWords
/-! the law's names: plain -/
namespace Wr
open PySem
def letB (c : Nat) : Bool := decide (97 ≤ c ∧ c ≤ 122)
def digB (c : Nat) : Bool := decide (48 ≤ c ∧ c ≤ 57)
theorem letB_mem : ∀ c : Nat, letB c = true ↔ c ∈ letters.cps.toList := by
  intro c
  constructor
  · intro h
    have h := of_decide_eq_true h
    have : ∀ i : Fin 26, (97 + i.val) ∈ letters.cps.toList := by decide +kernel
    have := this ⟨c - 97, by omega⟩
    simpa [show 97 + (c - 97) = c by omega] using this
  · intro h
    have : ∀ x ∈ letters.cps.toList, letB x = true := by decide +kernel
    exact this c h
theorem digB_mem : ∀ c : Nat, digB c = true ↔ c ∈ digits.cps.toList := by
  intro c
  constructor
  · intro h
    have h := of_decide_eq_true h
    have : ∀ i : Fin 10, (48 + i.val) ∈ digits.cps.toList := by decide +kernel
    have := this ⟨c - 48, by omega⟩
    simpa [show 48 + (c - 48) = c by omega] using this
  · intro h
    have : ∀ x ∈ digits.cps.toList, digB x = true := by decide +kernel
    exact this c h
/-- a name, by its code points -/
def nameL : List Nat → Bool
  | [] => false
  | c :: cs => letB c && decide (cs.length ≤ 5) && cs.all fun c => letB c || digB c
theorem nameL_ok {x : Str} (h : nameL x.cps.toList = true) : NameOk x := by
  obtain ⟨⟨l⟩⟩ := x
  cases l with
  | nil => exact absurd h (by decide)
  | cons c cs =>
    have h : (letB c && decide (cs.length ≤ 5) && cs.all fun c => letB c || digB c) = true := h
    rw [Bool.and_eq_true, Bool.and_eq_true, decide_eq_true_eq, List.all_eq_true] at h
    obtain ⟨⟨h1, h2⟩, h3⟩ := h
    refine ⟨Nat.succ_pos _, ?_, fun d hd => ?_, fun i d hd => ?_⟩
    · show cs.length + 1 ≤ 6; omega
    · have : (c :: cs)[0]? = some d := by simpa using hd
      cases this
      exact (letB_mem c).mp h1
    · have hd : (c :: cs)[i]? = some d := by simpa using hd
      rcases List.mem_cons.mp (List.mem_of_getElem? hd) with rfl | hm
      · exact .inl ((letB_mem _).mp h1)
      · have := h3 d hm
        rw [Bool.or_eq_true] at this
        rcases this with h | h
        · exact .inl ((letB_mem d).mp h)
        · exact .inr ((digB_mem d).mp h)
/-- p and a digit: like the name of a middle -/
def midL : List Nat → Bool
  | 112 :: d :: _ => digB d
  | _ => false
def midB (x : Str) : Bool := midL x.cps.toList
/-- good names, and those that are not like a middle's: none, or two or more -/
structure WordsOk (m : Nat) (ws : List Str) : Prop where
  len : ws.length = m
  nd : ws.Nodup
  ok : ∀ w ∈ ws, NameOk w
  ends : (ws.filter fun w => !midB w) = [] ∨ 2 ≤ (ws.filter fun w => !midB w).length
theorem WordsOk.perm {m : Nat} {ws ws' : List Str} (h : WordsOk m ws) (p : ws'.Perm ws) : WordsOk m ws' := by
  have q := p.filter fun w => !midB w
  refine ⟨p.length_eq.trans h.len, p.nodup_iff.mpr h.nd, fun w hw => h.ok w (p.mem_iff.mp hw), ?_⟩
  rcases h.ends with e | e
  · rw [e] at q; exact .inl q.eq_nil
  · exact .inr (by rw [q.length_eq]; exact e)
def wordsB (m : Nat) (ws : List Str) : Bool := decide (ws.length = m) && decide (ws.map fun w => w.cps.toList).Nodup && (ws.all fun w => nameL w.cps.toList) && (decide ((ws.filter fun w => !midB w).length = 0) || decide (2 ≤ (ws.filter fun w => !midB w).length))
theorem wordsB_ok {m : Nat} {ws : List Str} (h : wordsB m ws = true) : WordsOk m ws := by
  unfold wordsB at h
  simp only [Bool.and_eq_true, decide_eq_true_eq, List.all_eq_true, Bool.or_eq_true] at h
  obtain ⟨⟨⟨h1, h2⟩, h3⟩, h4⟩ := h
  refine ⟨h1, ?_, fun w hw => nameL_ok (h3 w hw), ?_⟩
  · exact (List.pairwise_map.mp h2).imp fun hne e => hne (by rw [e])
  · rcases h4 with h | h
    · exact .inl (List.length_eq_zero_iff.mp h)
    · exact .inr h
end Wr
-- WrWords2
namespace Wr
open PySem
def known : List Str := ["posts", "tie", "cut", "change", "undo", "closes", "span", "if", "core", "flat", "table", "show", "no", "yes", "k0", "k1", "p0", "p1", "a0", "a1", "t0", "t1"]
theorem known_ok : ∀ m ∈ [12, 20], ∀ s : Fin 22, wordsB m (((known ++ known).drop s.val).take m) = true := by decide +kernel
/-- the names in a heap of two letters -/
def heapW (a : Nat) : Nat → List (List Nat)
  | 0 => [[]]
  | n + 1 => heapW a n ++ [((heapW a n).getD (n / 2) []) ++ [97 + a + n % 2]]
def strL (l : List Nat) : Str := ⟨l.toArray⟩
theorem heap_ok : ∀ a : Fin 25, (decide (((heapW a.val 30).drop 1).Nodup) && ((heapW a.val 30).drop 1).all (fun l => nameL l && !midL l)) = true := by decide +kernel
/-- a letter and a number below 121 -/
def numL (b k : Nat) : Str := (toString (((b : Int) + 9 * (k : Int)) % 121) : String)
theorem num_digits : ∀ i : Fin 121, (let l := ((toString ((i.val : Nat) : Int) : String) : Str).cps.toList; decide (l ≠ []) && decide (l.length ≤ 3) && l.all digB) = true := by decide +kernel
theorem num_inj : ((List.range 121).map fun i : Nat => ((toString ((i : Nat) : Int) : String) : Str).cps.toList).Nodup := by decide +kernel
end Wr
-- WrWords3
namespace Wr
open PySem
/-- by their code points -/
theorem words_of {m : Nat} {ls : List (List Nat)} (hl : ls.length = m) (hn : ls.Nodup) (ho : ∀ l ∈ ls, nameL l = true) (he : (ls.filter fun l => !midL l) = [] ∨ 2 ≤ (ls.filter fun l => !midL l).length) : WordsOk m (ls.map strL) := by
  have inj : ∀ a b : List Nat, strL a = strL b → a = b := fun a b h => by
    have : (strL a).cps.toList = (strL b).cps.toList := by rw [h]
    simpa [strL] using this
  have ef : ((ls.map strL).filter fun w => !midB w) = (ls.filter fun l => !midL l).map strL := by
    rw [List.filter_map]
    congr 1
  refine ⟨by rw [List.length_map, hl], ?_, fun w hw => ?_, ?_⟩
  · exact List.pairwise_map.mpr (hn.imp fun hne e => hne (inj _ _ e))
  · obtain ⟨l, hm, rfl⟩ := List.mem_map.mp hw
    refine nameL_ok ?_
    show nameL (l.toArray.toList) = true
    exact ho l hm
  · rw [ef]
    rcases he with h | h
    · rw [h]; exact .inl rfl
    · rw [List.length_map]; exact .inr h
/-- a letter and a number -/
def numW (s b k : Nat) : List Nat := (97 + s) :: ((toString (((b + 9 * k) % 121 : Nat) : Int) : String) : Str).cps.toList
theorem num_ok {s b m : Nat} (hs : s < 26) (hm : 2 ≤ m) (hm2 : m ≤ 20) : WordsOk m (((List.range m).map (numW s b)).map strL) := by
  have dg : ∀ n : Nat, n < 121 → (((toString ((n : Nat) : Int) : String) : Str).cps.toList ≠ []) ∧ ((toString ((n : Nat) : Int) : String) : Str).cps.toList.length ≤ 3 ∧ ((toString ((n : Nat) : Int) : String) : Str).cps.toList.all digB = true := fun n hn => by
    have := num_digits ⟨n, hn⟩
    simp only [Bool.and_eq_true, decide_eq_true_eq] at this
    exact ⟨this.1.1, this.1.2, this.2⟩
  have md : ∀ k, (b + 9 * k) % 121 < 121 := fun k => Nat.mod_lt _ (by decide)
  have mid : ∀ k, midL (numW s b k) = decide (s = 15) := fun k => by
    obtain ⟨h1, _, h3⟩ := dg _ (md k)
    unfold numW
    generalize ((toString (((b + 9 * k) % 121 : Nat) : Int) : String) : Str).cps.toList = l at h1 h3
    cases l with
    | nil => exact absurd rfl h1
    | cons d l =>
      rw [List.all_cons, Bool.and_eq_true] at h3
      by_cases e : s = 15
      · subst e
        show digB d = true
        exact h3.1
      · rw [decide_eq_false e]
        unfold midL
        split
        · rename_i heq
          have : 97 + s = 112 := by injection heq
          omega
        · rfl
  refine words_of (by rw [List.length_map, List.length_range]) ?_ (fun l hl => ?_) ?_
  · refine List.pairwise_map.mpr ?_
    refine List.Pairwise.imp_of_mem (fun {i j} hi hj hne e => ?_) (List.nodup_range (n := m))
    have hi := List.mem_range.mp hi
    have hj := List.mem_range.mp hj
    have e : ((toString (((b + 9 * i) % 121 : Nat) : Int) : String) : Str).cps.toList = ((toString (((b + 9 * j) % 121 : Nat) : Int) : String) : Str).cps.toList := by
      unfold numW at e
      injection e
    have hi2 := md i
    have hj2 := md j
    have e2 : ((List.range 121).map fun i : Nat => ((toString ((i : Nat) : Int) : String) : Str).cps.toList)[(b + 9 * i) % 121]'(by simpa using hi2) = ((List.range 121).map fun i : Nat => ((toString ((i : Nat) : Int) : String) : Str).cps.toList)[(b + 9 * j) % 121]'(by simpa using hj2) := by
      rw [List.getElem_map, List.getElem_map, List.getElem_range, List.getElem_range]
      exact e
    have := nodup_get num_inj (by simpa using hi2) (by simpa using hj2) e2
    apply hne
    omega
  · obtain ⟨k, _, rfl⟩ := List.mem_map.mp hl
    obtain ⟨h1, h2, h3⟩ := dg _ (md k)
    show (letB (97 + s) && decide (_ ≤ 5) && _) = true
    rw [Bool.and_eq_true, Bool.and_eq_true]
    refine ⟨⟨decide_eq_true (by omega), decide_eq_true (by omega)⟩, ?_⟩
    rw [List.all_eq_true] at h3 ⊢
    intro c hc
    rw [h3 c hc, Bool.or_true]
  · by_cases e : s = 15
    · refine .inl (List.filter_eq_nil_iff.mpr fun l hl => ?_)
      obtain ⟨k, _, rfl⟩ := List.mem_map.mp hl
      rw [mid, decide_eq_true e]
      decide
    · right
      rw [List.filter_eq_self.mpr, List.length_map, List.length_range]
      · exact hm
      · intro l hl
        obtain ⟨k, _, rfl⟩ := List.mem_map.mp hl
        rw [mid, decide_eq_false e]
        rfl
end Wr
-- WrWords4
namespace Wr
open PySem L2
section
variable {X : Cx}
/-- a text, none or one time -/
theorem op_mul01 : OpR X (binaryOp .Mult) (fun x y H Q => ∃ (z : Str) (n : Int), x = .str z ∧ y = .int n ∧ (n = 0 ∨ n = 1) ∧ Q (.str (if n = 1 then z else Str.empty)) H) := by
  intro pins s σ H x y v u Q I rx ry h
  obtain ⟨z, n, rfl, rfl, hn, q⟩ := h
  obtain ⟨t, rfl⟩ := rx
  obtain ⟨t', rfl⟩ := ry
  rcases hn with rfl | rfl
  · exact P.mul_str_none (by decide) (by decide) ⟨.str Str.empty, H, I.tok _, ⟨_, rfl⟩, q⟩
  · refine P.mul_str (by decide) (fun _ h => absurd h (by simp)) (fun _ h => absurd h (by simp)) ?_
    rw [if_neg (by decide), if_pos (by simp)]
    exact ⟨.str z, H, I, ⟨_, rfl⟩, q⟩
end
end Wr
-- WrWords5
/-! a stem, a sign put into it, and some more -/
namespace Wr
open PySem L2
def sgnW (s k : Nat) : Nat := 97 + (s + 7 * k) % 26
def stemW (stem : List Nat) (a s lg : Nat) (k : Nat) : List Nat := stem.take a ++ (sgnW s k :: (stem.drop a ++ (if k % 2 * lg = 1 then [sgnW s k] else [])))
theorem sgn_let (s k : Nat) : letB (sgnW s k) = true := by
  unfold sgnW letB
  exact decide_eq_true (by omega)
theorem let_dig {c : Nat} (h : letB c = true) : digB c = false := by
  unfold letB at h
  unfold digB
  have := of_decide_eq_true h
  exact decide_eq_false (by omega)
def okSgn (c : Nat) : Bool := letB c || digB c
/-- a stem: a letter ahead, letters and figures behind -/
def stemB : List Nat → Bool
  | [] => true
  | c :: cs => letB c && cs.all okSgn
theorem stem_all {l : List Nat} (h : stemB l = true) : ∀ c ∈ l, okSgn c = true := by
  intro c hc
  cases l with
  | nil => cases hc
  | cons d cs =>
    have h : (letB d && cs.all okSgn) = true := h
    rw [Bool.and_eq_true, List.all_eq_true] at h
    rcases List.mem_cons.mp hc with rfl | hc
    · unfold okSgn; rw [h.1]; rfl
    · exact h.2 c hc
theorem mid_two (d e : Nat) (l : List Nat) : midL (d :: e :: l) = (decide (d = 112) && digB e) := by
  by_cases h : d = 112
  · subst h; rfl
  · rw [decide_eq_false h]
    unfold midL
    split
    · rename_i heq
      injection heq with h1
      exact absurd h1 h
    · rfl
theorem stem_words {stem : List Nat} {a s lg m : Nat} (hc : stemB stem = true) (hl : stem.length + lg ≤ 5) (ha : a ≤ stem.length) (hm : 2 ≤ m) (hm2 : m ≤ 20) : WordsOk m (((List.range m).map (stemW stem a s lg)).map strL) := by
  have all := stem_all hc
  have more : ∀ k, ∀ c ∈ (if k % 2 * lg = 1 then [sgnW s k] else []), okSgn c = true := by
    intro k c h
    split at h
    · have : c = sgnW s k := by simpa using h
      subst this
      unfold okSgn; rw [sgn_let]; rfl
    · cases h
  have mlen : ∀ k, (if k % 2 * lg = 1 then [sgnW s k] else []).length ≤ lg := by
    intro k
    split
    · rename_i h
      cases lg with
      | zero => simp at h
      | succ n => show 1 ≤ n + 1; omega
    · exact Nat.zero_le _
  have ok : ∀ k, nameL (stemW stem a s lg k) = true := by
    intro k
    have len : (stemW stem a s lg k).length ≤ 6 := by
      unfold stemW
      have := mlen k
      rw [List.length_append, List.length_cons, List.length_append, List.length_take, List.length_drop]
      omega
    have alls : ∀ c ∈ stemW stem a s lg k, okSgn c = true := by
      intro c h
      unfold stemW at h
      rcases List.mem_append.mp h with h | h
      · exact all c (List.mem_of_mem_take h)
      rcases List.mem_cons.mp h with rfl | h
      · unfold okSgn; rw [sgn_let]; rfl
      rcases List.mem_append.mp h with h | h
      · exact all c (List.mem_of_mem_drop h)
      · exact more k c h
    have first : ∃ d ds, stemW stem a s lg k = d :: ds ∧ letB d = true := by
      unfold stemW
      cases a with
      | zero => exact ⟨_, _, rfl, sgn_let s k⟩
      | succ n =>
        cases stem with
        | nil => exact absurd ha (by simp)
        | cons d cs =>
          have h : (letB d && cs.all okSgn) = true := hc
          rw [Bool.and_eq_true] at h
          exact ⟨_, _, rfl, h.1⟩
    obtain ⟨d, ds, e, hd⟩ := first
    rw [e] at len alls ⊢
    show (letB d && decide (ds.length ≤ 5) && ds.all fun c => letB c || digB c) = true
    rw [Bool.and_eq_true, Bool.and_eq_true, List.all_eq_true]
    rw [List.length_cons] at len
    exact ⟨⟨hd, decide_eq_true (by omega)⟩, fun c h => alls c (List.mem_cons_of_mem _ h)⟩
  have mid : ∃ b : Bool, ∀ k, midL (stemW stem a s lg k) = b := by
    match a, stem, ha, hc with
    | 0, [], _, _ =>
      refine ⟨false, fun k => ?_⟩
      unfold stemW
      show midL (sgnW s k :: ([] ++ (if k % 2 * lg = 1 then [sgnW s k] else []))) = false
      split
      · unfold midL
        split
        · rename_i heq
          simp only [List.nil_append, List.cons.injEq] at heq
          rw [← heq.2.1]
          exact let_dig (sgn_let s k)
        · rfl
      · unfold midL
        split
        · rename_i heq
          simp at heq
        · rfl
    | 0, d :: cs, _, hc =>
      refine ⟨false, fun k => ?_⟩
      have h : (letB d && cs.all okSgn) = true := hc
      rw [Bool.and_eq_true] at h
      unfold stemW
      unfold midL
      split
      · rename_i heq
        simp only [List.take_zero, List.nil_append, List.drop_zero, List.cons_append, List.cons.injEq] at heq
        rw [← heq.2.1]
        exact let_dig h.1
      · rfl
    | 1, d :: cs, _, _ =>
      refine ⟨false, fun k => ?_⟩
      unfold stemW
      unfold midL
      split
      · rename_i heq
        simp only [List.take_succ_cons, List.take_zero, List.cons_append, List.nil_append, List.cons.injEq] at heq
        rw [← heq.2.1]
        exact let_dig (sgn_let s k)
      · rfl
    | n + 2, d :: e :: cs, _, _ =>
      refine ⟨midL [d, e], fun k => ?_⟩
      unfold stemW
      show midL (d :: e :: _) = midL [d, e]
      rw [mid_two, mid_two]
    | 1, [], ha, _ => exact absurd ha (by simp)
    | n + 2, [], ha, _ => exact absurd ha (by simp)
    | n + 2, [d], ha, _ => exact absurd ha (by simp)
  refine words_of (by rw [List.length_map, List.length_range]) ?_ (fun l hl => ?_) ?_
  · refine List.pairwise_map.mpr ?_
    refine List.Pairwise.imp_of_mem (fun {i j} hi hj hne e => ?_) (List.nodup_range (n := m))
    have hi := List.mem_range.mp hi
    have hj := List.mem_range.mp hj
    have g : ∀ k, (stemW stem a s lg k)[a]? = some (sgnW s k) := by
      intro k
      unfold stemW
      have e1 : (stem.take a).length = a := by rw [List.length_take]; omega
      rw [List.getElem?_append_right (by omega), e1, Nat.sub_self]
      rfl
    have e2 := g i
    rw [e, g j] at e2
    injection e2 with e2
    unfold sgnW at e2
    apply hne
    omega
  · obtain ⟨k, _, rfl⟩ := List.mem_map.mp hl
    exact ok k
  · obtain ⟨b, hb⟩ := mid
    cases b with
    | true =>
      refine .inl (List.filter_eq_nil_iff.mpr fun l hl => ?_)
      obtain ⟨k, _, rfl⟩ := List.mem_map.mp hl
      rw [hb]
      decide
    | false =>
      right
      rw [List.filter_eq_self.mpr, List.length_map, List.length_range]
      · exact hm
      · intro l hl
        obtain ⟨k, _, rfl⟩ := List.mem_map.mp hl
        rw [hb]
        rfl
/-- pieces of a text, by code points -/
theorem strL_len (l : List Nat) : (strL l).length = l.length := by
  show l.toArray.size = l.length
  simp
theorem cutS_to (l : List Nat) (a : Nat) : cutS (strL l) none (some (a : Int)) = strL (l.take a) := by
  unfold cutS
  rw [HT.sIx_none, HT.sIx_nat, strL_len]
  show (⟨(((l.toArray.toList).drop 0).take (min a l.length - 0)).toArray⟩ : Str) = ⟨(l.take a).toArray⟩
  congr 2
  simp [List.take_eq_take_iff]
theorem cutS_from (l : List Nat) (a : Nat) : cutS (strL l) (some (a : Int)) none = strL (l.drop a) := by
  unfold cutS
  rw [HT.sIx_none, HT.sIx_nat, strL_len]
  show (⟨(((l.toArray.toList).drop (min a l.length)).take (l.length - min a l.length)).toArray⟩ : Str) = ⟨(l.drop a).toArray⟩
  congr 1
  rw [show l.toArray.toList = l by simp]
  by_cases h : a ≤ l.length
  · rw [Nat.min_eq_left h, List.take_of_length_le (by rw [List.length_drop]; omega)]
  · rw [Nat.min_eq_right (by omega), List.drop_eq_nil_of_le (by omega), List.drop_eq_nil_of_le (by omega), List.take_nil]
theorem strL_app (a b : List Nat) : strL a ++ strL b = strL (a ++ b) := by
  show (⟨a.toArray ++ b.toArray⟩ : Str) = ⟨(a ++ b).toArray⟩
  simp
theorem join_one (l : List Nat) : Txt.join Str.empty (l.map fun k => (⟨#[k]⟩ : Str)) = strL l := by
  have h := PyProof.Rows.join_closes (sep := Str.empty) (sep' := Str.empty) (ys := l.map fun k => (⟨#[k]⟩ : Str)) rfl
  rw [eq_of_beq h]
  exact PyProof.Rows.join_ones l
/-! the heap of two letters -/
theorem heap_words {a m : Nat} (ha : a < 25) {ls : List (List Nat)} (p : ls.Perm ((heapW a 30).drop 1)) (hm : 2 ≤ m) (hm2 : m ≤ 30) : WordsOk m ((ls.take m).map strL) := by
  have h := heap_ok ⟨a, ha⟩
  rw [Bool.and_eq_true, decide_eq_true_eq, List.all_eq_true] at h
  obtain ⟨h1, h2⟩ := h
  have hlen : ∀ n, (heapW a n).length = n + 1 := by
    intro n
    induction n with
    | zero => rfl
    | succ n ih => show (heapW a n ++ [_]).length = _; rw [List.length_append, ih]; rfl
  have len : ls.length = 30 := by rw [p.length_eq, List.length_drop, hlen]
  have mem : ∀ l ∈ ls.take m, nameL l = true ∧ midL l = false := by
    intro l hl
    have := h2 l (p.mem_iff.mp (List.mem_of_mem_take hl))
    rw [Bool.and_eq_true] at this
    exact ⟨this.1, by simpa using this.2⟩
  refine words_of (by rw [List.length_take]; omega) ((p.nodup_iff.mpr h1).sublist (List.take_sublist _ _)) (fun l hl => (mem l hl).1) (.inr ?_)
  rw [List.filter_eq_self.mpr fun l hl => by rw [(mem l hl).2]; rfl, List.length_take]
  omega
end Wr
-- WrWords6
/-! _law_words -/
namespace Wr
open PySem L2
def lettersS : Str := "abcdefghijklmnopqrstuvwxyz"
def figuresS : Str := Str.append "abcdefghijklmnopqrstuvwxyz" "0123456789"
theorem letters_fin : ∀ i : Fin 26, atI lettersS.cps.toList ((i.val : Nat) : Int) = some (97 + i.val) := by decide +kernel
def figN (i : Nat) : Nat := if i < 26 then 97 + i else 22 + i
theorem figures_fin : ∀ i : Fin 36, atI figuresS.cps.toList ((i.val : Nat) : Int) = some (figN i.val) := by decide +kernel
theorem fig_ok : ∀ i : Fin 36, okSgn (figN i.val) = true := by decide +kernel
theorem fig_let : ∀ i : Fin 26, letB (figN i.val) = true := by decide +kernel
theorem fmod_nat (a b : Nat) : ((a : Int)).fmod (b : Int) = ((a % b : Nat) : Int) := by
  rw [Int.fmod_eq_emod_of_nonneg _ (by omega)]; rfl
theorem fdiv_nat (a b : Nat) : ((a : Int)).fdiv (b : Int) = ((a / b : Nat) : Int) := by
  rw [Int.fdiv_eq_ediv_of_nonneg _ (by omega)]; rfl
theorem letters_get {x : Int} {j : Nat} (hx : x = (j : Nat)) (hj : j < 26) : atI lettersS.cps.toList x = some (97 + j) := by
  subst hx
  exact letters_fin ⟨j, hj⟩
theorem letters_mod (s k : Nat) : atI lettersS.cps.toList (((s : Int) + 7 * (0 + (k : Int))).fmod 26) = some (sgnW s k) := by
  refine letters_get ?_ (Nat.mod_lt _ (by decide))
  rw [show ((s : Int) + 7 * (0 + (k : Int))) = ((s + 7 * k : Nat) : Int) by omega]
  exact fmod_nat _ 26
theorem more_eq (i lg : Nat) : ((0 + (i : Int)).fmod 2) * (lg : Int) = ((i % 2 * lg : Nat) : Int) := by
  rw [Int.zero_add, Int.natCast_mul]
  congr 1
  exact fmod_nat i 2
theorem perm_map_inv {α β : Type} {f : α → β} : ∀ {ys : List β} {l : List α}, ys.Perm (l.map f) → ∃ l' : List α, ys = l'.map f ∧ l'.Perm l
  | [], l, h => by
    have : l.map f = [] := h.symm.eq_nil
    exact ⟨[], rfl, by rw [List.map_eq_nil_iff.mp this]⟩
  | y :: ys, l, h => by
    have hy : y ∈ l.map f := h.mem_iff.mp (List.mem_cons_self ..)
    obtain ⟨a, ha, rfl⟩ := List.mem_map.mp hy
    obtain ⟨s, t, rfl⟩ := List.append_of_mem ha
    have p1 : ((s ++ a :: t).map f).Perm (f a :: (s ++ t).map f) := (List.perm_middle (a := a) (l₁ := s) (l₂ := t)).map f
    obtain ⟨l', e, p⟩ := perm_map_inv (h.trans p1).cons_inv
    exact ⟨a :: l', by rw [e]; rfl, (p.cons a).trans List.perm_middle.symm⟩
theorem same_put {H H' : Hp} {D : Addr} {o : HO} (g : Same H H') (n : H D = none) : Same H (L2.upd H' D o) := fun b u e => by rw [upd_ne (ne_of_none e n)]; exact g b u e
theorem Fed.free {f p : Addr} {H H' : Hp} (g : Fed f H H') (n : H' p = none) : H p = none := by
  cases q : H p with
  | none => rfl
  | some o =>
    by_cases e : p = f
    · obtain ⟨a, b, c, z⟩ := g.at_
      rw [e, z] at n; cases n
    · rw [g.kp p o e q] at n; cases n
section
variable {P : Program} {w : World} {K : PySem.W.Frag} {mg : Str → Option Value} {base : Heap} {f : Addr} {fd : FuncData}
abbrev MixedD (P : Program) (w : World) (K : PySem.W.Frag) (mg : Str → Option Value) (base : Heap) : Prop := Dv P w K mg base CX0 2 "_law_mixed" ["_law_feed_here", "_law_items"] spMixed
abbrev nWords : List Str := ["_law_feed_here", "_law_many", "_law_letters", "_law_form", "_law_known", "_law_start", "_law_at", "_law_found", "_law_k", "_law_begin", "_law_sign", "_law_figures", "_law_signs", "_law_stem", "_law_longer", "_law_more"]
abbrev pWords : List Str := ["_law_feed_here", "_law_many"]
abbrev sWords : Stmt := top 68
theorem scWords : FnScope nWords pWords (defScope sWords) := ⟨rfl, rfl, rfl, by decide +kernel, rfl, by decide +kernel, by decide +kernel⟩
abbrev wCx (P : Program) (w : World) (K : PySem.W.Frag) (mg : Str → Option Value) (base : Heap) (f : Addr) (cdv : Value) (A : Around) (outer : List Env) (s : Shared) (H : Hp) (E : XK) : Cx := (cxOf CX0 P w K mg base nWords "_law_words" (defScope sWords) f cdv A outer s H E).nox
/-- what is wanted of the names -/
def WordsTo (f : Addr) (m : Nat) (H : Hp) (Q : VK) : Prop := ∀ q ws H', WordsOk m ws → Fed f H H' → H q = none → H' q = some (.lst (ws.map V.str)) → Q (.ref q) H'
theorem WordsTo.step {f : Addr} {m : Nat} {H H1 : Hp} {Q : VK} (k : WordsTo f m H Q) (g : Fed f H H1) : WordsTo f m H1 Q := fun q ws H' ok g1 n e => k q ws H' ok (g.trans g1) (g.free n) e
theorem words_tail {cdv : Value} {A : Around} {outer : List Env} {s : Shared} {H0 : Hp} {E : XK} (hb : ∀ x ∈ blts, mg x = none) (M : MixedD P w K mg base) (hr : Room 2 (wCx P w K mg base f cdv A outer s H0 E).A) :
    ∃ t, PSs (wCx P w K mg base f cdv A outer s H0 E) ((defBody sWords).drop 9) t ∧ ∀ (D : L2.Ends) (H : Hp) (fe : Addr) (m st a lg : Nat) (stem : List Nat) (v3 v4 v7 v8 v9 v10 v11 v12 v15 : Option V), FeedAt H fe → WordsTo fe m H D.rt → 2 ≤ m → m ≤ 20 → st < 26 → stemB stem = true → stem.length + lg ≤ 5 → a ≤ stem.length → lg ≤ 1 →
      t D [some (.ref fe), some (.int (m : Nat)), some (.str lettersS), v3, v4, some (.int (st : Nat)), some (.int (a : Nat)), v7, v8, v9, v10, v11, v12, some (.str (strL stem)), some (.int (lg : Nat)), v15] H := by
  have nd := scWords.nd
  refine ⟨_, pss_cons (ps_set (i := 7) nd rfl (Or.inl rfl) (pe_lst pa_nil))
    (pss_cons (ps_for PassesOwn.never rfl (pi_range1 rfl (hb _ (by decide)) (pa_cons (pv 1) pa_nil)) (pg_name (i := 8) nd rfl (Or.inl rfl))
      (pss_cons (ps_set (i := 10) nd rfl (Or.inr rfl) (pe_ix ix_str (pv 2) (pe_op op_modN (pe_op op_add (pv 5) (pe_op op_mul pe_int (pv 8))) pe_int) (fun _ _ => rfl)))
      (pss_cons (ps_set (i := 15) nd rfl (Or.inl rfl) (pe_op op_mul01 (pv 10) (pe_op op_mul (pe_op op_modN (pv 8) pe_int) (pv 14))))
      (pss_one (ps_expr (pe_bm PySem.F.plainAttrs_list PySem.F.slot_list_append PySem.F.type_list_append mt_append (pv 7) (pa_cons
        (pe_op op_add_str (pe_op op_add_str (pe_op op_add_str (pe_slice sl_str (pv 13) po_none (po_some (pv 6))) (pv 10)) (pe_slice sl_str (pv 13) (po_some (pv 6)) po_none)) (pv 15)) pa_nil)))))))
    (pss_one (ps_ret (pe_dv M hr pass0 (pa_cons (pv 0) (pa_cons (pv 7) pa_nil)))))), fun D H fe m st a lg stem v3 v4 v7 v8 v9 v10 v11 v12 v15 hf k hm hm2 hst hsb hlen ha hlg => ?_⟩
  refine ⟨by decide, fun p hp => ?_⟩
  refine ⟨_, rfl, _, rfl, by omega, by omega, ?_⟩
  have s0 := same_new (o := .lst ([] : List V)) hp
  refine for_range (n := _) (fun i σ H' => Same H H' ∧ H' p = some (.lst ((((List.range i).map (stemW stem a st lg)).map strL).map V.str)) ∧ ∃ u8 u10 u15, σ = [some (.ref fe), some (.int (m : Nat)), some (.str lettersS), v3, v4, some (.int (st : Nat)), some (.int (a : Nat)), some (.ref p), u8, v9, u10, v11, v12, some (.str (strL stem)), some (.int (lg : Nat)), u15])
    ⟨s0, upd_same, _, _, _, rfl⟩ (fun i σ H' hi ⟨g, hp2, u8, u10, u15, es⟩ => ?_) fun σ H' ⟨g, hp2, u8, u10, u15, es⟩ => ?_
  · subst es
    have hi : i < m := by
      have : i < (((m : Nat) : Int) - 0).toNat := hi
      omega
    have lst : (strL stem).length ≤ 5 := by rw [strL_len]; omega
    refine ⟨_, rfl, _, rfl, _, rfl, _, _, rfl, rfl, .inl ⟨by decide, by decide⟩, _, _, rfl, rfl, _, _, rfl, rfl, (by show (26 : Int) ≠ 0; decide), _, _, _, rfl, rfl, (by rw [sizeLine_eq]; decide), letters_mod st i, ?_⟩
    refine ⟨_, rfl, _, rfl, _, _, rfl, rfl, (by show (2 : Int) ≠ 0; decide), _, rfl, _, _, rfl, rfl, ?_, ?_⟩
    · refine .inr ⟨by omega, by omega⟩
    refine ⟨_, _, rfl, rfl, ?_, ?_⟩
    · rw [more_eq]
      have h2 : i % 2 < 2 := Nat.mod_lt _ (by decide)
      have : i % 2 * lg ≤ 1 := by
        have : i % 2 * lg ≤ 1 * 1 := Nat.mul_le_mul (by omega) hlg
        omega
      omega
    have eM : (if ((0 + (i : Int)).fmod 2) * (lg : Int) = 1 then (⟨#[sgnW st i]⟩ : Str) else Str.empty) = strL (if i % 2 * lg = 1 then [sgnW st i] else []) := by
      rw [more_eq]
      by_cases h : i % 2 * lg = 1
      · rw [if_pos h, if_pos (by omega)]; rfl
      · rw [if_neg h, if_neg (by omega)]; rfl
    have lM : (strL (if i % 2 * lg = 1 then [sgnW st i] else [])).length ≤ 1 := by
      rw [strL_len]; split
      · exact Nat.le_refl _
      · exact Nat.zero_le _
    rw [eM]
    have l1 : (cutS (strL stem) none (some (a : Int))).length ≤ 5 := Nat.le_trans (cutS_length _ _ _) lst
    have l2 : (cutS (strL stem) (some (a : Int)) none).length ≤ 5 := Nat.le_trans (cutS_length _ _ _) lst
    have l3 : (⟨#[sgnW st i]⟩ : Str).length = 1 := rfl
    refine ⟨_, rfl, .inl ⟨rfl, _, SqL.of hp2⟩, _, rfl, _, rfl, _, rfl, _, rfl, (by rw [sizeLine_eq]; omega), _, rfl, _, _, rfl, rfl, (by rw [sizeLine_eq]; omega), _, rfl, _, rfl, _, rfl, _, rfl, (by rw [sizeLine_eq]; omega), _, _, rfl, rfl, ?_, _, rfl, _, _, rfl, rfl, ?_, ?_⟩
    · rw [sizeLine_eq, strLen_append]; omega
    · rw [sizeLine_eq, strLen_append, strLen_append]; omega
    refine ⟨p, _, _, rfl, rfl, hp2, ?_, ?_⟩
    · rw [List.length_map, List.length_map, List.length_map, List.length_range, sizeLine_eq]; omega
    · refine ⟨same_put g hp, ?_, _, _, _, rfl⟩
      rw [upd_same, List.range_succ, List.map_append, List.map_append, List.map_append]
      congr 3
      show [V.str _] = [V.str _]
      congr 2
      rw [cutS_to, cutS_from]
      show ((strL (stem.take a) ++ strL [sgnW st i]) ++ strL (stem.drop a)) ++ strL _ = strL (stemW stem a st lg i)
      rw [strL_app, strL_app, strL_app]
      unfold stemW
      simp
  · subst es
    have em : ((m : Nat) : Int).toNat = m := by omega
    rw [em] at hp2
    refine ⟨_, rfl, _, rfl, fe, p, _, rfl, hf.same g, hp2, ?_, fun q ys H3 pm g3 hq hq2 => ?_⟩
    · rw [List.length_map, List.length_map, List.length_map, List.length_range]; omega
    obtain ⟨ws, rfl, pw⟩ := perm_map_inv pm
    have gA : Fed fe H H3 := (Fed.same hf g).trans g3
    exact k q ws H3 ((stem_words hsb hlen ha hm hm2).perm pw) gA (g.free hq) hq2
end
end Wr
-- WrWords7
/-! _law_words: its first forms -/
namespace Wr
open PySem L2
def knownS : Str := "posts tie cut change undo closes span if core flat table show no yes k0 k1 p0 p1 a0 a1 t0 t1"
theorem known_split : Txt.split knownS " " = known := by decide +kernel
theorem known_cut {st m : Nat} (hst : st < 22) (hm : m ≤ 20) : cutV ((List.replicate (2 : Int).toNat (known.map V.str)).flatten) (some (st : Int)) (some ((st : Int) + (m : Int))) = (((known ++ known).drop st).take m).map V.str := by
  have e : (List.replicate (2 : Int).toNat (known.map V.str)).flatten = (known ++ known).map V.str := by
    show known.map V.str ++ (known.map V.str ++ []) = _
    rw [List.append_nil, List.map_append]
  rw [e]
  have l : ((known ++ known).map V.str).length = 44 := rfl
  unfold cutV
  rw [l, show ((st : Int) + (m : Int)) = ((st + m : Nat) : Int) by omega, HT.sIx_nat, HT.sIx_nat, Nat.min_eq_left (by omega), Nat.min_eq_left (by omega), Nat.add_sub_cancel_left, List.map_take, List.map_drop]
theorem getD_at {α : Type} {l : List α} {i : Nat} {d : α} (h : i < l.length) : l.getD i d = l[i] := by
  rw [List.getD_eq_getElem?_getD, List.getElem?_eq_getElem h]; rfl
theorem heapW_len (a : Nat) : ∀ n, (heapW a n).length = n + 1
  | 0 => rfl
  | n + 1 => by show (heapW a n ++ [_]).length = _; rw [List.length_append, heapW_len a n]; rfl
theorem heapW_le (a : Nat) : ∀ n, ∀ l ∈ heapW a n, l.length ≤ n
  | 0, l, h => by
    have : l = [] := by simpa [heapW] using h
    rw [this]; exact Nat.le_refl _
  | n + 1, l, h => by
    rcases List.mem_append.mp (show l ∈ heapW a n ++ [((heapW a n).getD (n / 2) []) ++ [97 + a + n % 2]] from h) with h | h
    · have := heapW_le a n l h; omega
    · have e : l = ((heapW a n).getD (n / 2) []) ++ [97 + a + n % 2] := by simpa using h
      have hlt : n / 2 < (heapW a n).length := by rw [heapW_len]; omega
      have : ((heapW a n).getD (n / 2) []).length ≤ n := by
        rw [getD_at hlt]
        exact heapW_le a n _ (List.getElem_mem _)
      rw [e, List.length_append, List.length_singleton]; omega
section
variable {P : Program} {w : World} {K : PySem.W.Frag} {mg : Str → Option Value} {base : Heap} {f : Addr} {fd : FuncData}
variable {cdv : Value} {A : Around} {outer : List Env} {s : Shared} {H0 : Hp} {E : XK}
abbrev wIf (i : Nat) : List Stmt := match (defBody sWords).getD i (.Pass ⟨0, 0, 0, 0⟩) with
  | .If _ b _ _ => b
  | _ => []
theorem words_0 (hb : ∀ x ∈ blts, mg x = none) (T : TakeD P w K mg base) (M : MixedD P w K mg base) (hr : Room 2 (wCx P w K mg base f cdv A outer s H0 E).A) :
    ∃ t, PSs (wCx P w K mg base f cdv A outer s H0 E) (wIf 1) t ∧ ∀ (D : L2.Ends) (H : Hp) (fe : Addr) (m : Nat) (v2 v3 v4 v5 v6 v7 v8 v9 v10 v11 v12 v13 v14 v15 : Option V), FeedAt H fe → WordsTo fe m H D.rt → m = 12 ∨ m = 20 →
      t D [some (.ref fe), some (.int (m : Nat)), v2, v3, v4, v5, v6, v7, v8, v9, v10, v11, v12, v13, v14, v15] H := by
  have nd := scWords.nd
  refine ⟨_, pss_cons (ps_set (i := 4) nd rfl (Or.inl rfl) pe_str)
    (pss_cons (ps_set (i := 5) nd rfl (Or.inl rfl) (pe_dv T (hr.mono (by decide)) pass0 (pa_cons (pv 0) (pa_cons pe_int pa_nil))))
    (pss_one (ps_ret (pe_dv M hr pass0 (pa_cons (pv 0) (pa_cons (pe_slice sl_list (pe_op op_rep (pe_split (pv 4) pe_str) pe_int) (po_some (pv 5)) (po_some (pe_op op_add (pv 5) (pv 1)))) pa_nil)))))), fun D H fe m v2 v3 v4 v5 v6 v7 v8 v9 v10 v11 v12 v13 v14 v15 hf k hm => ?_⟩
  refine ⟨_, rfl, fe, 22, rfl, hf, by decide, by decide, fun d H1 d0 d1 g1 => ?_⟩
  obtain ⟨st, rfl⟩ := Int.eq_ofNat_of_zero_le d0
  have hst : st < 22 := by omega
  have hm2 : m ≤ 20 := by omega
  refine ⟨_, rfl, _, rfl, ⟨_, rfl⟩, knownS, " ", rfl, rfl, by decide +kernel, (by rw [sizeLine_eq]; decide +kernel), fun p hp => ?_⟩
  rw [known_split]
  refine ⟨p, 2, _, rfl, rfl, upd_same, by decide, by decide, (by rw [sizeLine_eq]; decide +kernel), fun p2 hp2 => ?_⟩
  refine ⟨_, rfl, _, rfl, _, rfl, _, rfl, _, _, rfl, rfl, _, rfl, p2, _, rfl, SqL.of upd_same, fun p3 hp3 => ?_⟩
  rw [known_cut hst hm2]
  have s1 := same_new (o := .lst (known.map V.str)) hp
  have s2 := same_new (o := .lst (List.replicate (2 : Int).toNat (known.map V.str)).flatten) hp2
  have s3 := same_new (o := .lst ((((known ++ known).drop st).take m).map V.str)) hp3
  have gA := g1.step (s1.trans (s2.trans s3))
  refine ⟨fe, p3, _, rfl, gA.at_, upd_same, ?_, fun q ys H3 pm g3 hq hq2 => ?_⟩
  · rw [List.length_map, List.length_take]; omega
  obtain ⟨ws, rfl, pw⟩ := perm_map_inv pm
  have ok := known_ok m (by rcases hm with rfl | rfl <;> decide) ⟨st, hst⟩
  exact k q ws H3 ((wordsB_ok ok).perm pw) (gA.trans g3) (gA.free hq) hq2
theorem words_2 (hb : ∀ x ∈ blts, mg x = none) (T : TakeD P w K mg base) (M : MixedD P w K mg base) (hr : Room 2 (wCx P w K mg base f cdv A outer s H0 E).A) :
    ∃ t, PSs (wCx P w K mg base f cdv A outer s H0 E) (wIf 2) t ∧ ∀ (D : L2.Ends) (H : Hp) (fe : Addr) (m : Nat) (v3 v4 v5 v6 v7 v8 v9 v10 v11 v12 v13 v14 v15 : Option V), FeedAt H fe → WordsTo fe m H D.rt → 2 ≤ m → m ≤ 20 →
      t D [some (.ref fe), some (.int (m : Nat)), some (.str lettersS), v3, v4, v5, v6, v7, v8, v9, v10, v11, v12, v13, v14, v15] H := by
  have nd := scWords.nd
  refine ⟨_, pss_cons (ps_par (i := 6) (j := 7) rfl nd rfl rfl (by decide) rfl rfl (pa_cons (pe_dv T (hr.mono (by decide)) pass0 (pa_cons (pv 0) (pa_cons pe_int pa_nil))) (pa_cons (pe_lst (pa_cons pe_str pa_nil)) pa_nil)) rfl)
    (pss_cons (ps_for PassesOwn.never rfl (pi_range1 rfl (hb _ (by decide)) (pa_cons pe_int pa_nil)) (pg_name (i := 8) nd rfl (Or.inl rfl))
      (pss_one (ps_expr (pe_bm PySem.F.plainAttrs_list PySem.F.slot_list_append PySem.F.type_list_append mt_append (pv 7) (pa_cons
        (pe_op op_add_str (pe_ix ix_list (pv 7) (pe_op op_fdivN (pv 8) pe_int) (fun _ _ => rfl)) (pe_ix ix_str (pv 2) (pe_op op_add (pv 6) (pe_op op_modN (pv 8) pe_int)) (fun _ _ => rfl))) pa_nil)))))
    (pss_one (ps_ret (pe_slice sl_list (pe_dv M hr pass0 (pa_cons (pv 0) (pa_cons (pe_slice sl_list (pv 7) (po_some pe_int) po_none) pa_nil))) po_none (po_some (pv 1)))))), fun D H fe m v3 v4 v5 v6 v7 v8 v9 v10 v11 v12 v13 v14 v15 hf k hm hm2 => ?_⟩
  refine ⟨_, rfl, fe, 25, rfl, hf, by decide, by decide, fun d H1 d0 d1 g1 => ?_⟩
  obtain ⟨a, rfl⟩ := Int.eq_ofNat_of_zero_le d0
  have ha : a < 25 := by omega
  refine ⟨one_le, fun p hp => ⟨_, _, rfl, ?_⟩⟩
  refine ⟨_, rfl, by decide, by decide, ?_⟩
  have s0 := same_new (o := .lst [V.str ""]) hp
  refine for_range (n := _) (fun i σ H' => Same H1 H' ∧ H' p = some (.lst (((heapW a i).map strL).map V.str)) ∧ ∃ u8, σ = [some (.ref fe), some (.int (m : Nat)), some (.str lettersS), v3, v4, v5, some (.int (a : Nat)), some (.ref p), u8, v9, v10, v11, v12, v13, v14, v15])
    ⟨s0, upd_same, _, rfl⟩ (fun i σ H' hi ⟨g, hp2, u8, es⟩ => ?_) fun σ H' ⟨g, hp2, u8, es⟩ => ?_
  · subst es
    have hi : i < 30 := hi
    have hlt : i / 2 < (heapW a i).length := by rw [heapW_len]; omega
    have hle := heapW_le a i _ (List.getElem_mem hlt)
    refine ⟨_, rfl, .inl ⟨rfl, _, SqL.of hp2⟩, _, rfl, _, rfl, _, _, rfl, rfl, ⟨by decide, by decide⟩, p, _, _, .str (strL (heapW a i)[i / 2]), rfl, rfl, SqL.of hp2, ?_, ?_⟩
    · rw [Int.zero_add, show ((2 : Int)) = ((2 : Nat) : Int) from rfl, fdiv_nat]
      refine atI_nat ?_
      rw [List.getElem?_map, List.getElem?_map, List.getElem?_eq_getElem hlt]
      rfl
    refine ⟨_, rfl, _, rfl, _, rfl, _, _, rfl, rfl, (by show (2 : Int) ≠ 0; decide), _, _, rfl, rfl, _, _, _, rfl, rfl, (by rw [sizeLine_eq]; decide), letters_get (j := a + i % 2) ?_ ?_, ?_⟩
    · rw [Int.zero_add]
      have : ((i : Int)).fmod 2 = ((i % 2 : Nat) : Int) := fmod_nat i 2
      omega
    · have : i % 2 < 2 := Nat.mod_lt _ (by decide)
      omega
    have l3 : (⟨#[97 + (a + i % 2)]⟩ : Str).length = 1 := rfl
    refine ⟨_, _, rfl, rfl, ?_, p, _, _, rfl, rfl, hp2, ?_, same_put g hp, ?_, _, rfl⟩
    · rw [sizeLine_eq, strL_len, l3]; omega
    · rw [List.length_map, List.length_map, heapW_len, sizeLine_eq]; omega
    · rw [upd_same]
      show _ = some (HO.lst (((heapW a i ++ [((heapW a i).getD (i / 2) []) ++ [97 + a + i % 2]]).map strL).map V.str))
      rw [List.map_append, List.map_append, getD_at hlt]
      congr 3
      show [V.str (strL _ ++ strL [97 + (a + i % 2)])] = [V.str (strL _)]
      rw [strL_app, Nat.add_assoc]
  · subst es
    have hp3 : H' p = some (.lst (((heapW a 30).map strL).map V.str)) := hp2
    refine ⟨_, rfl, _, rfl, _, rfl, p, _, rfl, SqL.of hp3, fun p2 hp2 => ?_⟩
    have ec : cutV (((heapW a 30).map strL).map V.str) (some 1) none = (((heapW a 30).drop 1).map strL).map V.str := by
      rw [show ((1 : Int)) = ((1 : Nat) : Int) from rfl, cut_from (by rw [List.length_map, List.length_map, heapW_len]; decide), List.map_drop, List.map_drop]
    rw [ec]
    have s2 := same_new (o := .lst ((((heapW a 30).drop 1).map strL).map V.str)) hp2
    have gA := g1.step (g.trans s2)
    refine ⟨fe, p2, _, rfl, gA.at_, upd_same, ?_, fun q ys H3 pm g3 hq hq2 => ?_⟩
    · rw [List.length_map, List.length_map, List.length_drop, heapW_len]; decide
    obtain ⟨ws, rfl, pw⟩ := perm_map_inv pm
    obtain ⟨ls, rfl, pl⟩ := perm_map_inv pw
    refine ⟨_, rfl, _, rfl, q, _, rfl, SqL.of hq2, fun p3 hp3 => ?_⟩
    have len : ls.length = 30 := by rw [pl.length_eq, List.length_drop, heapW_len]
    have ec2 : cutV ((ls.map strL).map V.str) none (some ((m : Nat) : Int)) = ((ls.take m).map strL).map V.str := by
      unfold cutV
      rw [HT.sIx_none, HT.sIx_nat, List.length_map, List.length_map, len, Nat.min_eq_left (by omega), List.drop_zero, Nat.sub_zero, List.map_take, List.map_take]
    rw [ec2]
    have s3 := same_new (o := .lst (((ls.take m).map strL).map V.str)) hp3
    have gB := (gA.trans g3).step s3
    exact k p3 _ _ (heap_words ha pl hm (by omega)) gB ((gA.trans g3).free hp3) upd_same
theorem words_3 (hb : ∀ x ∈ blts, mg x = none) (T : TakeD P w K mg base) (hr : Room 2 (wCx P w K mg base f cdv A outer s H0 E).A) :
    ∃ t, PSs (wCx P w K mg base f cdv A outer s H0 E) (wIf 3) t ∧ ∀ (D : L2.Ends) (H : Hp) (fe : Addr) (m : Nat) (v3 v4 v5 v6 v7 v8 v9 v10 v11 v12 v13 v14 v15 : Option V), FeedAt H fe → WordsTo fe m H D.rt → 2 ≤ m → m ≤ 20 →
      t D [some (.ref fe), some (.int (m : Nat)), some (.str lettersS), v3, v4, v5, v6, v7, v8, v9, v10, v11, v12, v13, v14, v15] H := by
  have nd := scWords.nd
  have hr1 := hr.mono (show 1 ≤ 2 by decide)
  refine ⟨_, pss_cons (ps_asg (pe_tup (pa_cons (pe_dv T hr1 pass0 (pa_cons (pv 0) (pa_cons pe_int pa_nil))) (pa_cons (pe_ix ix_str (pv 2) (pe_dv T hr1 pass0 (pa_cons (pv 0) (pa_cons pe_int pa_nil))) (fun _ _ => rfl)) pa_nil)))
      (pg_tup rfl (pgs_cons (pg_name (i := 9) nd rfl (Or.inr rfl)) (pgs_cons (pg_name (i := 10) nd rfl (Or.inr rfl)) pgs_nil))))
    (pss_one (ps_ret (pe_lc (own := [("_law_k", 8)]) (g := gName 8) (tt := tYes) rfl nd (pi_range1 rfl (hb _ (by decide)) (pa_cons (pv 1) pa_nil)) (blkOk_by (N := nWords) (sc := defScope sWords) (by decide +kernel)) (fun _ _ _ _ _ => pg_name (i := 8) nd rfl (Or.inl rfl)) (fun _ _ _ _ _ => pts_nil)
      (fun _ _ _ _ _ => pe_op op_add_str (pv 10) (pe_callTy call_str_int rfl (hb _ (by decide)) (by first | rfl | kernel_rfl) (pa_cons (pe_op op_modN (pe_op op_add (pv 9) (pe_op op_mul pe_int (pv 8))) pe_int) pa_nil)))))), fun D H fe m v3 v4 v5 v6 v7 v8 v9 v10 v11 v12 v13 v14 v15 hf k hm hm2 => ?_⟩
  refine ⟨_, rfl, fe, 121, rfl, hf, by decide, by decide, fun d H1 d0 d1 g1 => ?_⟩
  obtain ⟨b, rfl⟩ := Int.eq_ofNat_of_zero_le d0
  refine ⟨_, rfl, _, rfl, fe, 26, rfl, g1.at_, by decide, by decide, fun d H2 e0 e1 g2 => ?_⟩
  obtain ⟨sg, rfl⟩ := Int.eq_ofNat_of_zero_le e0
  have hs : sg < 26 := by omega
  refine ⟨_, _, _, rfl, rfl, (by rw [sizeLine_eq]; decide), letters_get (j := sg) rfl hs, two_le, fun p hp => ?_⟩
  have s1 := same_new (o := .tup [.int (b : Nat), .str ⟨#[97 + sg]⟩]) hp
  refine ⟨p, _, rfl, SqT.of upd_same, rfl, _, _, rfl, _, _, rfl, rfl, ?_⟩
  have gA := (g1.trans g2).step s1
  refine ⟨_, rfl, _, rfl, by omega, by omega, fun D1 hD => ?_⟩
  refine lc_range (lo := 0) (n := _) (fun i H' => Same (upd H2 p (.tup [.int (b : Nat), .str ⟨#[97 + sg]⟩])) H' ∧ H' D1 = some (.lst ((((List.range i).map (numW sg b)).map strL).map V.str))) ⟨same_new hD, upd_same⟩ (fun i H' hi ⟨g, hD2⟩ => ?_) fun H' ⟨g, hD2⟩ => ?_
  · refine ⟨rfl, ?_⟩
    rw [tYes_if]
    have hi : i < m := by
      have : i < (((m : Nat) : Int) - 0).toNat := hi
      omega
    have en : (((b : Int) + 9 * (0 + (i : Int))).fmod 121) = (((b + 9 * i) % 121 : Nat) : Int) := by
      rw [show ((b : Int) + 9 * (0 + (i : Int))) = ((b + 9 * i : Nat) : Int) by omega]
      exact fmod_nat _ 121
    have hlt : (b + 9 * i) % 121 < 121 := Nat.mod_lt _ (by decide)
    refine ⟨_, rfl, _, rfl, _, rfl, _, _, rfl, rfl, .inl ⟨by decide, by decide⟩, _, _, rfl, rfl, _, _, rfl, rfl, (by show (121 : Int) ≠ 0; decide), _, rfl, ?_, ?_⟩
    · rw [en]; exact log_of (by omega) (by omega)
    rw [en]
    refine ⟨_, _, rfl, rfl, ?_, _, hD2, ?_, same_put g hD, ?_⟩
    · have := int_len (i := (((b + 9 * i) % 121 : Nat) : Int)) (by omega) (by omega)
      rw [sizeLine_eq]
      show 1 + _ ≤ _
      omega
    · rw [List.length_map, List.length_map, List.length_map, List.length_range, sizeLine_eq]; omega
    · rw [upd_same, List.range_succ, List.map_append, List.map_append, List.map_append]
      congr 3
      show [V.str (strL [97 + sg] ++ strL (((toString (((b + 9 * i) % 121 : Nat) : Int) : String) : Str).cps.toList))] = [V.str (strL (numW sg b i))]
      rw [strL_app]
      rfl
  · have em : ((m : Nat) : Int).toNat = m := by omega
    rw [em] at hD2
    exact k D1 _ H' (num_ok hs hm hm2) (gA.step g) (gA.free hD) hD2
end
end Wr
-- WrWords8
/-! _law_words -/
namespace Wr
open PySem L2
section
variable {P : Program} {w : World} {K : PySem.W.Frag} {mg : Str → Option Value} {base : Heap} {f : Addr} {fd : FuncData}
def spWords : Sp := fun vs H Q _ => ∃ (fe : Addr) (m : Nat), vs = [.ref fe, .int (m : Nat)] ∧ FeedAt H fe ∧ (m = 12 ∨ m = 20) ∧ WordsTo fe m H Q
theorem lt_eqI {a b c : Int} (h : a < b) (e : b = c) : a < c := e ▸ h
theorem ok_words (hb : ∀ x ∈ blts, mg x = none) (T : TakeD P w K mg base) (M : MixedD P w K mg base) (F : L2.Fun K "_law_words" "_law_words" sWords f fd) : FnOk P w K mg base CX0 3 f fd pWords spWords := by
  refine F.ok scWords (fun vs H Q E h => ?_) (fun cdv A outer s H vs Q E hr h => ?_)
  · obtain ⟨fe, m, rfl, _⟩ := h
    rfl
  · obtain ⟨fe, m, rfl, hf, hm, k⟩ := h
    have nd := scWords.nd
    have hr1 := hr.mono (show 1 ≤ 2 by decide)
    obtain ⟨t0, p0, r0⟩ := words_0 (f := f) (cdv := cdv) (A := A) (outer := outer) (s := s) (H0 := H) (E := E) hb T M hr
    obtain ⟨t2, p2, r2⟩ := words_2 (f := f) (cdv := cdv) (A := A) (outer := outer) (s := s) (H0 := H) (E := E) hb T M hr
    obtain ⟨t3, p3, r3⟩ := words_3 (f := f) (cdv := cdv) (A := A) (outer := outer) (s := s) (H0 := H) (E := E) hb T hr
    obtain ⟨t9, p9, r9⟩ := words_tail (f := f) (cdv := cdv) (A := A) (outer := outer) (s := s) (H0 := H) (E := E) hb M hr
    refine ⟨_, pss_cons (ps_par (i := 2) (j := 3) rfl nd rfl rfl (by decide) rfl rfl (pa_cons pe_str (pa_cons (pe_dv T hr1 pass0 (pa_cons (pv 0) (pa_cons pe_int pa_nil))) pa_nil)) rfl)
      (pss_cons (ps_if (pt_cmpR op_eq (pv 3) pe_int (nomark _)) p0 pss_nil)
      (pss_cons (ps_if (pt_cmpR op_eq (pv 3) pe_int (nomark _)) p2 pss_nil)
      (pss_cons (ps_if (pt_cmpR op_eq (pv 3) pe_int (nomark _)) p3 pss_nil)
      (pss_cons (ps_set (i := 11) nd rfl (Or.inr rfl) (pe_op op_add_str (pv 2) pe_str))
      (pss_cons (ps_set (i := 12) nd rfl (Or.inl rfl) (pe_ix ix_list (pe_lst (pa_cons (pe_dv T hr1 pass0 (pa_cons (pv 0) (pa_cons pe_int pa_nil))) (pa_cons pe_int pa_nil))) (pe_callTy call_int1 rfl (hb _ (by decide)) (by first | rfl | kernel_rfl) (pa_cons (pe_cmpR op_eq (pv 3) pe_int (nomark _)) pa_nil)) (fun _ _ => rfl)))
      (pss_cons (ps_set (i := 13) nd rfl (Or.inl rfl) (pe_join pe_str (pe_lc (own := [("_law_k", 8)]) (g := gName 8) (tt := tYes) rfl nd (pi_range1 rfl (hb _ (by decide)) (pa_cons (pv 12) pa_nil)) (blkOk_by (N := nWords) (sc := defScope sWords) (by decide +kernel)) (fun _ _ _ _ _ => pg_name (i := 8) nd rfl (Or.inl rfl)) (fun _ _ _ _ _ => pts_nil)
        (fun _ _ _ _ _ => pe_ix ix_str (pv 11) (pe_dv T hr1 pass0 (pa_cons (pv 0) (pa_cons (pe_op op_add pe_int (pe_op op_mul pe_int (pe_callTy call_int1 rfl (hb _ (by decide)) (by first | rfl | kernel_rfl) (pa_cons (pe_cmpR op_gt (pv 8) pe_int (nomark _)) pa_nil)))) pa_nil))) (fun _ _ => rfl)))))
      (pss_cons (ps_par3 (i := 6) (j := 5) (l := 14) rfl nd rfl rfl rfl (by decide) (by decide) (by decide) rfl rfl rfl (pa_cons (pe_dv T hr1 pass0 (pa_cons (pv 0) (pa_cons (pe_op op_add (pe_callB call_len rfl (hb _ (by decide)) (by first | rfl | kernel_rfl) (pa_cons (pv 13) pa_nil)) pe_int) pa_nil)))
          (pa_cons (pe_dv T hr1 pass0 (pa_cons (pv 0) (pa_cons pe_int pa_nil))) (pa_cons (pe_dv T hr1 pass0 (pa_cons (pv 0) (pa_cons pe_int pa_nil))) pa_nil))) rfl)
      (pss_cons (ps_if (pt_cmpR op_eq (pv 3) pe_int (nomark _)) (pss_one (ps_asg (pe_tup (pa_cons pe_int (pa_cons pe_int pa_nil))) (pg_tup rfl (pgs_cons (pg_name (i := 6) nd rfl (Or.inl rfl)) (pgs_cons (pg_name (i := 14) nd rfl (Or.inl rfl)) pgs_nil))))) pss_nil)
      p9)))))))), ?_⟩
    refine ⟨_, rfl, fe, 6, rfl, hf, by decide, by decide, fun fm H1 a1 a2 g1 => ⟨_, _, rfl, ?_⟩⟩
    have k1 := k.step g1
    refine ⟨_, rfl, rfl, _, rfl, ?_⟩
    refine ite2 (fun _ => r0 _ H1 fe m _ _ _ _ _ _ _ _ _ _ _ _ _ _ g1.at_ k1 hm) (fun _ => ?_)
    refine ⟨_, rfl, rfl, _, rfl, ?_⟩
    refine ite2 (fun _ => r2 _ H1 fe m _ _ _ _ _ _ _ _ _ _ _ _ _ g1.at_ k1 (by omega) (by omega)) (fun _ => ?_)
    refine ⟨_, rfl, rfl, _, rfl, ?_⟩
    refine ite2 (fun _ => r3 _ H1 fe m _ _ _ _ _ _ _ _ _ _ _ _ _ g1.at_ k1 (by omega) (by omega)) (fun _ => ?_)
    refine ⟨_, rfl, lettersS, "0123456789", rfl, rfl, (by rw [sizeLine_eq]; decide), ?_⟩
    refine ⟨_, rfl, fe, 5, rfl, g1.at_, by decide, by decide, fun d H2 d0 d1 g2 => ⟨two_le, fun l hl => ?_⟩⟩
    have s1 := same_new (o := .lst [.int d, .int 5]) hl
    have g12 := (g1.trans g2).step s1
    obtain ⟨dn, rfl⟩ := Int.eq_ofNat_of_zero_le d0
    obtain ⟨sg, hsg, hsg5, hsg4⟩ : ∃ sg : Nat, atI [V.int ((dn : Nat) : Int), V.int 5] (if decide (fm = 1) = true then 1 else 0) = some (.int (sg : Nat)) ∧ (fm = 1 → sg = 5) ∧ (fm ≠ 1 → sg ≤ 4) := by
      by_cases e : fm = 1
      · rw [if_pos (decide_eq_true e)]
        exact ⟨5, rfl, fun _ => rfl, fun z => absurd e z⟩
      · rw [if_neg (by simpa using e)]
        exact ⟨dn, rfl, fun z => absurd z e, fun _ => by omega⟩
    have ef : decide (V.int fm = V.int 1) = decide (fm = 1) := by
      by_cases e : fm = 1
      · rw [e]; rfl
      · rw [decide_eq_false e, decide_eq_false (fun z => by injection z with z; exact e z)]
    have sg5 : sg ≤ 5 := by
      by_cases e : fm = 1
      · rw [hsg5 e]; exact Nat.le_refl _
      · have := hsg4 e; omega
    refine ⟨_, rfl, rfl, .inr ⟨_, rfl, l, _, _, .int (sg : Nat), rfl, rfl, SqL.of upd_same, (by rw [ef]; exact hsg), ?_⟩⟩
    refine ⟨⟨_, rfl⟩, _, rfl, _, rfl, by omega, by omega, fun D hD => ?_⟩
    refine lc_range (lo := 0) (n := _) (fun i H' => Fed fe H H' ∧ ∃ st : List Nat, H' D = some (.lst (st.map fun c => V.str ⟨#[c]⟩)) ∧ st.length = i ∧ stemB st = true) ⟨g12.step (same_new hD), [], upd_same, rfl, rfl⟩ (fun i H' hi ⟨g, st, hst, lst, bst⟩ => ?_) fun H' ⟨g, st, hst, lst, bst⟩ => ?_
    · refine ⟨rfl, ?_⟩
      rw [tYes_if]
      have hi : i < sg := by
        have : i < (((sg : Nat) : Int) - 0).toNat := hi
        omega
      have Df : D ≠ fe := fun z => by obtain ⟨_, _, _, e⟩ := g12.at_; rw [← z, hD] at e; cases e
      obtain ⟨nn, hnn, hn1, hn2, hn3⟩ : ∃ nn : Int, (26 + 10 * (if decide (0 + (i : Int) > 0) = true then (1 : Int) else 0)) = nn ∧ 0 < nn ∧ nn ≤ 36 ∧ (i = 0 → nn = 26) := by
        refine ⟨_, rfl, ?_, ?_, ?_⟩
        · split <;> decide
        · split <;> decide
        · intro e
          subst e
          rfl
      refine ⟨_, rfl, _, rfl, _, rfl, _, _, rfl, rfl, .inr ⟨_, rfl, _, _, rfl, rfl, .inl ⟨by decide, by decide⟩, _, _, rfl, rfl, ?_⟩⟩
      subst hnn
      refine ⟨fe, _, rfl, g.at_, hn1, by omega, fun d H3 e0 e1 g3 => ?_⟩
      obtain ⟨x, rfl⟩ := Int.eq_ofNat_of_zero_le e0
      have hx : x < 36 := by omega
      refine ⟨_, _, _, rfl, rfl, (by rw [sizeLine_eq]; decide), figures_fin ⟨x, hx⟩, _, g3.kp _ _ Df hst, ?_, ?_, st ++ [figN x], ?_, ?_, ?_⟩
      · rw [List.length_map, sizeLine_eq]; omega
      · have nD : H D = none := by
          have := g12.free hD
          exact this
        exact (g.trans g3).put Df nD
      · rw [upd_same, List.map_append]; rfl
      · rw [List.length_append, lst]; rfl
      · cases st with
        | nil =>
          have : i = 0 := lst.symm
          have hx3 : (x : Int) < 26 := lt_eqI e1 (hn3 this)
          have hx2 : x < 26 := by omega
          show (letB (figN x) && [].all okSgn) = true
          rw [fig_let ⟨x, hx2⟩]; rfl
        | cons c cs =>
          have bst : (letB c && cs.all okSgn) = true := bst
          show (letB c && (cs ++ [figN x]).all okSgn) = true
          rw [List.all_append, ← Bool.and_assoc, bst]
          show (okSgn (figN x) && true) = true
          rw [fig_ok ⟨x, hx⟩]; rfl
    · have em : ((sg : Nat) : Int).toNat = sg := by omega
      have lst : st.length = sg := lst.trans em
      refine ⟨"", D, st.map fun c => ⟨#[c]⟩, rfl, rfl, .inl (SqL.of (by rw [List.map_map]; exact hst)), ?_, ?_⟩
      · have e1 : ((st.map fun c => (⟨#[c]⟩ : Str)).map (·.length)) = st.map fun _ => 1 := by rw [List.map_map]; rfl
        rw [e1, List.length_map]
        have e2 : ((st.map fun _ => 1).sum : Nat) = st.length := by
          have : ∀ l : List Nat, ((l.map fun _ => 1).sum : Nat) = l.length := fun l => by
            induction l with
            | nil => rfl
            | cons c cs ih => rw [List.map_cons, List.sum_cons, ih, List.length_cons]; omega
          exact this st
        have e3 : ("" : Str).length = 0 := rfl
        rw [e2, e3]; omega
      have ej : Txt.join "" (st.map fun c => (⟨#[c]⟩ : Str)) = strL st := join_one st
      rw [ej]
      refine ⟨_, rfl, _, rfl, .str (strL st), st.length, rfl, ⟨(by rw [strL_len, sizeLine_eq]; omega), (strL_len st).symm⟩, _, _, rfl, rfl, fe, _, rfl, g.at_, by omega, by omega, fun d H3 e0 e1 g3 => ?_⟩
      refine ⟨_, rfl, fe, 26, rfl, g3.at_, by decide, by decide, fun d2 H4 e2 e3 g4 => ⟨_, rfl, fe, 2, rfl, g4.at_, by decide, by decide, fun d3 H5 e4 e5 g5 => ⟨_, _, _, rfl, ?_⟩⟩⟩
      obtain ⟨a, rfl⟩ := Int.eq_ofNat_of_zero_le e0
      obtain ⟨sx, rfl⟩ := Int.eq_ofNat_of_zero_le e2
      obtain ⟨lg, rfl⟩ := Int.eq_ofNat_of_zero_le e4
      have gA := g.trans (g3.trans (g4.trans g5))
      have kA := k.step gA
      refine ⟨_, rfl, rfl, _, rfl, ?_⟩
      refine ite2 (fun e => ?_) (fun e => ?_)
      · rw [ef] at e
        have e := of_decide_eq_true e
        have := hsg5 e
        refine ⟨two_le, fun p hp => ?_⟩
        have gB := gA.step (same_new (o := .tup [.int 5, .int 0]) hp)
        exact ⟨p, _, rfl, SqT.of upd_same, rfl, _, _, rfl, _, _, rfl, rfl, r9 _ _ fe m sx 5 0 st _ _ _ _ _ _ _ _ _ gB.at_ (k.step gB) (by omega) (by omega) (by omega) bst (by omega) (by omega) (by decide)⟩
      · rw [ef] at e
        have := hsg4 (fun z => e (decide_eq_true z))
        exact r9 _ H5 fe m sx a lg st _ _ _ _ _ _ _ _ _ gA.at_ kA (by omega) (by omega) (by omega) bst (by omega) (by omega) (by omega)
end
end Wr
-- WrLaw11
/-! _law_ends -/
namespace Wr
open PySem L2
/-- two names, none like a middle's -/
structure EndsOk (b e : Str) : Prop where
  ne : b ≠ e
  okb : NameOk b
  oke : NameOk e
  mb : midB b = false
  me : midB e = false
theorem filter_first (ws : List Str) : ((ws.filter fun z => !decide (z ∈ (["p0", "p1"] : List Str))).filter fun w => !midB w) = ws.filter fun w => !midB w := by
  rw [List.filter_filter]
  congr 1
  funext w
  cases h : midB w with
  | true => rfl
  | false =>
    have : w ∉ (["p0", "p1"] : List Str) := fun hm => by
      have : w = "p0" ∨ w = "p1" := by simpa using hm
      rcases this with rfl | rfl
      · exact absurd h (by decide +kernel)
      · exact absurd h (by decide +kernel)
    rw [decide_eq_false this]; rfl
theorem ends_of {m : Nat} {ws : List Str} (h : WordsOk m ws) : ∃ b e, EndsOk b e ∧ cutV (((ws.filter fun w => !midB w).map V.str) ++ [.str "ya", .str "yb"]) none (some 2) = [.str b, .str e] := by
  have mem : ∀ w ∈ (ws.filter fun w => !midB w), NameOk w ∧ midB w = false := fun w hw => by
    have := List.mem_filter.mp hw
    exact ⟨h.ok w this.1, by simpa using this.2⟩
  have nd : (ws.filter fun w => !midB w).Nodup := h.nd.filter _
  rcases h.ends with e | e
  · rw [e]
    exact ⟨"ya", "yb", ⟨by decide +kernel, nameL_ok (by decide +kernel), nameL_ok (by decide +kernel), by decide +kernel, by decide +kernel⟩, rfl⟩
  · generalize (ws.filter fun w => !midB w) = l at e mem nd
    match l, e with
    | b :: c :: r, _ =>
      rw [List.nodup_cons] at nd
      refine ⟨b, c, ⟨fun z => nd.1 (by rw [z]; exact List.mem_cons_self ..), (mem b (by simp)).1, (mem c (by simp)).1, (mem b (by simp)).2, (mem c (by simp)).2⟩, ?_⟩
      unfold cutV
      rw [HT.sIx_none, show ((2 : Int)) = ((2 : Nat) : Int) from rfl, HT.sIx_nat, Nat.min_eq_left (by rw [List.length_append]; show 2 ≤ _ + 2; omega)]
      rfl
theorem str_strL (w : Str) : w = strL w.cps.toList := by
  show w = ⟨w.cps.toList.toArray⟩
  rw [Array.toArray_toList]
section
variable {P : Program} {w : World} {K : PySem.W.Frag} {mg : Str → Option Value} {base : Heap} {f : Addr} {fd : FuncData}
abbrev WordsD (P : Program) (w : World) (K : PySem.W.Frag) (mg : Str → Option Value) (base : Heap) : Prop := Dv P w K mg base CX0 3 "_law_words" pWords spWords
abbrev nEnds : List Str := ["_law_feed_here", "_law_some", "_law_word"]
abbrev sEnds : Stmt := top 74
theorem scEnds : FnScope nEnds ["_law_feed_here"] (defScope sEnds) := ⟨rfl, rfl, rfl, by decide +kernel, rfl, by decide +kernel, by decide +kernel⟩
def spEnds : Sp := fun vs H Q _ => ∃ (fe : Addr), vs = [.ref fe] ∧ FeedAt H fe ∧ ∀ q b e H', EndsOk b e → Fed fe H H' → H q = none → H' q = some (.lst [.str b, .str e]) → Q (.ref q) H'
theorem ok_ends (hb : ∀ x ∈ blts, mg x = none) (W : WordsD P w K mg base) (F : L2.Fun K "_law_ends" "_law_ends" sEnds f fd) : FnOk P w K mg base CX0 4 f fd ["_law_feed_here"] spEnds := by
  refine F.ok scEnds (fun vs H Q E h => ?_) (fun cdv A outer s H vs Q E hr h => ?_)
  · obtain ⟨fe, rfl, _⟩ := h
    rfl
  · obtain ⟨fe, rfl, hf, k⟩ := h
    have nd := scEnds.nd
    refine ⟨_, pss_cons (ps_setLc (i := 1) (own := [("_law_word", 2)]) (g := gName 2) (tt := _) rfl nd rfl rfl (sw_true rfl rfl rfl (by decide +kernel)) (pi_list (pe_dv W hr pass0 (pa_cons (pv 0) (pa_cons pe_int pa_nil)))) (blkOk_by (N := nEnds) (sc := defScope sEnds) (by decide +kernel)) (fun _ _ _ _ _ => pg_name (i := 2) nd rfl (Or.inl rfl))
        (fun _ _ _ _ _ => pts_one (pt_cmpR (show OpR _ _ (rIn K true) from op_notIn_seq) (pv 2) (pe_tup (pa_cons pe_str (pa_cons pe_str pa_nil))) rfl)) (fun _ _ _ _ _ => pv 2))
      (pss_cons (ps_setLc (i := 1) (own := [("_law_word", 2)]) (g := gName 2) (tt := _) rfl nd rfl rfl (sw_true rfl rfl rfl (by decide +kernel)) (pi_list (pv 1)) (blkOk_by (N := nEnds) (sc := defScope sEnds) (by decide +kernel)) (fun _ _ _ _ _ => pg_name (i := 2) nd rfl (Or.inl rfl))
        (fun _ _ _ _ _ => pts_one (PW.pt (pw_or (pt_cmpR op_ne (pe_ix ix_str (pv 2) pe_int (fun _ _ => rfl)) pe_str (nomark _)) (pw_or (pt_cmpR op_eq (pe_slice sl_str (pv 2) (po_some pe_int) po_none) pe_str (nomark _)) (pw_or1 (pt_cmpR op_notIn_sign (pe_ix ix_str (pv 2) pe_int (fun _ _ => rfl)) pe_str rfl)))))) (fun _ _ _ _ _ => pv 2))
      (pss_one (ps_ret (pe_slice sl_list (pe_op op_cat (pv 1) (pe_lst (pa_cons pe_str (pa_cons pe_str pa_nil)))) po_none (po_some pe_int))))), ?_⟩
    refine ⟨_, rfl, fe, 12, rfl, hf, .inl rfl, fun q ws H1 ok g1 nq hq => ⟨q, rfl, ⟨_, SqL.of hq⟩, fun D1 hD1 => ?_⟩⟩
    refine lc_filt ws V.str (fun z => !decide (z ∈ (["p0", "p1"] : List Str))) walk_list (by rw [ok.len]; decide) hD1 (fun H' g => SqL.of (g _ _ hq)) (fun i z H' QT QF hz g qT qF => ?_) fun H2 g2 h2 => ?_
    · refine ⟨rfl, _, rfl, two_le, fun p hp => ⟨p, _, rfl, .inr (SqT.of upd_same), rfl, rfl, _, rfl, ?_⟩⟩
      have ei : inV (.str z) [.str "p0", .str "p1"] = decide (z ∈ (["p0", "p1"] : List Str)) := inV_str z ["p0", "p1"]
      have gp := same_new (o := .tup [.str "p0", .str "p1"]) hp
      rw [if_pos rfl, ei]
      cases e : !decide (z ∈ (["p0", "p1"] : List Str)) with
      | true => exact iteT ⟨_, rfl, qT e _ gp⟩
      | false => exact iteF (qF e _ gp)
    refine ⟨_, rfl, D1, rfl, ⟨_, SqL.of h2⟩, fun D2 hD2 => ?_⟩
    refine lc_filt (ws.filter fun z => !decide (z ∈ (["p0", "p1"] : List Str))) V.str (fun w => !midB w) walk_list ?_ hD2 (fun H' g => SqL.of (g _ _ h2)) (fun i z H' QT QF hz g qT qF => ?_) fun H3 g3 h3 => ?_
    · have := List.length_filter_le (fun z => !decide (z ∈ (["p0", "p1"] : List Str))) ws
      rw [ok.len] at this; omega
    · have hzm := (List.mem_filter.mp (List.mem_of_getElem? hz)).1
      have okz := ok.ok z hzm
      obtain ⟨l, rfl⟩ : ∃ l, z = strL l := ⟨_, str_strL z⟩
      have hl6 : l.length ≤ 6 := by have := okz.le; rwa [show (strL l).cps.size = l.length from strL_len l] at this
      have lz : (strL l).length ≤ sizeLine := by rw [strL_len, sizeLine_eq]; omega
      cases l with
      | nil => exact absurd okz.pos (by decide)
      | cons c cs =>
        have ec : decide (V.str ⟨#[c]⟩ = V.str "p") = decide (c = 112) := by
          by_cases e : c = 112
          · subst e; rfl
          · rw [decide_eq_false e, decide_eq_false (fun z => e (by
              have : (⟨#[c]⟩ : Str) = ⟨#[112]⟩ := by injection z
              injection this with this
              simpa using this))]
        refine ⟨rfl, _, rfl, _, _, c, rfl, rfl, lz, atI_nat (j := 0) rfl, rfl, _, rfl, ?_⟩
        rw [ec]
        by_cases e : c = 112
        · subst e
          refine iteF ⟨_, rfl, _, rfl, _, rfl, lz, rfl, _, rfl, ?_⟩
          have e1 : cutS (strL (112 :: cs)) (some 1) none = strL cs := cutS_from (112 :: cs) 1
          rw [e1]
          cases cs with
          | nil =>
            refine iteT ⟨_, rfl, qT rfl _ (Same.refl _)⟩
          | cons d ds =>
            have e2 : decide (V.str (strL (d :: ds)) = V.str "") = false := decide_eq_false (fun z => by
              have : strL (d :: ds) = strL [] := by injection z
              have := congrArg (fun s => s.cps.toList) this
              simp [strL] at this)
            rw [e2]
            refine iteF ⟨_, rfl, _, _, d, rfl, rfl, lz, atI_nat (j := 1) rfl, d, _, rfl, rfl, _, rfl, ?_⟩
            have e3 : decide (d ∈ ("0123456789" : Str).cps.toList) = digB d := by
              cases h : digB d with
              | true => exact decide_eq_true ((digB_mem d).mp h)
              | false => exact decide_eq_false fun z => by rw [(digB_mem d).mpr z] at h; cases h
            rw [e3]
            cases h : digB d with
            | true => exact iteF (qF (by show (!digB d) = false; rw [h]; rfl) _ (Same.refl _))
            | false => exact iteT ⟨_, rfl, qT (by show (!digB d) = true; rw [h]; rfl) _ (Same.refl _)⟩
        · rw [decide_eq_false e]
          refine iteT ⟨_, rfl, qT ?_ _ (Same.refl _)⟩
          show (!midL (c :: cs)) = true
          have : midL (c :: cs) = false := by
            unfold midL
            split
            · rename_i heq
              injection heq with h1
              exact absurd h1 e
            · rfl
          rw [this]; rfl
    rw [filter_first] at h3
    obtain ⟨b, e, okbe, ecut⟩ := ends_of ok
    have lf : (ws.filter fun w => !midB w).length ≤ 12 := by
      have := List.length_filter_le (fun w => !midB w) ws
      rw [ok.len] at this; exact this
    refine ⟨_, rfl, two_le, fun l hl => ?_⟩
    have s4 := same_new (o := .lst [.str "ya", .str "yb"]) hl
    refine ⟨D2, l, _, _, rfl, rfl, s4 _ _ h3, upd_same, ?_, fun l2 hl2 => ?_⟩
    · rw [List.length_map, sizeLine_eq]; show _ + 2 ≤ _; omega
    have s5 := same_new (o := .lst (((ws.filter fun w => !midB w).map V.str) ++ [.str "ya", .str "yb"])) hl2
    refine ⟨_, rfl, l2, _, rfl, SqL.of upd_same, fun l3 hl3 => ?_⟩
    rw [ecut]
    have s6 := same_new (o := .lst [.str b, .str e]) hl3
    have gA := g1.step (g2.trans (g3.trans (s4.trans s5)))
    exact k l3 b e _ okbe (gA.step s6) (gA.free hl3) upd_same
end
end Wr
-- WrVals
/-! list(d.values()) -/
namespace Wr
open PySem PySem.Spec PyProof.Rows L2
def rValsL : V → Hp → VK → Prop := fun x H Q => ∃ (d : Addr) (kvs : List (Key × V)), x = .ref d ∧ H d = some (.dK kvs) ∧ ∀ p, H p = none → Q (.ref p) (upd H p (.lst (kvs.map (·.2))))
def tListVals (te : TE) : TE := fun σ H Q => te σ H fun x H1 => rValsL x H1 Q
theorem vals_of_kv {kvs : List (Key × V)} {vs : List (Key × Value)} (h : KV kvs vs) : Vals (kvs.map (·.2)) (vs.map (·.2)) := by
  unfold KV at h
  induction h with
  | nil => exact .nil
  | cons a _ ih => exact .cons a.2 ih
section
variable {X : Cx} {e : Expr} {te : TE} {p apos cpos pos : Pos}
theorem pe_listVals (hc : X.calm = true) (he : PE X e te) (hg : Gl X "list") (hm : X.mg "list" = none) (hv : bootBuiltins "list" = some (.type "list")) (hbase : attributeBase e "values" X.env (eval e X.env) = eval e X.env := by rfl) (hline : (apos.endLine == cpos.line) = true := by rfl)
    (hs : starEach [.Call (.Attribute e "values" apos) [] [] cpos] X.env = (false, eval (.Call (.Attribute e "values" apos) [] [] cpos) X.env) :: starEach [] X.env := by rfl) :
    PE X (.Call (.Name "list" p) [.Call (.Attribute e "values" apos) [] [] cpos] [] pos) (tListVals te) := by
  refine ⟨fun pins s σ H Q I hq => ?_⟩
  refine wpAny_Call_Name_kw (ld_blt I hg hm hv ?_)
  refine PyProof.Rows.callWith_type1 ?_ hs rfl
  rw [hs]
  show wpAny _ _ (spliced ((false, eval (.Call (.Attribute e "values" apos) [] [] cpos) X.env) :: backTo pos (starEach [] X.env))) _ _ s
  refine Calls.spliced_cons ?_
  refine wpAny_Call_method (T := "dict") (id := "dict.values") hbase rfl hline F.plainAttrs_dict F.slot_dict_values F.type_dict_values (thn (he.run pins s σ H _ I hq) fun u s1 ⟨x, H1, I1, rx, d, kvs, ex, hd, q⟩ => ?_)
  subst ex
  obtain rfl : u = Value.ref d := rx
  obtain ⟨hz, hs0, vs, kv, hdo⟩ := I1.hok d _ hd
  obtain ⟨ep, hat⟩ := hdo.dictAt
  have lk : kvs.length = vs.length := Paired.length kv
  have I2 : Inv X pins σ H1 { s1 with heap := s1.heap.push { cls := .type "dict_values", data := .fields #[.ref d] } } := I1.kept (t' := s1.toks) fun b ob q => Heap.get?_push_of_some _ q
  refine ⟨hdo.typeIs, hdo.mapOf.noDict, ?_⟩
  show wpAny _ _ (callWith cpos (.builtin "dict.values") [.ref d] [] []) _ X.xe s1
  refine method_meetsIn F.slot_dict_values F.entry_dict_values rfl (PySem.evalArgs_none ⟨rfl, hdo.typeIs, F.args_dict_values_1 _, _, meets_dict_values (mixKind X.prog X.w) d hs0, ⟨vs, hdo⟩, ?_⟩)
  refine Calls.spliced_nil ?_
  refine PySem.W.kdl_call (PySem.W.kdl_values (knd := mixKind X.prog X.w) (kvs := vs) (ep := ep)) (I1.ok.hd hc) ⟨⟨_, Heap.get?_push_size _ rfl, rfl, rfl⟩, hat.push _⟩ (by omega) fun h' tk acc c hk hS hacc => ?_
  have ea : acc.toList = vs.map (·.2) := PySem.W.kdl_vals_eq acc.toList (by rw [Array.length_toList]; exact hacc.1) fun j u hu => hacc.2 j u (by rw [← Array.getElem?_toList]; exact hu)
  refine ⟨.ref _, _, I2.laid (t' := tk) (o := .lst (kvs.map (·.2))) hk (Nat.le_refl _) ?_, rfl, q _ (I2.hok.fresh (Nat.le_refl _))⟩
  exact ⟨by rw [List.length_map]; omega, acc.toList, c, by rw [ea]; exact vals_of_kv kv, by rw [Array.toArray_toList]; exact hS⟩
end
end Wr
-- WrDisg
/-! the ties of a plan, named anew and turned about: a web that the program takes, a net of the plan's worth -/
namespace Wr
open PySem L2
/-- a tie with its posts named anew, turned about perhaps -/
def Tame (ρ : Str → Str) (r0 r : T5) : Prop := r.x = r0.x ∧ r.lo = r0.lo ∧ r.hi = r0.hi ∧ ((r.one = ρ r0.one ∧ r.other = ρ r0.other) ∨ (r.one = ρ r0.other ∧ r.other = ρ r0.one))
theorem paired_split {α β : Type} {R : α → β → Prop} : ∀ {as as' : List α} {bs : List β}, Paired R (as ++ as') bs → ∃ b1 b2, bs = b1 ++ b2 ∧ Paired R as b1 ∧ Paired R as' b2
  | [], as', bs, h => ⟨[], bs, rfl, .nil, h⟩
  | a :: as, as', b :: bs, .cons h t => by
    obtain ⟨b1, b2, e, h1, h2⟩ := paired_split t
    exact ⟨b :: b1, b2, by rw [e]; rfl, .cons h h1, h2⟩
theorem paired_perm {α β : Type} {R : α → β → Prop} {as as' : List α} {bs : List β} (h : Paired R as bs) (p : as.Perm as') : ∃ bs', bs.Perm bs' ∧ Paired R as' bs' := by
  induction p generalizing bs with
  | nil => exact ⟨bs, .refl _, h⟩
  | cons x _ ih =>
    cases h with
    | cons h t =>
      obtain ⟨bs', p1, h1⟩ := ih t
      exact ⟨_ :: bs', p1.cons _, .cons h h1⟩
  | swap x y l =>
    cases h with
    | cons h t =>
      cases t with
      | cons h2 t => exact ⟨_, .swap _ _ _, .cons h2 (.cons h t)⟩
  | trans _ _ ih1 ih2 =>
    obtain ⟨b1, p1, h1⟩ := ih1 h
    obtain ⟨b2, p2, h2⟩ := ih2 h1
    exact ⟨b2, p1.trans p2, h2⟩
theorem laid_names : ∀ (p : Plan) (b e : Str) (n : Nat), (laidP p b e n).map T5.x = p.names
  | .leaf _ _ _, _, _, _ => rfl
  | .op true l r, b, e, n => by
    show (laidP l b e n ++ laidP r b e (n + l.joints)).map T5.x = l.names ++ r.names
    rw [List.map_append, laid_names l, laid_names r]
  | .op false l r, b, e, n => by
    show (laidP l b _ n ++ laidP r _ e _).map T5.x = l.names ++ r.names
    rw [List.map_append, laid_names l, laid_names r]
theorem laid_ok {B : Int} : ∀ (p : Plan) (b e : Str) (n : Nat), p.ok B → ∀ r ∈ laidP p b e n, 0 ≤ r.lo ∧ r.lo ≤ r.hi ∧ r.hi ≤ B
  | .leaf _ lo hi, _, _, _, h, r, hr => by
    have : r = _ := List.mem_singleton.mp hr
    subst this
    exact h
  | .op true l r, b, e, n, h, x, hx => by
    rcases List.mem_append.mp (show x ∈ laidP l b e n ++ laidP r b e (n + l.joints) from hx) with hx | hx
    · exact laid_ok l _ _ _ h.1 x hx
    · exact laid_ok r _ _ _ h.2 x hx
  | .op false l r, b, e, n, h, x, hx => by
    rcases List.mem_append.mp (show x ∈ laidP l b _ n ++ laidP r _ e _ from hx) with hx | hx
    · exact laid_ok l _ _ _ h.1 x hx
    · exact laid_ok r _ _ _ h.2 x hx
theorem net_laid {ρ : Str → Str} {B : Int} {nm : Nat → Str} : ∀ (p : Plan) (b e : Str) (n : Nat) (rows : List T5), p.ok B → (∀ k, n ≤ k → k < n + p.joints → ρ (pN k) = nm k) → Paired (Tame ρ) (laidP p b e n) rows →
    (ρ b :: ρ e :: (List.range' n p.joints).map nm).Nodup → SPN spanAlg (ρ b) (ρ e) ((List.range' n p.joints).map nm) ((rows.map rowE).map eV) (vP p)
  | .leaf x lo hi, b, e, n, rows, ok, hm, h, nd => by
    cases h with
    | cons h t =>
      cases t
      obtain ⟨h1, h2, h3, h4⟩ := h
      have ne : ρ b ≠ ρ e := by
        rw [List.nodup_cons] at nd
        exact fun z => nd.1 (by rw [z]; exact List.mem_cons_self ..)
      have ev : ∀ r : T5, r.x = x → r.lo = lo → r.hi = hi → eV (rowE r) = (r.one, r.other, vP (.leaf x lo hi)) := fun r a b c => by
        show (r.one, r.other, vP (.leaf r.x r.lo r.hi)) = _
        rw [a, b, c]
      rename_i r
      show SPN spanAlg (ρ b) (ρ e) [] [eV (rowE r)] _
      rw [ev r h1 h2 h3]
      rcases h4 with ⟨a1, a2⟩ | ⟨a1, a2⟩
      · rw [a1, a2]; exact .edge ne
      · rw [a1, a2]; exact .flip ne
  | .op true l r, b, e, n, rows, ok, hm, h, nd => by
    have ej : (Plan.op true l r).joints = l.joints + r.joints := rfl
    rw [ej] at hm nd ⊢
    have eM : (List.range' n (l.joints + r.joints)).map nm = (List.range' n l.joints).map nm ++ (List.range' (n + l.joints) r.joints).map nm := by
      rw [← List.map_append, List.range'_append_1]
    rw [eM] at nd ⊢
    obtain ⟨r1, r2, rfl, h1, h2⟩ := paired_split (show Paired (Tame ρ) (laidP l b e n ++ laidP r b e (n + l.joints)) rows from h)
    have s1 := net_laid l b e n r1 ok.1 (fun k a b => hm k a (by omega)) h1 (nd.sublist (((List.sublist_append_left _ _).cons_cons _).cons_cons _))
    have s2 := net_laid r b e (n + l.joints) r2 ok.2 (fun k a b => hm k (by omega) (by omega)) h2 (nd.sublist (((List.sublist_append_right _ _).cons_cons _).cons_cons _))
    have := SPN.par s1 s2 nd
    rw [vP_op ok.1 ok.2, List.map_append, List.map_append]
    exact this
  | .op false l r, b, e, n, rows, ok, hm, h, nd => by
    have ej : (Plan.op false l r).joints = l.joints + r.joints + 1 := rfl
    rw [ej] at hm nd ⊢
    have pM : ((List.range' n (l.joints + r.joints + 1)).map nm).Perm (nm (n + l.joints) :: ((List.range' n l.joints).map nm ++ (List.range' (n + l.joints + 1) r.joints).map nm)) := by
      have e1 : List.range' n (l.joints + r.joints + 1) = List.range' n l.joints ++ (n + l.joints) :: List.range' (n + l.joints + 1) r.joints := by
        rw [Nat.add_assoc l.joints, ← List.range'_append_1, List.range'_succ]
      rw [e1, List.map_append, List.map_cons]
      exact List.perm_middle
    have nd2 := ((pM.cons (ρ e)).cons (ρ b)).nodup_iff.mp nd
    have em : ρ (pN (n + l.joints)) = nm (n + l.joints) := hm _ (by omega) (by omega)
    obtain ⟨r1, r2, rfl, h1, h2⟩ := paired_split (show Paired (Tame ρ) (laidP l b (pN (n + l.joints)) n ++ laidP r (pN (n + l.joints)) e (n + l.joints + 1)) rows from h)
    have nd3 : (ρ b :: nm (n + l.joints) :: (List.range' n l.joints).map nm).Nodup := by
      refine nd2.sublist (List.Sublist.cons_cons _ (List.Sublist.cons _ (List.Sublist.cons_cons _ (List.sublist_append_left _ _))))
    have nd4 : (nm (n + l.joints) :: ρ e :: (List.range' (n + l.joints + 1) r.joints).map nm).Nodup := by
      have : (ρ e :: nm (n + l.joints) :: (List.range' (n + l.joints + 1) r.joints).map nm).Nodup := (List.nodup_cons.mp nd2).2.sublist (List.Sublist.cons_cons _ (List.Sublist.cons_cons _ (List.sublist_append_right _ _)))
      exact (List.Perm.swap _ _ _).nodup_iff.mp this
    have s1 := net_laid l b (pN (n + l.joints)) n r1 ok.1 (fun k a b => hm k a (by omega)) h1 (by rw [em]; exact nd3)
    have s2 := net_laid r (pN (n + l.joints)) e (n + l.joints + 1) r2 ok.2 (fun k a b => hm k (by omega) (by omega)) h2 (by rw [em]; exact nd4)
    rw [em] at s1 s2
    have := SPN.ser s1 s2 nd2
    rw [vP_op ok.1 ok.2, List.map_append, List.map_append]
    exact .perm this pM.symm (List.Perm.refl _)
/-! the names anew -/
theorem pN_mid : ∀ i : Fin 17, midB (pN i.val) = true := by decide +kernel
theorem pN_nd : ((List.range 17).map pN).Nodup := by decide +kernel
theorem pN_inj {i j : Nat} (hi : i < 17) (hj : j < 17) (h : pN i = pN j) : i = j := by
  refine nodup_get pN_nd (i := i) (j := j) (by simpa using hi) (by simpa using hj) ?_
  rw [List.getElem_map, List.getElem_map, List.getElem_range, List.getElem_range]
  exact h
def newN (j : Nat) (nm : Nat → Str) (x : Str) : Str := match (List.range j).find? fun k => decide (pN k = x) with
  | some k => nm k
  | none => x
theorem newN_mid {j : Nat} {nm : Nat → Str} (hj : j ≤ 16) {k : Nat} (hk : k < j) : newN j nm (pN k) = nm k := by
  unfold newN
  cases e : (List.range j).find? fun i => decide (pN i = pN k) with
  | none =>
    have := List.find?_eq_none.mp e k (List.mem_range.mpr hk)
    exact absurd (by simp) this
  | some i =>
    have h1 := List.find?_some e
    have h2 := List.mem_range.mp (List.mem_of_find?_eq_some e)
    have : i = k := pN_inj (by omega) (by omega) (of_decide_eq_true h1)
    rw [this]
theorem newN_end {j : Nat} {nm : Nat → Str} (hj : j ≤ 16) {x : Str} (hx : midB x = false) : newN j nm x = x := by
  unfold newN
  cases e : (List.range j).find? fun i => decide (pN i = x) with
  | none => rfl
  | some i =>
    have h0 := List.find?_some e
    have h1 := of_decide_eq_true h0
    have h2 := List.mem_range.mp (List.mem_of_find?_eq_some e)
    have := pN_mid ⟨i, by omega⟩
    rw [h1, hx] at this
    cases this
/-- what is told of a plan's web -/
structure Disg (B : Int) (p : Plan) (b e : Str) (M : List Str) (ps : List Str) (rows : List T5) : Prop where
  perm : ps.Perm (b :: e :: M)
  len : M.length = p.joints
  net : NetAt b e M (vP p) B p.size (rows.map rowL) (rows.map rowE)
  web : WebOk ps rows
theorem disg_of {B : Int} {p : Plan} {b e : Str} {nm : Nat → Str} {ps : List Str} {rows0 rows : List T5} (ok : p.ok B) (E : EndsOk b e) (hj : p.joints ≤ 16) (nmo : ∀ k, k < p.joints → NameOk (nm k)) (pnd : p.names.Nodup) (pno : ∀ x ∈ p.names, NameOk x)
    (nd : (b :: e :: (List.range p.joints).map nm).Nodup) (pp : ps.Perm (b :: e :: (List.range p.joints).map nm)) (pm : rows0.Perm (laidP p b e 0)) (pr : Paired (Tame (newN p.joints nm)) rows0 rows) (hz : p.size ≤ 1000) : Disg B p b e ((List.range p.joints).map nm) ps rows := by
  obtain ⟨rows1, p1, pr1⟩ := paired_perm pr pm
  have eb := newN_end (nm := nm) hj E.mb
  have ee := newN_end (nm := nm) hj E.me
  have net := net_laid (ρ := newN p.joints nm) (B := B) (nm := nm) p b e 0 rows1 ok (fun k _ h => newN_mid hj (by omega)) pr1 (by rw [eb, ee, ← List.range_eq_range']; exact nd)
  rw [eb, ee, ← List.range_eq_range'] at net
  have net2 : SPN spanAlg b e ((List.range p.joints).map nm) ((rows.map rowE).map eV) (vP p) := .perm net (List.Perm.refl _) ((p1.symm.map rowE).map eV)
  have back : ∀ r ∈ rows, ∃ r0 ∈ laidP p b e 0, r.x = r0.x ∧ r.lo = r0.lo ∧ r.hi = r0.hi := by
    intro r hr
    have hr := p1.mem_iff.mp hr
    have key : ∀ {as bs : List T5}, Paired (Tame (newN p.joints nm)) as bs → r ∈ bs → ∃ r0 ∈ as, r.x = r0.x ∧ r.lo = r0.lo ∧ r.hi = r0.hi := by
      intro as bs h
      induction h with
      | nil => intro h; cases h
      | @cons a b as bs h _ ih =>
        intro hm
        rcases List.mem_cons.mp hm with rfl | hm
        · exact ⟨a, List.mem_cons_self .., h.1, h.2.1, h.2.2.1⟩
        · obtain ⟨r0, m, q⟩ := ih hm
          exact ⟨r0, List.mem_cons_of_mem _ m, q⟩
    exact key pr1 hr
  have nx : (rows.map T5.x).Perm p.names := by
    have key : ∀ {as bs : List T5}, Paired (Tame (newN p.joints nm)) as bs → bs.map T5.x = as.map T5.x := by
      intro as bs h
      induction h with
      | nil => rfl
      | cons h _ ih => rw [List.map_cons, List.map_cons, ih, h.1]
    have := p1.map T5.x
    rw [key pr1, laid_names] at this
    exact this
  have len : rows.length = p.size := by
    have := nx.length_eq
    rw [List.length_map, p.names_len] at this
    exact this
  have okr : ∀ r ∈ rows, 0 ≤ r.lo ∧ r.lo ≤ r.hi ∧ r.hi ≤ B := fun r hr => by
    obtain ⟨r0, m, _, h2, h3⟩ := back r hr
    have := laid_ok p b e 0 ok r0 m
    rw [h2, h3]; exact this
  refine ⟨pp, by rw [List.length_map, List.length_range], ⟨net2, fun x hx => ?_, ?_, fun x hx t ht => ?_⟩, ⟨fun z => ?_, ?_, by rw [len]; omega, pp.nodup_iff.mpr nd, fun x hx => ?_, nx.nodup_iff.mpr pnd, fun r hr => pno _ (nx.mem_iff.mp (List.mem_map_of_mem hr)), fun r hr => ?_, fun r hr => ⟨(okr r hr).1, (okr r hr).2.1⟩⟩⟩
  · obtain ⟨r, hr, rfl⟩ := List.mem_map.mp hx
    exact okr r hr
  · have : ∀ l : List T5, ((l.map rowE).map fun e => e.2.2.size).sum = l.length := fun l => by
      induction l with
      | nil => rfl
      | cons r l ih =>
        rw [List.map_cons, List.map_cons, List.sum_cons, ih, List.length_cons]
        show 1 + _ = _
        omega
    rw [this, len]
  · obtain ⟨r, hr, rfl⟩ := List.mem_map.mp hx
    have : t = (r.x, r.lo, r.hi) := List.mem_singleton.mp ht
    rw [this]
    exact List.mem_map.mpr ⟨r, hr, rfl⟩
  · rw [z] at pp
    have := pp.length_eq
    simp at this
  · rw [pp.length_eq]
    simp only [List.length_cons, List.length_map, List.length_range]
    omega
  · rcases List.mem_cons.mp (pp.mem_iff.mp hx) with rfl | hx
    · exact E.okb
    rcases List.mem_cons.mp hx with rfl | hx
    · exact E.oke
    · obtain ⟨k, hk, rfl⟩ := List.mem_map.mp hx
      exact nmo k (List.mem_range.mp hk)
  · obtain ⟨h1, h2, h3⟩ := net2.ends (eV (rowE r)) (List.mem_map_of_mem (List.mem_map_of_mem hr))
    exact ⟨pp.mem_iff.mpr h2, pp.mem_iff.mpr h3, h1⟩
end Wr
-- WrLaw12
/-! _law_disguised -/
namespace Wr
open PySem L2
theorem few_of_two {b e : Str} : ∀ {l : List Str}, l.Nodup → (∀ x ∈ l, x ∈ [b, e]) → l.length ≤ 2
  | [], _, _ => Nat.zero_le _
  | [_], _, _ => by simp
  | [_, _], _, _ => Nat.le_refl _
  | x :: y :: z :: l, nd, h => by
    have hx := h x (by simp)
    have hy := h y (by simp)
    have hz := h z (by simp)
    simp only [List.nodup_cons, List.mem_cons, not_or] at nd
    obtain ⟨⟨n1, n2, _⟩, ⟨n3, _⟩, _⟩ := nd
    simp only [List.mem_cons, List.not_mem_nil, or_false] at hx hy hz
    exfalso
    rcases hx with rfl | rfl <;> rcases hy with rfl | rfl <;> rcases hz with rfl | rfl <;> first | exact n1 rfl | exact n2 rfl | exact n3 rfl
theorem filter_many {b e : Str} {ws : List Str} (nd : ws.Nodup) : ws.length ≤ (ws.filter fun z => !decide (z ∈ [b, e])).length + 2 := by
  have p := (List.filter_append_perm (fun z => decide (z ∈ [b, e])) ws).length_eq
  rw [List.length_append] at p
  have := few_of_two (nd.filter fun z => decide (z ∈ [b, e])) (fun x hx => of_decide_eq_true (List.mem_filter.mp hx).2)
  omega
theorem take_getD {l : List Str} : ∀ {j : Nat}, j ≤ l.length → (List.range j).map (fun k => l.getD k "") = l.take j
  | 0, _ => by simp
  | j + 1, h => by
    rw [List.range_succ, List.map_append, take_getD (by omega), List.take_add_one, List.getElem?_eq_getElem (by omega)]
    show _ ++ [l.getD j ""] = _
    rw [getD_at (by omega)]
    rfl
def calledK (j : Nat) (nm : Nat → Str) : List (Key × V) := (List.range j).map fun k => (skey (pN k), V.str (nm k))
theorem merge_called {j : Nat} {nm : Nat → Str} (hj : j ≤ 16) : mergeK [] (calledK j nm) = calledK j nm := by
  induction j with
  | zero => rfl
  | succ j ih =>
    have e : calledK (j + 1) nm = calledK j nm ++ [(skey (pN j), V.str (nm j))] := by
      unfold calledK
      rw [List.range_succ, List.map_append]; rfl
    have n : valV (calledK j nm) (skey (pN j)) = none := by
      unfold valV
      rw [Option.map_eq_none_iff, List.find?_eq_none]
      intro x hx hd
      obtain ⟨k, hk, rfl⟩ := List.mem_map.mp hx
      have hk := List.mem_range.mp hk
      have : skey (pN k) = skey (pN j) := of_decide_eq_true hd
      have : pN k = pN j := by injection this
      have := pN_inj (by omega) (by omega) this
      omega
    rw [e]
    show (calledK j nm ++ [_]).foldl _ _ = _
    rw [List.foldl_append]
    show putK (mergeK [] (calledK j nm)) _ _ = _
    rw [ih (by omega), putK_new _ n]
theorem val_called (j : Nat) (nm : Nat → Str) (x : Str) : (valV (calledK j nm) (skey x)).getD (V.str x) = V.str (newN j nm x) := by
  have e : valV (calledK j nm) (skey x) = ((List.range j).find? fun k => decide (pN k = x)).map fun k => V.str (nm k) := by
    unfold valV calledK
    rw [List.find?_map, Option.map_map]
    have : (fun kv : Key × V => decide (kv.1 = skey x)) ∘ (fun k => (skey (pN k), V.str (nm k))) = fun k => decide (pN k = x) := by
      funext k
      show decide (skey (pN k) = skey x) = decide (pN k = x)
      by_cases h : pN k = x
      · rw [h]; simp
      · rw [decide_eq_false h, decide_eq_false (fun z => h (by injection z))]
    rw [this]
    rfl
  rw [e]
  unfold newN
  cases (List.range j).find? fun k => decide (pN k = x) <;> rfl
theorem called_vals (j : Nat) (nm : Nat → Str) : (calledK j nm).map (·.2) = ((List.range j).map nm).map V.str := by
  unfold calledK
  rw [List.map_map, List.map_map]; rfl
/-- one more tie at the end -/
theorem tie_in {fe L y : Addr} {H6 H8 H9 : Hp} {bs : List Addr} {rows rows0 : List T5} {ρ : Str → Str} {r0 : T5} {u v : Str} {i : Nat} {v0 v1 v2 v3 v4 v5 v6 v8 v9 v10 v11 v12 v13 v14 v15 : Option V}
    (s5 : Same H8 H9) (hy : H9 y = none) (hL8 : H8 L = some (.lst (bs.map V.ref))) (hb : bs.length < 1000) (Lf : L ≠ fe) (hf : FeedAt H8 fe) (k8 : K2 fe L H6 H8) (prb : Paired (fun a r => TieAt H8 a r) bs rows)
    (et : rows0.take (i + 1) = rows0.take i ++ [r0]) (prt : Paired (Tame ρ) (rows0.take i) rows) (hT : (u = ρ r0.one ∧ v = ρ r0.other) ∨ (u = ρ r0.other ∧ v = ρ r0.one)) :
    ∃ l xs z, V.ref L = .ref l ∧ [V.ref y] = [z] ∧ (upd H9 y (.tup [.str r0.x, .str u, .str v, .int r0.lo, .int r0.hi])) l = some (.lst xs) ∧ xs.length < sizeLine ∧
      ∃ w8 w9 w10 w11 w12 w13 w14 w15, [v0, v1, v2, v3, v4, v5, v6, some (.ref L), v8, v9, v10, v11, v12, v13, v14, v15] = [v0, v1, v2, v3, v4, v5, v6, some (.ref L), w8, w9, w10, w11, w12, w13, w14, w15] ∧
        K2 fe L H6 (upd (upd H9 y (.tup [.str r0.x, .str u, .str v, .int r0.lo, .int r0.hi])) l (.lst (xs ++ [z]))) ∧ FeedAt (upd (upd H9 y (.tup [.str r0.x, .str u, .str v, .int r0.lo, .int r0.hi])) l (.lst (xs ++ [z]))) fe ∧
        ∃ (bs : List Addr) (rows : List T5), (upd (upd H9 y (.tup [.str r0.x, .str u, .str v, .int r0.lo, .int r0.hi])) l (.lst (xs ++ [z]))) L = some (.lst (bs.map V.ref)) ∧ Paired (fun a r => TieAt (upd (upd H9 y (.tup [.str r0.x, .str u, .str v, .int r0.lo, .int r0.hi])) l (.lst (xs ++ [z]))) a r) bs rows ∧ Paired (Tame ρ) (rows0.take (i + 1)) rows := by
  have s6 := same_new (o := .tup [.str r0.x, .str u, .str v, .int r0.lo, .int r0.hi]) hy
  have hL9 := s6 _ _ (s5 _ _ hL8)
  have yL : y ≠ L := fun z => by rw [z] at hy; rw [s5 _ _ hL8] at hy; cases hy
  refine ⟨L, _, _, rfl, rfl, hL9, by rw [List.length_map, sizeLine_eq]; omega, _, _, _, _, _, _, _, _, rfl, fun x o n1 n2 e => ?_, ((hf.same s5).same s6).upd Lf, bs ++ [y], rows ++ [⟨r0.x, u, v, r0.lo, r0.hi⟩], by rw [upd_same, List.map_append]; rfl, ?_, ?_⟩
  · rw [upd_ne n2]; exact s6 _ _ (s5 _ _ (k8 x o n1 n2 e))
  · refine Paired.append (Paired.mapP prb fun x r z => ?_) (.cons ?_ .nil)
    · have z : H8 x = some (.tup r.vs) := z
      show upd _ L _ x = _
      rw [upd_ne (fun q => by rw [q, hL8] at z; cases z)]
      exact s6 _ _ (s5 _ _ z)
    · show upd _ L _ y = _
      rw [upd_ne yL]
      exact upd_same
  · rw [et]
    exact Paired.append prt (.cons ⟨rfl, rfl, rfl, hT⟩ .nil)
section
variable {P : Program} {w : World} {K : PySem.W.Frag} {mg : Str → Option Value} {base : Heap} {f : Addr} {fd : FuncData}
abbrev nDisg : List Str := ["_law_feed_here", "_law_plan", "_law_ends_here", "_law_begin", "_law_end", "_law_names", "_law_called", "_law_bonds", "_law_title", "_law_head", "_law_tail", "_law_low", "_law_high", "_law_both", "_law_word", "_law_k"]
abbrev pDisg : List Str := ["_law_feed_here", "_law_plan", "_law_ends_here"]
abbrev sDisg : Stmt := top 75
theorem scDisg : FnScope nDisg pDisg (defScope sDisg) := ⟨rfl, rfl, rfl, by decide +kernel, rfl, by decide +kernel, by decide +kernel⟩
def spDisg : Sp := fun vs H Q _ => ∃ (fe a d : Addr) (p : Plan) (B : Int) (b e : Str), vs = [.ref fe, .ref a, .ref d] ∧ FeedAt H fe ∧ LPlanAt H p a ∧ H d = some (.lst [.str b, .str e]) ∧ d ≠ fe ∧ EndsOk b e ∧ p.ok B ∧ p.names.Nodup ∧ (∀ x ∈ p.names, NameOk x) ∧ p.size ≤ 9 ∧
  ∀ q u v M ps rows H', Fed fe H H' → Disg B p b e M ps rows → H' q = some (.tup [.ref u, .ref v]) → TextsAt H' u ps → TiesAt H' v rows → Q (.ref q) H'
theorem ok_disg (hb : ∀ x ∈ blts, mg x = none) (T : TakeD P w K mg base) (M : MixedD P w K mg base) (W : WordsD P w K mg base) (WR : Dv P w K mg base CX0 9 "_law_written" ["_law_plan"] (spWritten 9)) (LD : Dv P w K mg base CX0 10 "_law_laid" pLaid (spLaid 9))
    (F : L2.Fun K "_law_disguised" "_law_disguised" sDisg f fd) : FnOk P w K mg base CX0 11 f fd pDisg spDisg := by
  refine F.ok scDisg (fun vs H Q E h => ?_) (fun cdv A outer s H vs Q E hr h => ?_)
  · obtain ⟨fe, a, d, p, B, b, e, rfl, _⟩ := h
    rfl
  · obtain ⟨fe, a, d, p, B, b, e, rfl, hf, hp, hd, hdf, E', okp, pnd, pno, hz, k⟩ := h
    have nd := scDisg.nd
    have hr1 := hr.mono (show 1 ≤ 10 by decide)
    have hr2 := hr.mono (show 2 ≤ 10 by decide)
    have hr3 := hr.mono (show 3 ≤ 10 by decide)
    have hr9 := hr.mono (show 9 ≤ 10 by decide)
    refine ⟨_, pss_cons (ps_asg (pv 2) (pg_lst rfl (pgs_cons (pg_name (i := 3) nd rfl (Or.inl rfl)) (pgs_cons (pg_name (i := 4) nd rfl (Or.inl rfl)) pgs_nil))))
      (pss_cons (ps_set (i := 5) nd rfl (Or.inr rfl) (pe_lc (own := [("_law_word", 14)]) (g := gName 14) (tt := _) rfl nd (pi_list (pe_dv W hr3 pass0 (pa_cons (pv 0) (pa_cons pe_int pa_nil)))) (blkOk_by (N := nDisg) (sc := defScope sDisg) (by decide +kernel)) (fun _ _ _ _ _ => pg_name (i := 14) nd rfl (Or.inl rfl))
        (fun _ _ _ _ _ => pts_one (pt_cmpR (show OpR _ _ (rIn K true) from op_notIn_seq) (pv 14) (pv 2) rfl)) (fun _ _ _ _ _ => pv 14)))
      (pss_cons (ps_set (i := 6) nd rfl (Or.inl rfl) (pe_callTy (call_dictP rfl) rfl (hb _ (by decide)) (by first | rfl | kernel_rfl) (pa_cons
        (pe_lc (own := [("_law_k", 15)]) (g := gName 15) (tt := tYes) rfl nd (pi_range1 rfl (hb _ (by decide)) (pa_cons (pe_m1 PySem.F.slot_str_count PySem.F.type_str_count mt_count (pe_dv WR hr9 pass0 (pa_cons (pv 1) pa_nil)) pe_str) pa_nil)) (blkOk_by (N := nDisg) (sc := defScope sDisg) (by decide +kernel)) (fun _ _ _ _ _ => pg_name (i := 15) nd rfl (Or.inl rfl)) (fun _ _ _ _ _ => pts_nil)
          (fun _ _ _ _ _ => pe_tup (pa_cons (pe_op op_add_str pe_str (pe_callTy call_str_int rfl (hb _ (by decide)) (by first | rfl | kernel_rfl) (pa_cons (pv 15) pa_nil))) (pa_cons (pe_ix (show IxR _ (rIxL K) from ix_list) (pv 5) (pv 15) (fun _ _ => rfl)) pa_nil)))) pa_nil)))
      (pss_cons (ps_set (i := 7) nd rfl (Or.inl rfl) (pe_lst pa_nil))
      (pss_cons (ps_for PassesOwn.never rfl (pi_list (pe_dv M hr2 pass0 (pa_cons (pv 0) (pa_cons (pe_dv LD hr pass0 (pa_cons (pv 1) (pa_cons (pv 3) (pa_cons (pv 4) (pa_cons pe_int pa_nil))))) pa_nil))))
          (pg_tup rfl (pgs_cons (pg_name (i := 8) nd rfl (Or.inl rfl)) (pgs_cons (pg_name (i := 9) nd rfl (Or.inl rfl)) (pgs_cons (pg_name (i := 10) nd rfl (Or.inl rfl)) (pgs_cons (pg_name (i := 11) nd rfl (Or.inl rfl)) (pgs_cons (pg_name (i := 12) nd rfl (Or.inl rfl)) pgs_nil))))))
        (pss_cons (ps_set (i := 13) nd rfl (Or.inl rfl) (pe_step (pe_lst (pa_cons (pe_dget2 (hu_of hr) (pv 6) (pv 9) (pv 9) ⟨rfl, rfl, rfl, rfl⟩) (pa_cons (pe_dget2 (hu_of hr) (pv 6) (pv 10) (pv 10) ⟨rfl, rfl, rfl, rfl⟩) pa_nil)))
            (pe_ix ix_list (pe_lst (pa_cons pe_int (pa_cons (pe_op op_sub pe_int pe_int) pa_nil))) (pe_dv T hr1 pass0 (pa_cons (pv 0) (pa_cons pe_int pa_nil))) (fun _ _ => rfl))))
        (pss_one (ps_expr (pe_bm PySem.F.plainAttrs_list PySem.F.slot_list_append PySem.F.type_list_append mt_append (pv 7) (pa_cons (pe_tup (pa_cons (pv 8) (pa_cons (pe_ix ix_list (pv 13) pe_int (fun _ _ => rfl)) (pa_cons (pe_ix ix_list (pv 13) pe_int (fun _ _ => rfl)) (pa_cons (pv 11) (pa_cons (pv 12) pa_nil)))))) pa_nil))))))
      (pss_one (ps_ret (pe_tup (pa_cons (pe_callTy call_tuple_of rfl (hb _ (by decide)) (by first | rfl | kernel_rfl) (pa_cons (pe_dv M hr2 pass0 (pa_cons (pv 0) (pa_cons (pe_op op_cat (pe_lst (pa_cons (pv 3) (pa_cons (pv 4) pa_nil))) (pe_listVals rfl (pv 6) rfl (hb _ (by decide)) (by first | rfl | kernel_rfl))) pa_nil))) pa_nil))
        (pa_cons (pe_callTy call_tuple_of rfl (hb _ (by decide)) (by first | rfl | kernel_rfl) (pa_cons (pv 7) pa_nil)) pa_nil))))))))), ?_⟩
    refine ⟨_, rfl, d, _, rfl, SqL.of hd, rfl, _, _, rfl, _, _, rfl, rfl, ?_⟩
    refine ⟨_, rfl, fe, 20, rfl, hf, .inr rfl, fun q ws H1 ok g1 nq hq => ⟨q, rfl, ⟨_, SqL.of hq⟩, fun D1 hD1 => ?_⟩⟩
    have hd1 := g1.kp _ _ hdf hd
    refine lc_filt ws V.str (fun z => !decide (z ∈ [b, e])) walk_list (by rw [ok.len]; decide) hD1 (fun H' g => SqL.of (g _ _ hq)) (fun i z H' QT QF hz' g qT qF => ?_) fun H2 g2 h2 => ?_
    · refine ⟨rfl, _, rfl, _, rfl, d, _, rfl, .inl (SqL.of (g _ _ hd1)), rfl, rfl, _, rfl, ?_⟩
      have ei : inV (.str z) [.str b, .str e] = decide (z ∈ [b, e]) := inV_str z [b, e]
      rw [if_pos rfl, ei]
      cases e : !decide (z ∈ [b, e]) with
      | true => exact iteT ⟨_, rfl, qT e _ (Same.refl _)⟩
      | false => exact iteF (qF e _ (Same.refl _))
    have g12 := g1.step g2
    have hj := p.joints_lt
    obtain ⟨ns, hns⟩ : ∃ ns, ns = ws.filter fun z => !decide (z ∈ [b, e]) := ⟨_, rfl⟩
    rw [← hns] at h2
    have ln : 18 ≤ ns.length := by
      have := filter_many (b := b) (e := e) ok.nd
      rw [ok.len, ← hns] at this; omega
    obtain ⟨nm, hnm⟩ : ∃ nm : Nat → Str, nm = fun k => ns.getD k "" := ⟨_, rfl⟩
    have hp2 := hp.stay (Stay.fed hf g12.kp)
    refine ⟨_, rfl, a, p, rfl, hp2, pno, hz, by omega, fun H3 g3 => ⟨⟨_, rfl⟩, _, _, rfl, rfl, ?_⟩⟩
    rw [count_text pno]
    refine ⟨_, rfl, by omega, by omega, fun D2 hD2 => ?_⟩
    have h3 := g3 _ _ h2
    refine lc_range (lo := 0) (n := _) (fun i H' => Same H3 H' ∧ ∃ ps : List Addr, H' D2 = some (.lst (ps.map V.ref)) ∧ Paired (fun (t : Addr) (kv : Key × V) => H' t = some (.tup [kV kv.1, kv.2])) ps (calledK i nm)) ⟨same_new hD2, [], upd_same, .nil⟩ (fun i H' hi ⟨g, ps, hps, prs⟩ => ?_) fun H4 ⟨g4, ps, hps, prs⟩ => ?_
    · refine ⟨rfl, ?_⟩
      rw [tYes_if]
      have hi : i < p.joints := by
        have : i < (((p.joints : Nat) : Int) - 0).toNat := hi
        omega
      have e0 : (0 + (i : Int)) = ((i : Nat) : Int) := Int.zero_add _
      refine ⟨_, rfl, _, rfl, log_of (by omega) (by omega), _, _, rfl, rfl, ?_, ?_⟩
      · have := int_len (i := 0 + (i : Int)) (by omega) (by omega)
        rw [sizeLine_eq]
        show 1 + _ ≤ _
        omega
      rw [e0]
      refine ⟨_, rfl, _, rfl, D1, _, _, .str (nm i), rfl, rfl, SqL.of (g _ _ h3), ?_, two_le, fun y hy => ?_⟩
      · refine atI_nat ?_
        rw [List.getElem?_map, List.getElem?_eq_getElem (by omega), hnm]
        show some _ = some (V.str (ns.getD i ""))
        rw [getD_at (by omega)]
      have s1 := same_new (o := .tup [.str (pN i), .str (nm i)]) hy
      have lp : ps.length = i := by
        have := Paired.length prs
        unfold calledK at this
        rw [List.length_map, List.length_range] at this
        exact this
      have yD : D2 ≠ y := ne_of_none hps hy
      refine ⟨_, s1 _ _ hps, ?_, same_put (g.trans s1) hD2, ps ++ [y], ?_, ?_⟩
      · rw [List.length_map, lp, sizeLine_eq]; omega
      · rw [upd_same, List.map_append]; rfl
      · have ec : calledK (i + 1) nm = calledK i nm ++ [(skey (pN i), V.str (nm i))] := by
          unfold calledK
          rw [List.range_succ, List.map_append]; rfl
        rw [ec]
        have kp : ∀ t xs, H' t = some (.tup xs) → (upd (upd H' y (.tup [.str (pN i), .str (nm i)])) D2 (.lst (ps.map V.ref ++ [.ref y]))) t = some (.tup xs) := fun t xs e => by
          rw [upd_ne (fun z => by rw [z, hps] at e; cases e)]
          exact s1 _ _ e
        refine Paired.append (Paired.mapP prs fun t kv e => kp t _ e) (.cons ?_ .nil)
        show upd _ D2 _ y = _
        rw [upd_ne (Ne.symm yD)]
        exact upd_same
    have ej : ((p.joints : Nat) : Int).toNat = p.joints := by omega
    rw [ej] at prs
    refine ⟨D2, ps, calledK p.joints nm, rfl, SqL.of hps, Paired.mapP prs fun t kv e => SqT.of e, fun C hC => ?_⟩
    rw [merge_called (by omega)]
    have s4 := same_new (o := .dK (calledK p.joints nm)) hC
    refine ⟨by decide, fun L hL => ?_⟩
    have s5 := same_new (o := .lst ([] : List V)) hL
    have gA : Fed fe H (upd (upd H4 C (.dK (calledK p.joints nm))) L (.lst [])) := g12.step (g3.trans (g4.trans (s4.trans s5)))
    have hpA := hp.stay (Stay.fed hf gA.kp)
    refine ⟨_, rfl, _, rfl, _, rfl, _, rfl, a, p, b, e, 0, rfl, hpA, pno, hz, by omega, by omega, by omega, fun q1 H5 g5 ⟨as, hq1, pas⟩ => ?_⟩
    have la : as.length = p.size := by have := Paired.length pas; rw [laid_len] at this; exact this
    refine ⟨fe, q1, _, rfl, gA.at_.same g5, hq1, by rw [List.length_map]; omega, fun q2 ys H6 pm g6 hq2 hq3 => ?_⟩
    obtain ⟨as', rfl, pas'⟩ := perm_map_inv pm
    have hC5 : H5 C = some (.dK (calledK p.joints nm)) := g5 _ _ (s5 _ _ upd_same)
    have hL5 : H5 L = some (.lst []) := g5 _ _ upd_same
    have Lf : L ≠ fe := fun z => by
      have hx : FeedAt (upd H4 C (.dK (calledK p.joints nm))) fe := (g12.step (g3.trans (g4.trans s4))).at_
      obtain ⟨_, _, _, e⟩ := hx
      rw [← z, hL] at e; cases e
    have Cf : C ≠ fe := (gA.at_.same g5).ne hC5 (fun _ z => nomatch z)
    have q2f : q2 ≠ fe := fun z => by
      obtain ⟨_, _, _, e⟩ := (gA.at_.same g5)
      rw [← z, hq2] at e; cases e
    have q2L : q2 ≠ L := fun z => by rw [z, hL5] at hq2; cases hq2
    have hC6 := g6.kp _ _ Cf hC5
    have hL6 := g6.kp _ _ Lf hL5
    obtain ⟨rows0, pr0, prs0⟩ := paired_perm pas pas'.symm
    have ties6 : Paired (fun a r => TieAt H6 a r) as' rows0 := Paired.mapP prs0 fun t r z => g6.kp _ _ ((gA.at_.same g5).ne z (fun _ z => nomatch z)) z
    have gB : Fed fe H H6 := (gA.step g5).trans g6
    refine ⟨q2, rfl, ⟨_, SqL.of hq3⟩, ?_⟩
    refine for_list (xs := as'.map V.ref) (fun i σ H' => ∃ v8 v9 v10 v11 v12 v13 v14 v15, σ = [some (.ref fe), some (.ref a), some (.ref d), some (.str b), some (.str e), some (.ref D1), some (.ref C), some (.ref L), v8, v9, v10, v11, v12, v13, v14, v15] ∧ K2 fe L H6 H' ∧ FeedAt H' fe ∧
        ∃ (bs : List Addr) (rows : List T5), H' L = some (.lst (bs.map V.ref)) ∧ Paired (fun a r => TieAt H' a r) bs rows ∧ Paired (Tame (newN p.joints nm)) (rows0.take i) rows)
      ⟨_, _, _, _, _, _, _, _, rfl, fun _ _ _ _ h => h, g6.at_, [], [], hL6, .nil, .nil⟩ (fun i σ H' _ ⟨_, _, _, _, _, _, _, _, _, kp, _⟩ => SqL.of (kp _ _ q2f q2L hq3)) (fun i x σ H' hx ⟨v8, v9, v10, v11, v12, v13, v14, v15, es, kp, hf', bs, rows, hLb, prb, prt⟩ => ?_) fun σ H' ⟨v8, v9, v10, v11, v12, v13, v14, v15, es, kp, hf', bs, rows, hLb, prb, prt⟩ => ?_
    · subst es
      obtain ⟨t, ht, rfl⟩ := map_get hx
      obtain ⟨r0, hr1, hr2⟩ := paired_get ties6 ht
      have hr2 : H6 t = some (.tup r0.vs) := hr2
      have htie : H' t = some (.tup r0.vs) := kp _ _ (g6.at_.ne hr2 (fun _ z => nomatch z)) (fun z => by rw [z, hL6] at hr2; cases hr2) hr2
      have hC' : H' C = some (.dK (calledK p.joints nm)) := kp _ _ Cf (fun z => by rw [z, hL6] at hC6; cases hC6) hC6
      have hi : i < rows0.length := (List.getElem?_eq_some_iff.mp hr1).1
      have lr : rows.length = i := by
        have := Paired.length prt
        rw [List.length_take] at this
        omega
      have lb : bs.length = i := (Paired.length prb).trans lr
      have hi9 : i < 10 := by
        have := pr0.length_eq
        rw [laid_len] at this
        omega
      refine ⟨t, _, rfl, SqT.of htie, rfl, _, _, rfl, _, _, rfl, _, _, rfl, _, _, rfl, _, _, rfl, rfl, ?_⟩
      refine ⟨_, rfl, C, rfl, .inl ⟨_, .inl hC'⟩, _, rfl, _, rfl, _, DGet.k (k := skey r0.one) hC', _, rfl, C, rfl, .inl ⟨_, .inl hC'⟩, _, rfl, _, rfl, _, DGet.k (k := skey r0.other) hC', two_le, fun l1 hl1 => ?_⟩
      have ea : ∀ z : Str, ∀ o, o = valV (calledK p.joints nm) (skey z) → o.getD (V.str z) = V.str (newN p.joints nm z) := fun z o e => e ▸ val_called _ _ _
      rw [ea r0.one _ rfl, ea r0.other _ rfl]
      have s1 := same_new (o := .lst [.str (newN p.joints nm r0.one), .str (newN p.joints nm r0.other)]) hl1
      refine ⟨_, _, rfl, rfl, two_le, fun l2 hl2 => ?_⟩
      have s2 := same_new (o := .lst [.int 1, .int (0 - 1)]) hl2
      refine ⟨_, rfl, fe, 2, rfl, hf'.same (s1.trans s2), by decide, by decide, fun dr H8 d0 d1 g8 => ?_⟩
      have l1f : l1 ≠ fe := fun z => by obtain ⟨_, _, _, e⟩ := hf'; rw [← z, hl1] at e; cases e
      have l2f : l2 ≠ fe := fun z => by obtain ⟨_, _, _, e⟩ := hf'.same s1; rw [← z, hl2] at e; cases e
      have h1 := g8.kp _ _ l1f (s2 _ _ upd_same)
      have h2' := g8.kp _ _ l2f upd_same
      have k8 : K2 fe L H6 H8 := kp.trans (fun x o n1 n2 e => g8.kp _ _ n1 (s2 _ _ (s1 _ _ e)))
      have hL8 : H8 L = some (.lst (bs.map V.ref)) := g8.kp _ _ Lf (s2 _ _ (s1 _ _ hLb))
      have prb8 : Paired (fun a r => TieAt H8 a r) bs rows := Paired.mapP prb fun t r z => g8.kp _ _ (hf'.ne (show H' t = some (.tup r.vs) from z) (fun _ z => nomatch z)) (s2 _ _ (s1 _ _ z))
      have hdr : dr = 0 ∨ dr = 1 := by omega
      have et : rows0.take (i + 1) = rows0.take i ++ [r0] := by rw [List.take_add_one, hr1]; rfl
      rcases hdr with rfl | rfl
      · refine ⟨l2, _, _, .int 1, rfl, rfl, SqL.of h2', rfl, l1, _, _, rfl, SqL.of h1, .inl ⟨rfl, fun p5 hp5 => ?_⟩⟩
        generalize hu : newN p.joints nm r0.one = u
        generalize hv : newN p.joints nm r0.other = v
        have hT : (u = newN p.joints nm r0.one ∧ v = newN p.joints nm r0.other) ∨ (u = newN p.joints nm r0.other ∧ v = newN p.joints nm r0.one) := .inl ⟨hu.symm, hv.symm⟩
        have s5 := same_new (o := .lst [.str u, .str v]) hp5
        refine ⟨_, rfl, .inl ⟨rfl, _, SqL.of (s5 _ _ hL8)⟩, _, rfl, _, rfl, p5, _, _, _, rfl, rfl, SqL.of upd_same, rfl, _, rfl, p5, _, _, _, rfl, rfl, SqL.of upd_same, rfl, _, rfl, _, rfl, five_le, fun y hy => ?_⟩
        exact tie_in (bs := bs) s5 hy hL8 (by omega) Lf g8.at_ k8 prb8 et prt hT
      · refine ⟨l2, _, _, .int (-1), rfl, rfl, SqL.of h2', rfl, l1, _, _, rfl, SqL.of h1, .inr ⟨rfl, fun p5 hp5 => ?_⟩⟩
        generalize hu : newN p.joints nm r0.other = u
        generalize hv : newN p.joints nm r0.one = v
        have hT : (u = newN p.joints nm r0.one ∧ v = newN p.joints nm r0.other) ∨ (u = newN p.joints nm r0.other ∧ v = newN p.joints nm r0.one) := .inr ⟨hu.symm, hv.symm⟩
        have s5 := same_new (o := .lst [.str u, .str v]) hp5
        refine ⟨_, rfl, .inl ⟨rfl, _, SqL.of (s5 _ _ hL8)⟩, _, rfl, _, rfl, p5, _, _, _, rfl, rfl, SqL.of upd_same, rfl, _, rfl, p5, _, _, _, rfl, rfl, SqL.of upd_same, rfl, _, rfl, _, rfl, five_le, fun y hy => ?_⟩
        exact tie_in (bs := bs) s5 hy hL8 (by omega) Lf g8.at_ k8 prb8 et prt hT
    · subst es
      have lr0 : as'.length = rows0.length := Paired.length ties6
      rw [List.length_map, lr0, List.take_length] at prt
      have hC' : H' C = some (.dK (calledK p.joints nm)) := kp _ _ Cf (fun z => by rw [z, hL6] at hC6; cases hC6) hC6
      refine ⟨_, rfl, _, rfl, _, rfl, two_le, fun l hl => ?_⟩
      have s1 := same_new (o := .lst [.str b, .str e]) hl
      refine ⟨_, rfl, C, _, rfl, s1 _ _ hC', fun lv hlv => ?_⟩
      rw [called_vals]
      have s2 := same_new (o := .lst (((List.range p.joints).map nm).map V.str)) hlv
      have lj : ((List.range p.joints).map nm).length = p.joints := by rw [List.length_map, List.length_range]
      refine ⟨l, lv, _, _, rfl, rfl, s2 _ _ upd_same, upd_same, ?_, fun lc hlc => ?_⟩
      · rw [List.length_map, lj, sizeLine_eq]; show 2 + _ ≤ _; omega
      have s3 := same_new (o := .lst ([V.str b, .str e] ++ ((List.range p.joints).map nm).map V.str)) hlc
      have s13 := s1.trans (s2.trans s3)
      refine ⟨fe, lc, _, rfl, hf'.same s13, upd_same, ?_, fun q9 ys H9 pm9 g9 hq9 hq92 => ?_⟩
      · rw [List.length_append, List.length_map, lj]; show 2 + _ ≤ _; omega
      obtain ⟨ps', rfl, pps⟩ := perm_map_inv (f := V.str) (l := b :: e :: (List.range p.joints).map nm) pm9
      refine ⟨q9, _, rfl, .inl ⟨SqL.of hq92, fun u hu => ?_⟩⟩
      have s7 := same_new (o := .tup (ps'.map V.str)) hu
      have hL9 : H9 L = some (.lst (bs.map V.ref)) := g9.kp _ _ Lf (s13 _ _ hLb)
      refine ⟨_, rfl, L, _, rfl, .inl ⟨SqL.of (s7 _ _ hL9), fun v hv => ⟨two_le, fun t ht => ?_⟩⟩⟩
      have s8 := same_new (o := .tup (bs.map V.ref)) hv
      have s9 := same_new (o := .tup [.ref u, .ref v]) ht
      have hL0 : H L = none := (g12.step (g3.trans (g4.trans s4))).free hL
      have gF : Fed fe H (upd (upd (upd H9 u (.tup (ps'.map V.str))) v (.tup (bs.map V.ref))) t (.tup [.ref u, .ref v])) := ⟨((g9.at_.same s7).same s8).same s9, fun x o nx ex => s9 _ _ (s8 _ _ (s7 _ _ (g9.kp _ _ nx (s13 _ _ (kp _ _ nx (ne_of_none ex hL0) (gB.kp _ _ nx ex))))))⟩
      have eM : (List.range p.joints).map nm = ns.take p.joints := by rw [hnm]; exact take_getD (by omega)
      have nsd : ns.Nodup := by rw [hns]; exact ok.nd.filter _
      have nmem : ∀ x ∈ ns, x ∈ ws ∧ x ≠ b ∧ x ≠ e := fun x hx => by
        rw [hns] at hx
        have := List.mem_filter.mp hx
        refine ⟨this.1, fun z => ?_, fun z => ?_⟩
        · rw [z] at this; simp at this
        · rw [z] at this; simp at this
      have ndM : (b :: e :: (List.range p.joints).map nm).Nodup := by
        rw [eM, List.nodup_cons, List.nodup_cons]
        refine ⟨fun hm => ?_, fun hm => (nmem e (List.mem_of_mem_take hm)).2.2 rfl, nsd.sublist (List.take_sublist _ _)⟩
        rcases List.mem_cons.mp hm with h | h
        · exact E'.ne h
        · exact (nmem b (List.mem_of_mem_take h)).2.1 rfl
      have D := disg_of (B := B) (nm := nm) okp E' (by omega) (fun x hx => by
        have : nm x ∈ ns := by
          rw [hnm]
          show ns.getD x "" ∈ ns
          rw [getD_at (by omega)]
          exact List.getElem_mem _
        exact ok.ok _ (nmem _ this).1) pnd pno ndM pps pr0.symm prt (by omega)
      refine k t u v _ ps' rows _ gF D upd_same (s9 _ _ (s8 _ _ upd_same)) ⟨bs, s9 _ _ upd_same, Paired.mapP prb fun x r z => ?_⟩
      have z : H' x = some (.tup r.vs) := z
      have xf : x ≠ fe := hf'.ne z (fun _ z => nomatch z)
      exact s9 _ _ (s8 _ _ (s7 _ _ (g9.kp _ _ xf (s13 _ _ z))))
end
end Wr
-- WrLaw13
/-! _law_told -/
namespace Wr
open PySem L2
theorem isPc_op (c : Cs) (q : Bool) : isPc c (c.op q) := by
  cases q
  · exact .inr (.inl rfl)
  · exact .inr (.inr rfl)
section
variable {X : Cx} {x g : Str} {e : Expr} {ta : TE} {pos : Pos} {PC : Addr → Prop}
/-- a property of a family of classes -/
theorem pe_pvF (D : ∀ C, PC C → Pv X.prog X.w X.K X.mg X.base C x g) (he : PE X e ta) (c : ∀ C, PC C → Cls X.K C) (hr : Room 2 X.A) (hab : attributeBase e x X.env (eval e X.env) = eval e X.env := by rfl) :
    PE X (.Attribute e x pos) (fun σ H Q => ta σ H fun y H1 => ∃ a C dx fs v, y = .ref a ∧ PC C ∧ H1 a = some (.ins C dx fs) ∧ fs.lookup g = some v ∧ Q v H1) := by
  refine ⟨fun pins s σ H Q I h => ?_⟩
  refine attr_of hab (thn (he.run pins s σ H _ I h) fun u s1 ⟨y, H1, I1, rx, a, C, dx, fs, v, ex, pC, ea, l, q⟩ => ?_)
  subst ex
  obtain rfl : u = Value.ref a := rx
  obtain ⟨p, f, fd, hp, F, hb⟩ := (D C pC).ex
  exact getprop_ok (CX := CX0) (E := E0) (dvs := []) (ds := []) I1 ea (c C pC) hp F hr hb .nil pass0 ⟨a, dx, fs, v, rfl, ea, l, q⟩
end
section
variable {X : Cx} {CX : CXT} {k : Nat} {x : Str} {ps : List Str} {sp : Sp} {E : L2.St → XK} {e : Expr} {es : List Expr} {t : TA} {p pos : Pos}
/-- x(e, ..), in a try -/
theorem pe_dvS (D : Dv X.prog X.w X.K X.mg X.base CX k x ps sp) (hr : Room k X.A) (hx : ∀ σ, PassesAt CX X σ (E σ)) (ha : PA X (e :: es) t) (hg : Gl X x := by rfl) (hdb : (x == ("__debug__" : Str)) = false := by decide)
    (he : starEach (e :: es) X.env = (false, eval e X.env) :: starEach es X.env := by rfl) (hpl : (backTo pos (starEach es X.env)).any (·.1) = false := by rfl) : PE X (.Call (.Name x p) (e :: es) [] pos) (tCallS sp E t) := by
  obtain ⟨f, fd, F, hm, hk, hb⟩ := D.ex
  exact pe_callS F hr hg hm hk hb hx ha hdb he hpl
end
/-- str(span) -/
structure StrD (P : Program) (w : World) (K : PySem.W.Frag) (mg : Str → Option Value) (base : Heap) (c : Cs) : Prop where
  ex : ∃ g fd, PySem.W.findIn K (.ref c.span) "__str__" = some (some (.ref g)) ∧ PySem.W.isFn K (.ref g) = true ∧ FnOk P w K mg base CX0 1 g fd ["self"] (spSpanStr c) ∧ Binds K fd ["self"] []
theorem call_strSpan {X : Cx} {c : Cs} (D : StrD X.prog X.w X.K X.mg X.base c) (hr : Room 3 X.A) : CallR X (.type "str") (rStrOwn c.span (spSpanStr c) E0) := by
  obtain ⟨g, fd, h1, h2, F, hb⟩ := D.ex
  exact call_strOwn h1 h2 F hb hr
theorem spanText_len {s : S2} (h : okS s) (h2 : s.2 ≤ 1000000) : (spanText s).length ≤ 300 := by
  have l1 := int_len (i := s.1) h.1 (by have := h.2; omega)
  have l2 := int_len (i := s.2) (by have := h.1; have := h.2; omega) h2
  unfold spanText
  split
  · show (Str.ofString (toString s.1)).length ≤ 300; omega
  · rw [strLen_append, strLen_append, strLen_append]
    show 0 + (Str.ofString (toString s.1)).length + 2 + (Str.ofString (toString s.2)).length ≤ 300
    omega
/-- what is told of a plan -/
def toldP (p : Plan) (counted : Bool) (z : Str) : Prop := match p.span with
  | none => z = "snapped"
  | some s => if counted = true then ∃ T, Tally T p.choices ∧ z = Str.append (Str.append (spanText s) " ") (tabText (rowSort T)) else z = spanText s
theorem told_same {p p' : Plan} {n : Bool} {z z' : Str} (h : Same2 p p') (t : toldP p n z) (t' : toldP p' n z') : z = z' := by
  unfold toldP at t t'
  rw [h.1] at t
  cases e : p'.span with
  | none =>
    rw [e] at t t'
    exact t.trans t'.symm
  | some s =>
    rw [e] at t t'
    cases n with
    | true =>
      simp only [if_true] at t t'
      obtain ⟨T, h1, rfl⟩ := t
      obtain ⟨T', h2, rfl⟩ := t'
      rw [h1.sort h2 h.2]
    | false =>
      simp only [Bool.false_eq_true, if_false] at t t'
      exact t.trans t'.symm
theorem told_some {p : Plan} {n : Bool} {z : Str} (t : toldP p n z) (h : z ≠ "snapped") : ∃ s, p.span = some s := by
  cases e : p.span with
  | some s => exact ⟨s, rfl⟩
  | none =>
    unfold toldP at t
    rw [e] at t
    exact absurd t h
theorem joinP_op (q late : Bool) (p1 p2 p3 : Plan) : ∃ l r, joinP q late p1 p2 p3 = .op q l r := by
  cases late
  · exact ⟨_, _, rfl⟩
  · exact ⟨_, _, rfl⟩
section
variable {P : Program} {w : World} {K : PySem.W.Frag} {mg : Str → Option Value} {base : Heap} {f : Addr} {fd : FuncData} {c : Cs}
abbrev CntD (P : Program) (w : World) (K : PySem.W.Frag) (mg : Str → Option Value) (base : Heap) (c : Cs) : Prop := FamM P w K mg base CX0 33 "counts" (isPc c) (spCounts c)
abbrev JoinD (P : Program) (w : World) (K : PySem.W.Frag) (mg : Str → Option Value) (base : Heap) (c : Cs) : Prop := Dv P w K mg base (L2.CX P w) 9 "_law_joined" ["_law_some", "_law_sign", "_law_late"] (spJoined c)
abbrev nTold : List Str := ["_law_some", "_law_sign", "_law_late", "_law_counted", "_law_found", "_law_thing"]
abbrev pTold : List Str := ["_law_some", "_law_sign", "_law_late", "_law_counted"]
abbrev sTold : Stmt := top 77
theorem scTold : FnScope nTold pTold (defScope sTold) := ⟨rfl, rfl, rfl, by decide +kernel, rfl, by decide +kernel, by decide +kernel⟩
def spTold (c : Cs) : Sp := fun vs H Q _ => ∃ (a q1 q2 q3 : Addr) (p1 p2 p3 : Plan) (q late n : Bool), vs = [.ref a, .str (signOf q), .bl late, .bl n] ∧ H a = some (.lst [.ref q1, .ref q2, .ref q3]) ∧ PieceAt c H p1 q1 ∧ PieceAt c H p2 q2 ∧ PieceAt c H p3 q3 ∧ p1.ok 1000 ∧ p2.ok 1000 ∧ p3.ok 1000 ∧
  p1.size + p2.size + p3.size ≤ 9 ∧ (n = true → p1.ok 2 ∧ p2.ok 2 ∧ p3.ok 2 ∧ p1.size + p2.size + p3.size ≤ 6) ∧ ∀ z H', Same H H' → toldP (joinP q late p1 p2 p3) n z → Q (.str z) H'
theorem okG_told (hb : ∀ x ∈ blts, mg x = none) (S : SnapC P K mg c) (pc : PcCs K c) (JD : JoinD P w K mg base c) (SD : StrD P w K mg base c) (PV : ∀ C, isPc c C → Pv P w K mg base C "span" "bounds") (CD : CntD P w K mg base c) (F : L2.Fun K "_law_told" "_law_told" sTold f fd) : FnG P w K mg base 34 f fd pTold (spTold c) := by
  refine fnG_of (k := 33) F scTold (fun vs H Q E h => ?_) (fun cdv A outer s H vs Q E hr hg h => ?_)
  · obtain ⟨a, q1, q2, q3, p1, p2, p3, q, late, n, rfl, _⟩ := h
    rfl
  · obtain ⟨a, q1, q2, q3, p1, p2, p3, q, late, n, rfl, ha, h1, h2, h3, o1, o2, o3, hz, hn, k⟩ := h
    have nd := scTold.nd
    obtain ⟨_, _, _, ET⟩ := S.txt
    refine ⟨_, pss_cons (ps_set (i := 4) nd rfl (Or.inl rfl) pe_str)
      (pss_cons (ps_try_only rfl rfl ⟨rfl, by decide, .inl S.gl⟩ takes0
        (fun W pn xe tk _ => pss_cons (ps_set (i := 5) nd rfl (Or.inl rfl) (pe_dvS JD (hr.mono (by decide)) (fun σ => passAt tk σ) (pa_cons (pv 0) (pa_cons (pv 1) (pa_cons (pv 2) pa_nil)))))
          (pss_cons (ps_set (i := 4) nd rfl (Or.inl rfl) (pe_callTy (call_strSpan SD (hr.mono (by decide))) rfl (hb _ (by decide)) (by first | rfl | kernel_rfl) (pa_cons (pe_pvF PV (pv 5) (fun C h => (pc.is h).cls) (hr.mono (by decide))) pa_nil)))
          (pss_one (ps_if (pt_val (pv 3)) (pss_one (ps_set (i := 4) nd rfl (Or.inl rfl) (pe_op op_add_str (pe_op op_add_str (pv 4) pe_str)
            (pe_callTy (call_strRows hg hr.units) rfl (hb _ (by decide)) (by first | rfl | kernel_rfl) (pa_cons (pe_fam0 CD (fun C h => (pc.is h).cls) (pv 5) hr pass0) pa_nil))))) pss_nil))))
        (fun a oe cls d pn _ _ => pss_one (ps_set (i := 4) nd rfl (Or.inl rfl) pe_str)))
      (pss_one (ps_ret (pv 4)))), ?_⟩
    refine ⟨_, rfl, _, rfl, _, rfl, a, q1, q2, q3, p1, p2, p3, q, late, 1000, rfl, ha, h1, h2, h3, o1, o2, o3, by omega, fun t H1 g1 ht => ?_, fun hno d H1 g1 => ⟨true, ET.te, fun _ a' ha' => ?_, fun z => nomatch z⟩⟩
    · obtain ⟨l, r, ej⟩ := joinP_op q late p1 p2 p3
      have okj := joinP_ok (s := q) (late := late) o1 o2 o3
      have szj := joinP_size (s := q) (late := late) (a := p1) (b := p2) (c := p3)
      have okj2 : n = true → (joinP q late p1 p2 p3).ok 2 ∧ (joinP q late p1 p2 p3).size ≤ 6 := fun z => by
        obtain ⟨a1, a2, a3, a4⟩ := hn z
        exact ⟨joinP_ok a1 a2 a3, by omega⟩
      generalize joinP q late p1 p2 p3 = pj at ht okj szj okj2 k ej
      subst ej
      obtain ⟨dx, b, tt, j, u, v, s, e1, ⟨db, e2⟩, es, hrest⟩ := id ht
      have oks := Plan.span_ok okj s es
      have le := span_le (B := 1000) (by decide) okj s es
      have le2 : s.2 ≤ 1000000 := by omega
      refine ⟨_, rfl, t, c.op q, dx, _, .ref b, rfl, isPc_op c q, e1, rfl, b, db, _, rfl, e2, b, s, rfl, ⟨db, e2⟩, oks, le2, _, rfl, ?_⟩
      have lt := spanText_len oks le2
      refine ⟨_, rfl, n, rfl, ?_⟩
      cases n with
      | false =>
        refine iteF ⟨_, rfl, k _ H1 g1 ?_⟩
        unfold toldP
        rw [es]
        rfl
      | true =>
        obtain ⟨ok2, sz6⟩ := okj2 rfl
        refine iteT ⟨_, rfl, _, _, rfl, rfl, ?_, _, rfl, t, c.op q, dx, _, rfl, e1, isPc_op c q, rfl, t, dx, _, _, rfl, isPc_op c q, e1, ht, ok2, sz6, fun qq H2 g2 ⟨as, T, hq, rows, tal, len, small⟩ => ?_⟩
        · rw [sizeLine_eq]; show _ + 1 ≤ _; omega
        have lT := tab_len small len
        refine ⟨qq, as, _, rfl, hq, rows, len, small, _, _, rfl, rfl, ?_, _, rfl, k _ H2 (g1.trans g2) ?_⟩
        · rw [sizeLine_eq, strLen_append]; show _ + 1 + _ ≤ _; omega
        · unfold toldP
          rw [es]
          exact ⟨T, tal, rfl⟩
    · refine ⟨_, rfl, k _ H1 g1 ?_⟩
      unfold toldP
      rw [hno]
end
end Wr
-- WrLawP
/-! for the law: a web's data, joined spans -/
namespace Wr
open PySem L2
theorem name_ok_str {x : Str} (h : NameOk x) : PyData.strOk x = true := by
  unfold PyData.strOk
  rw [Array.all_eq_true]
  intro i hi
  have e : x.cps[i]? = some x.cps[i] := Array.getElem?_eq_getElem hi
  have l1 : ∀ c ∈ letters.cps.toList, c < 0x110000 := by decide +kernel
  have l2 : ∀ c ∈ digits.cps.toList, c < 0x110000 := by decide +kernel
  rcases h.all i _ e with h | h
  · exact decide_eq_true (l1 _ h)
  · exact decide_eq_true (l2 _ h)
def tieD (r : T5) : PyData := .tuple [.str r.x, .str r.one, .str r.other, .int r.lo, .int r.hi]
def webD (ps : List Str) (rows : List T5) : PyData := .tuple [.tuple (ps.map PyData.str), .tuple (rows.map tieD)]
theorem strs_lay : ∀ ps : List Str, (∀ p ∈ ps, NameOk p) → PyData.canLayAll0 (ps.map PyData.str) = true
  | [], _ => rfl
  | p :: ps, h => by
    rw [List.map_cons, PyData.canLayAll0, strs_lay ps fun q hq => h q (List.mem_cons_of_mem _ hq), PyData.canLay0, name_ok_str (h p (List.mem_cons_self ..))]; rfl
theorem rows_lay : ∀ rows : List T5, (∀ r ∈ rows, NameOk r.x ∧ NameOk r.one ∧ NameOk r.other) → PyData.canLayAll0 (rows.map tieD) = true
  | [], _ => rfl
  | r :: rows, h => by
    obtain ⟨h1, h2, h3⟩ := h r (List.mem_cons_self ..)
    rw [List.map_cons, PyData.canLayAll0, rows_lay rows fun q hq => h q (List.mem_cons_of_mem _ hq)]
    have : (tieD r).canLay0 = true := by
      unfold tieD
      simp only [PyData.canLay0, PyData.canLayAll0, name_ok_str h1, name_ok_str h2, name_ok_str h3, Bool.and_self]
    rw [this]; rfl
theorem strs_depth : ∀ ps : List Str, PyData.depthAll (ps.map PyData.str) = 0
  | [] => rfl
  | p :: ps => by rw [List.map_cons, PyData.depthAll, strs_depth ps, PyData.depth]; rfl
theorem rows_depth : ∀ rows : List T5, PyData.depthAll (rows.map tieD) ≤ 1
  | [] => Nat.zero_le _
  | r :: rows => by
    have := rows_depth rows
    rw [List.map_cons, PyData.depthAll]
    have e : (tieD r).depth = 1 := by unfold tieD; simp [PyData.depth, PyData.depthAll]
    omega
theorem web_shaped {ps : List Str} {rows : List T5} (h : WebOk ps rows) : SeqAt.shaped (webD ps rows) = true ∧ PyData.eqv (webD ps rows) (webD ps rows) = true := by
  have l1 := strs_lay ps h.names
  have l2 := rows_lay rows fun r hr => ⟨h.tnames r hr, h.names _ (h.ends r hr).1, h.names _ (h.ends r hr).2.1⟩
  have lay : (webD ps rows).canLay0 = true := by
    unfold webD
    simp only [PyData.canLay0, PyData.canLayAll0, l1, l2, Bool.and_self]
  have dep : (webD ps rows).depth ≤ 64 := by
    unfold webD
    have h1 := strs_depth ps
    have h2 := rows_depth rows
    simp only [PyData.depth, PyData.depthAll]
    omega
  refine ⟨?_, SeqAt.eqv_refl _ lay⟩
  unfold SeqAt.shaped
  rw [lay, decide_eq_true dep]; rfl
theorem dp_strs {K : PySem.W.Frag} {H : Hp} : ∀ ps : List Str, DpAll K H (ps.map V.str) (ps.map PyData.str)
  | [] => .nil
  | p :: ps => .cons (.str p) (dp_strs ps)
theorem dp_rows {K : PySem.W.Frag} {H : Hp} {as : List Addr} {rows : List T5} (h : Paired (fun a r => TieAt H a r) as rows) : DpAll K H (as.map V.ref) (rows.map tieD) := by
  induction h with
  | nil => exact .nil
  | cons h _ ih => exact .cons (.tup (SqT.of h) (.cons (.str _) (.cons (.str _) (.cons (.str _) (.cons (.int _) (.cons (.int _) .nil)))))) ih
theorem dp_web {K : PySem.W.Frag} {H : Hp} {t u v : Addr} {ps : List Str} {rows : List T5} (ht : H t = some (.tup [.ref u, .ref v])) (hu : TextsAt H u ps) (hv : TiesAt H v rows) : Dp K H (.ref t) (webD ps rows) := by
  obtain ⟨as, h1, h2⟩ := hv
  exact .tup (SqT.of ht) (.cons (.tup (SqT.of hu) (dp_strs ps)) (.cons (.tup (SqT.of h1) (dp_rows h2)) .nil))
/-- joined in any way, a span; side by side only if it was so before -/
theorem join_span {q : Bool} {p1 p2 p3 : Plan} {B : Int} (o1 : p1.ok B) (o2 : p2.ok B) (o3 : p3.ok B) (h1 : ∃ s, p1.span = some s) (h2 : ∃ s, p2.span = some s) (h3 : ∃ s, p3.span = some s) (hq : q = true → ∃ s, (joinP true false p1 p2 p3).span = some s) :
    ∃ s, (joinP q true p1 p2 p3).span = some s := by
  cases q with
  | true =>
    obtain ⟨s, e⟩ := hq rfl
    exact ⟨s, (three (s := true) (late := true) (late' := false) (List.Perm.refl _) o1 o2 o3).1.trans e⟩
  | false =>
    obtain ⟨s1, e1⟩ := h1
    obtain ⟨s2, e2⟩ := h2
    obtain ⟨s3, e3⟩ := h3
    refine ⟨addS s1 (addS s2 s3), ?_⟩
    show opO false p1.span (opO false p2.span p3.span) = _
    rw [e1, e2, e3]; rfl
section
variable {P : Program} {w : World} {K : PySem.W.Frag} {mg : Str → Option Value} {base : Heap} {f : Addr} {fd : FuncData} {c : Cs}
/-- a def whose promise asks for a stack without guards, found by its name -/
structure DvG (P : Program) (w : World) (K : PySem.W.Frag) (mg : Str → Option Value) (base : Heap) (k : Nat) (x : Str) (ps : List Str) (sp : Sp) : Prop where
  ex : ∃ f fd, FnG P w K mg base k f fd ps sp ∧ mg x = some (.ref f) ∧ PySem.W.keepIn K (.ref f) = true ∧ Binds K fd ps []
end
section
variable {X : Cx} {k : Nat} {x : Str} {ps : List Str} {sp : Sp} {e : Expr} {es : List Expr} {t : TA} {p pos : Pos}
theorem pe_dvG (D : DvG X.prog X.w X.K X.mg X.base k x ps sp) (hr : Room k X.A) (hgd : X.A.guards = some []) (ha : PA X (e :: es) t) (hg : Gl X x := by rfl) (hdb : (x == ("__debug__" : Str)) = false := by decide)
    (he : starEach (e :: es) X.env = (false, eval e X.env) :: starEach es X.env := by rfl) (hpl : (backTo pos (starEach es X.env)).any (·.1) = false := by rfl) : PE X (.Call (.Name x p) (e :: es) [] pos) (fun σ H Q => t σ H fun vs H1 => sp vs H1 Q E0) := by
  obtain ⟨f, fd, F, hm, hk, hb⟩ := D.ex
  refine ⟨fun pins s σ H Q I h => (pe_callG F hr hgd hg hm hk hb ha hdb he hpl).run pins s σ H Q I ?_⟩
  show t σ H fun vs H1 => sp (vs ++ []) H1 Q E0
  have e2 : (fun (vs : List V) (H1 : Hp) => sp (vs ++ []) H1 Q E0) = fun vs H1 => sp vs H1 Q E0 := by
    funext vs H1
    rw [List.append_nil]
  rw [e2]
  exact h
end
/-- Web(a, b) makes a web -/
theorem made_web {wb : Addr} {H : Hp} {Q : VK} {u v : Addr} {ps : List Str} {rows : List T5} (hu : TextsAt H u ps) (hv : TiesAt H v rows) (ok : WebOk ps rows) (k : ∀ x H', Same H H' → WebAt wb H' x u v → Q (.ref x) H') : MadeBy wb (spWebI wb) E0 [.ref u, .ref v] H Q := by
  intro x dx nx nd hne
  have g := same_made (C := wb) nx nd
  refine ⟨x, dx, u, v, ps, rows, rfl, upd_same, g _ _ hu, hv.same g, ok, fun H' kp hx => ⟨rfl, k x H' (Same.made (C := wb) nx nd fun b o e n => kp b o n e) ⟨dx, hx⟩⟩⟩
section
variable {P : Program} {w : World} {K : PySem.W.Frag} {mg : Str → Option Value} {base : Heap} {f : Addr} {fd : FuncData} {c : Cs}
def spPieceOf9 (c : Cs) (wb : Addr) : Sp := fun vs H Q E => ∃ n, n ≤ 9 ∧ spPieceOf c wb n vs H Q E
theorem piece_of9 {wb : Addr} (h : ∀ n, n ≤ 9 → FnOk P w K mg base CX0 18 f fd ["web", "one", "other"] (spPieceOf c wb n)) : FnOk P w K mg base CX0 18 f fd ["web", "one", "other"] (spPieceOf9 c wb) :=
  ⟨fun vs H Q E ⟨n, hn, q⟩ => (h n hn).len vs H Q E q, fun A outer s H args us vs Q E hr e0 hb r ⟨n, hn, q⟩ => (h n hn).run A outer s H args us vs Q E hr e0 hb r q⟩
/-- what the law's def needs -/
structure LawEnv (P : Program) (w : World) (K : PySem.W.Frag) (mg : Str → Option Value) (base : Heap) (c : Cs) (wb : Addr) : Prop where
  hb : ∀ x ∈ blts, mg x = none
  FD : Dv P w K mg base CX0 1 "_law_feed" ["_law_script", "_law_k"] (spFeed K)
  T : TakeD P w K mg base
  M : MixedD P w K mg base
  W : WordsD P w K mg base
  TR : Dv P w K mg base CX0 5 "_law_tree" pTree (spTree 3)
  LP : Dv P w K mg base CX0 11 "_law_piece" ["_law_plan", "_law_signs"] (spLPiece c 3)
  JD : JoinD P w K mg base c
  TD : DvG P w K mg base 34 "_law_told" pTold (spTold c)
  EN : Dv P w K mg base CX0 4 "_law_ends" ["_law_feed_here"] spEnds
  DG : Dv P w K mg base CX0 11 "_law_disguised" pDisg spDisg
  WM : Mv P w K mg base CX0 5 "Web" wb ["self", "posts", "ties"] (spWebI wb)
  PO : Dv P w K mg base CX0 18 "piece_of" ["web", "one", "other"] (spPieceOf9 c wb)
  P1 : Pv P w K mg base wb "posts" "places"
  P2 : Pv P w K mg base wb "ties" "bonds"
  WC : WebC K mg wb
  PV : ∀ C, isPc c C → Pv P w K mg base C "span" "bounds"
  pc : PcCs K c
  SD : StrD P w K mg base c
end
end Wr
-- WrLaw14
/-! law: the end of a turn -/
namespace Wr
open PySem L2
abbrev nLaw : List Str := ["_law_script", "_law_k", "_law_feed_here", "_law_titles", "_law_form", "_law_limit", "_law_near", "_law_plans", "_law_turn", "_law_many", "_law_some", "_law_sign", "_law_due", "_law_mixed_here", "_law_ends_here", "_law_whole", "_law_spots", "_law_bonds", "_law_web", "_law_thing", "_law_plan"]
abbrev sLaw : Stmt := top 78
theorem scLaw : FnScope nLaw ["_law_script"] (defScope sLaw) := ⟨rfl, rfl, rfl, by decide +kernel, rfl, by decide +kernel, by decide +kernel⟩
def forBody (s : Stmt) : List Stmt := match s with
  | .For _ _ b _ _ => b
  | _ => []
abbrev lawFor : List Stmt := forBody ((defBody sLaw).getD 0 (.Pass ⟨0, 0, 0, 0⟩))
abbrev lCx (P : Program) (w : World) (K : PySem.W.Frag) (mg : Str → Option Value) (base : Heap) (f : Addr) (cdv : Value) (A : Around) (outer : List Env) (s : Shared) (H : Hp) (E : XK) : Cx := (cxOf CX0 P w K mg base nLaw "law" (defScope sLaw) f cdv A outer s H E).nox
/-- the slots: the script ahead -/
def Sl (a : Addr) (σ : L2.St) : Prop := ∃ v1 v2 v3 v4 v5 v6 v7 v8 v9 v10 v11 v12 v13 v14 v15 v16 v17 v18 v19 v20 : Option V, σ = [some (.ref a), v1, v2, v3, v4, v5, v6, v7, v8, v9, v10, v11, v12, v13, v14, v15, v16, v17, v18, v19, v20]
/-- three plans of the law -/
structure Three (p1 p2 p3 : Plan) : Prop where
  o1 : p1.ok 1000
  o2 : p2.ok 1000
  o3 : p3.ok 1000
  s1 : ∃ s, p1.span = some s
  s2 : ∃ s, p2.span = some s
  s3 : ∃ s, p3.span = some s
  size : p1.size + p2.size + p3.size ≤ 9
  nd : (p1.names ++ (p2.names ++ p3.names)).Nodup
  names : ∀ x ∈ p1.names ++ (p2.names ++ p3.names), NameOk x
section
variable {P : Program} {w : World} {K : PySem.W.Frag} {mg : Str → Option Value} {base : Heap} {f : Addr} {fd : FuncData} {c : Cs} {wb : Addr}
variable {cdv : Value} {A : Around} {outer : List Env} {s : Shared} {H0 : Hp} {E : XK}
theorem law_end (L : LawEnv P w K mg base c wb) (hr : Room 34 (lCx P w K mg base f cdv A outer s H0 E).A) :
    ∃ t, PSs (lCx P w K mg base f cdv A outer s H0 E) (lawFor.drop 7) t ∧ ∀ (D : L2.Ends) (H : Hp) (a fe Lp S q1 q2 q3 b1 b2 b3 : Addr) (p1 p2 p3 : Plan) (z : Str) (n : Bool) (v1 v3 v4 v5 v6 v8 v9 v11 v13 v14 v15 v16 v17 v18 v19 v20 : Option V),
      FeedAt H fe → Lp ≠ fe → S ≠ fe → H Lp = some (.lst [.ref q1, .ref q2, .ref q3]) → LPlanAt H p1 q1 → LPlanAt H p2 q2 → LPlanAt H p3 q3 → H S = some (.lst [.ref b1, .ref b2, .ref b3]) → PieceAt c H p1 b1 → PieceAt c H p2 b2 → PieceAt c H p3 b3 →
      Three p1 p2 p3 → toldP (joinP true false p1 p2 p3) n z → (∀ σ' H', Sl a σ' → Stay H H' → D.nx σ' H') →
      t D [some (.ref a), v1, some (.ref fe), v3, v4, v5, v6, some (.ref Lp), v8, v9, some (.ref S), v11, some (.str z), v13, v14, v15, v16, v17, v18, v19, v20] H := by
  have nd := scLaw.nd
  have hb := L.hb
  have hr1 := hr.mono (show 1 ≤ 34 by decide)
  have isP : ∀ C, isPc c C → Cls K C := fun C h => (L.pc.is h).cls
  refine ⟨_, pss_cons (ps_set (i := 14) nd rfl (Or.inl rfl) (pe_dv L.EN (hr.mono (by decide)) pass0 (pa_cons (pv 2) pa_nil)))
    (pss_cons (ps_set (i := 11) nd rfl (Or.inl rfl) (pe_ix ix_list (pe_lst (pa_cons pe_str (pa_cons pe_str pa_nil))) (pe_op op_mul (pe_dv L.T hr1 pass0 (pa_cons (pv 2) (pa_cons pe_int pa_nil))) (pe_callTy call_int1 rfl (hb _ (by decide)) (by first | rfl | kernel_rfl) (pa_cons (pe_cmpR op_ne (pv 12) pe_str (nomark _)) pa_nil))) (fun _ _ => rfl)))
    (pss_cons (ps_set (i := 15) nd rfl (Or.inl rfl) (pe_dv L.JD (hr.mono (by decide)) passL (pa_cons (pv 10) (pa_cons (pv 11) (pa_cons pe_bl pa_nil)))))
    (pss_cons (ps_asg (pe_dv L.DG (hr.mono (by decide)) pass0 (pa_cons (pv 2) (pa_cons (pe_tup (pa_cons (pv 11) (pa_cons (pe_ix ix_list (pv 7) pe_int (fun _ _ => rfl)) (pa_cons (pe_tup (pa_cons (pv 11) (pa_cons (pe_ix ix_list (pv 7) pe_int (fun _ _ => rfl)) (pa_cons (pe_ix ix_list (pv 7) pe_int (fun _ _ => rfl)) pa_nil)))) pa_nil)))) (pa_cons (pv 14) pa_nil))))
      (pg_tup rfl (pgs_cons (pg_name (i := 16) nd rfl (Or.inl rfl)) (pgs_cons (pg_name (i := 17) nd rfl (Or.inl rfl)) pgs_nil))))
    (pss_one (ps_if (pt_cmpR op_lt (pe_callB call_len rfl (hb _ (by decide)) (by first | rfl | kernel_rfl) (pa_cons (pv 16) pa_nil)) pe_int (nomark _))
      (pss_cons (ps_set (i := 18) nd rfl (Or.inl rfl) (pe_mv L.WM (hr.mono (by decide)) pass0 (pa_cons (pv 16) (pa_cons (pv 17) pa_nil))))
      (pss_cons (ps_set (i := 19) nd rfl (Or.inl rfl) (pe_dv L.PO (hr.mono (by decide)) pass0 (pa_cons (pv 18) (pa_cons (pe_ix ix_list (pv 14) pe_int (fun _ _ => rfl)) (pa_cons (pe_ix ix_list (pv 14) pe_int (fun _ _ => rfl)) pa_nil)))))
      (pss_one (ps_if (PW.pt (pw_or (pt_cmpR op_ne (pe_callTy (call_strSpan L.SD (hr.mono (by decide))) rfl (hb _ (by decide)) (by first | rfl | kernel_rfl) (pa_cons (pe_pvF L.PV (pv 19) isP (hr.mono (by decide))) pa_nil)) (pe_callTy (call_strSpan L.SD (hr.mono (by decide))) rfl (hb _ (by decide)) (by first | rfl | kernel_rfl) (pa_cons (pe_pvF L.PV (pv 15) isP (hr.mono (by decide))) pa_nil)) (nomark _))
          (pw_or1 (pt_cmpR (op_neD hr.units) (pe_tup (pa_cons (pe_pv L.P1 (pv 18) L.WC.cls (hr.mono (by decide))) (pa_cons (pe_pv L.P2 (pv 18) L.WC.cls (hr.mono (by decide))) pa_nil))) (pe_tup (pa_cons (pv 16) (pa_cons (pv 17) pa_nil))) (nomark _)))))
        (pss_one (ps_ret pe_bl)) pss_nil)))) pss_nil))))), fun D H a fe Lp S q1 q2 q3 b1 b2 b3 p1 p2 p3 z n v1 v3 v4 v5 v6 v8 v9 v11 v13 v14 v15 v16 v17 v18 v19 v20 hf Lf Sf hL l1 l2 l3 hS h1 h2 h3 t3 told k => ?_⟩
  refine ⟨_, rfl, fe, rfl, hf, fun qe b e H1 E' g1 nqe hqe => ?_⟩
  refine ⟨two_le, fun l hl => ?_⟩
  have sl := same_new (o := .lst [.str "+", .str "&"]) hl
  have lf : l ≠ fe := fun z => by obtain ⟨_, _, _, e⟩ := g1.at_; rw [← z, hl] at e; cases e
  have qef : qe ≠ fe := fun z => by obtain ⟨_, _, _, e⟩ := hf; rw [← z, nqe] at e; cases e
  refine ⟨_, rfl, fe, 2, rfl, g1.at_.same sl, by decide, by decide, fun d H2 d0 d1 g2 => ?_⟩
  obtain ⟨q, hat, hq⟩ : ∃ q : Bool, atI [V.str "+", V.str "&"] (d * (if (!decide (V.str z = V.str "snapped")) = true then 1 else 0)) = some (.str (signOf q)) ∧ (q = true → z ≠ "snapped") := by
    by_cases e : z = "snapped"
    · have e2 : (!decide (V.str z = V.str "snapped")) = false := by rw [e]; simp
      rw [e2, if_neg Bool.false_ne_true, Int.mul_zero]
      exact ⟨false, rfl, fun z => nomatch z⟩
    · have e2 : (!decide (V.str z = V.str "snapped")) = true := by
        rw [decide_eq_false (fun y => e (by injection y))]; rfl
      rw [e2, if_pos rfl, Int.mul_one]
      have : d = 0 ∨ d = 1 := by omega
      rcases this with rfl | rfl
      · exact ⟨false, rfl, fun z => nomatch z⟩
      · exact ⟨true, rfl, fun _ => e⟩
  have g12 := (g1.step sl).trans g2
  have hl2 := g2.kp _ _ lf upd_same
  refine ⟨_, rfl, rfl, .inr ⟨_, rfl, _, _, rfl, rfl, cmul_bool _ _, l, _, _, .str (signOf q), rfl, rfl, SqL.of hl2, hat, ?_⟩⟩
  have st2 := Stay.fed hf g12.kp
  obtain ⟨s', es'⟩ := join_span (q := q) t3.o1 t3.o2 t3.o3 t3.s1 t3.s2 t3.s3 (fun z => told_some told (hq z))
  refine ⟨_, rfl, _, rfl, S, b1, b2, b3, p1, p2, p3, q, true, 1000, rfl, g12.kp _ _ Sf hS, h1.stay st2, h2.stay st2, h3.stay st2, t3.o1, t3.o2, t3.o3, (by have := t3.size; omega), fun t H3 g3 ht => ?_, fun hno => by rw [es'] at hno; cases hno⟩
  have gA := g12.step g3
  have hL3 := gA.kp _ _ Lf hL
  have stA := Stay.fed hf gA.kp
  refine ⟨_, rfl, _, rfl, _, rfl, Lp, _, _, _, rfl, rfl, SqL.of hL3, rfl, _, rfl, _, rfl, Lp, _, _, _, rfl, rfl, SqL.of hL3, rfl, _, rfl, Lp, _, _, _, rfl, rfl, SqL.of hL3, rfl, three_le, fun t1 ht1 => ⟨three_le, fun t2 ht2 => ?_⟩⟩
  have s1 := same_new (o := .tup [.str (signOf q), .ref q2, .ref q3]) ht1
  have s2 := same_new (o := .tup [.str (signOf q), .ref q1, .ref t1]) ht2
  have stB := stA.trans (Stay.of_same (s1.trans s2))
  have g13 := g1.kp
  have hqe3 := s2 _ _ (s1 _ _ (g3 _ _ (g2.kp _ _ qef (sl _ _ hqe))))
  have pl : LPlanAt (upd (upd H3 t1 (.tup [.str (signOf q), .ref q2, .ref q3])) t2 (.tup [.str (signOf q), .ref q1, .ref t1])) (joinP q true p1 p2 p3) t2 :=
    ⟨q1, t1, upd_same, l1.stay stB, q2, q3, s2 _ _ upd_same, l2.stay stB, l3.stay stB⟩
  have oj := joinP_ok (s := q) (late := true) t3.o1 t3.o2 t3.o3
  have zj := joinP_size (s := q) (late := true) (a := p1) (b := p2) (c := p3)
  have z9 := t3.size
  refine ⟨_, rfl, fe, t2, qe, joinP q true p1 p2 p3, 1000, b, e, rfl, (gA.at_.same s1).same s2, pl, hqe3, qef, E', oj, t3.nd, t3.names, by omega, fun qq u v M ps rows H4 g4 dis hqq hu hv => ?_⟩
  refine ⟨qq, _, rfl, SqT.of hqq, rfl, _, _, rfl, _, _, rfl, rfl, ?_⟩
  have gB := (gA.step (s1.trans s2)).trans g4
  have hqe4 := g4.kp _ _ qef hqe3
  refine ⟨_, rfl, .ref u, _, rfl, .inr ⟨_, SqT.of hu, rfl⟩, _, _, rfl, rfl, _, rfl, ?_⟩
  refine ite2 (fun _ => ?_) (fun _ => k _ _ ⟨_, _, _, _, _, _, _, _, _, _, _, _, _, _, _, _, _, _, _, _, rfl⟩ (Stay.fed hf gB.kp))
  refine ⟨_, rfl, _, rfl, ?_⟩
  unfold tNil
  refine made_web hu hv dis.web fun x H5 g5 hx => ?_
  have hqe5 := g5 _ _ hqe4
  have lM := dis.len
  have lps := dis.perm.length_eq
  rw [List.length_cons, List.length_cons, lM] at lps
  have jl := (joinP q true p1 p2 p3).joints_lt
  have ev : (vP (joinP q true p1 p2 p3)).1 = some s' := by rw [vP_ok oj]; exact es'
  refine ⟨_, rfl, _, rfl, qe, _, _, _, rfl, rfl, SqL.of hqe5, rfl, _, rfl, qe, _, _, _, rfl, rfl, SqL.of hqe5, rfl, (joinP q true p1 p2 p3).size, by omega, x, u, v, ps, rows, b, e, M, _, s', 1000, rfl, hx, g5 _ _ hu, hv.same g5, dis.perm, by omega, by omega, dis.net, dis.web.tnd, dis.web.spans, ev, fun th pt H6 g6 hpt ept => ?_⟩
  have tB : PieceAt c H6 (joinP q true p1 p2 p3) t := ((ht.stay (Stay.of_same (s1.trans s2))).stay (Stay.fed ((gA.at_.same s1).same s2) g4.kp)).stay (Stay.of_same (g5.trans g6))
  obtain ⟨C1, dx1, bb1, _, _, _, sp1, i1, c1, ⟨db1, e1⟩, es1, _⟩ := hpt.head
  obtain ⟨C2, dx2, bb2, _, _, _, sp2, i2, c2, ⟨db2, e2⟩, es2, _⟩ := tB.head
  have eq1 : sp1 = s' := by rw [ept] at es1; cases es1; rfl
  have eq2 : sp2 = s' := by rw [es'] at es2; cases es2; rfl
  subst eq1
  subst eq2
  have oks := Plan.span_ok oj _ es'
  have le := span_le (B := 1000) (by decide) oj _ es'
  have le2 : sp2.2 ≤ 1000000 := by omega
  refine ⟨_, rfl, th, C1, dx1, _, .ref bb1, rfl, c1, i1, rfl, bb1, db1, _, rfl, e1, bb1, sp2, rfl, ⟨db1, e1⟩, oks, le2, _, rfl, ?_⟩
  refine ⟨_, rfl, t, C2, dx2, _, .ref bb2, rfl, c2, i2, rfl, bb2, db2, _, rfl, e2, bb2, sp2, rfl, ⟨db2, e2⟩, oks, le2, _, rfl, ?_⟩
  refine ⟨rfl, _, rfl, ?_⟩
  have en : (!decide (V.str (spanText sp2) = V.str (spanText sp2))) = false := by simp
  rw [en]
  obtain ⟨dw, hx6⟩ := hx
  have hx6 := g6 _ _ hx6
  refine iteF ⟨_, rfl, x, dw, _, _, rfl, hx6, rfl, _, rfl, x, dw, _, _, rfl, hx6, rfl, two_le, fun t5 ht5 => ?_⟩
  refine ⟨_, rfl, _, rfl, two_le, fun t6 ht6 => ?_⟩
  have s5 := same_new (o := .tup [.ref u, .ref v]) ht5
  have s6 := same_new (o := .tup [.ref u, .ref v]) ht6
  have g56 := g5.trans g6
  obtain ⟨w1, w2⟩ := web_shaped dis.web
  have d5 : Dp K (upd (upd H6 t5 (.tup [.ref u, .ref v])) t6 (.tup [.ref u, .ref v])) (.ref t5) (webD ps rows) := dp_web (s6 _ _ upd_same) (s6 _ _ (s5 _ _ (g56 _ _ hu))) (hv.same (g56.trans (s5.trans s6)))
  have d6 : Dp K (upd (upd H6 t5 (.tup [.ref u, .ref v])) t6 (.tup [.ref u, .ref v])) (.ref t6) (webD ps rows) := dp_web upd_same (s6 _ _ (s5 _ _ (g56 _ _ hu))) (hv.same (g56.trans (s5.trans s6)))
  refine ⟨_, _, d5, d6, w1, w1, _, rfl, ?_⟩
  rw [w2]
  refine iteF (k _ _ ⟨_, _, _, _, _, _, _, _, _, _, _, _, _, _, _, _, _, _, _, _, rfl⟩ ?_)
  exact (Stay.fed hf gB.kp).trans (Stay.of_same (g56.trans (s5.trans s6)))
end
end Wr
-- WrLaw15
/-! law: the loop over the signs -/
namespace Wr
open PySem L2
section
variable {P : Program} {w : World} {K : PySem.W.Frag} {mg : Str → Option Value} {base : Heap} {f : Addr} {fd : FuncData} {c : Cs} {wb : Addr}
variable {cdv : Value} {A : Around} {outer : List Env} {s : Shared} {H0 : Hp} {E : XK}
theorem law_signs (L : LawEnv P w K mg base c wb) (hr : Room 34 (lCx P w K mg base f cdv A outer s H0 E).A) (hg : A.guards = some []) :
    ∃ t, PS (lCx P w K mg base f cdv A outer s H0 E) (lawFor.getD 6 (.Pass ⟨0, 0, 0, 0⟩)) t ∧ ∀ (D : L2.Ends) (H : Hp) (a fe Lp S b1 b2 b3 : Addr) (p1 p2 p3 : Plan) (fm : Int) (n : Bool) (v1 v3 v5 v6 v8 v9 v11 v12 v13 v14 v15 v16 v17 v18 v19 v20 : Option V),
      FeedAt H fe → S ≠ fe → H S = some (.lst [.ref b1, .ref b2, .ref b3]) → PieceAt c H p1 b1 → PieceAt c H p2 b2 → PieceAt c H p3 b3 → Three p1 p2 p3 → decide (V.int fm = V.int 0) = n → (n = true → p1.ok 2 ∧ p2.ok 2 ∧ p3.ok 2 ∧ p1.size + p2.size + p3.size ≤ 6) →
      (∀ z H' v8 v11 v13, Fed fe H H' → toldP (joinP true false p1 p2 p3) n z → D.nx [some (.ref a), v1, some (.ref fe), v3, some (.int fm), v5, v6, some (.ref Lp), v8, v9, some (.ref S), v11, some (.str z), v13, v14, v15, v16, v17, v18, v19, v20] H') →
      t D [some (.ref a), v1, some (.ref fe), v3, some (.int fm), v5, v6, some (.ref Lp), v8, v9, some (.ref S), v11, v12, v13, v14, v15, v16, v17, v18, v19, v20] H := by
  have nd := scLaw.nd
  have hb := L.hb
  have hr1 := hr.mono (show 1 ≤ 34 by decide)
  have hr2 := hr.mono (show 2 ≤ 34 by decide)
  refine ⟨_, ps_for PassesOwn.never rfl (pi_tup (pe_tup (pa_cons pe_str (pa_cons pe_str pa_nil)))) (pg_name (i := 11) nd rfl (Or.inl rfl))
    (pss_cons (ps_set (i := 12) nd rfl (Or.inl rfl) (pe_dvG L.TD hr hg (pa_cons (pv 10) (pa_cons (pv 11) (pa_cons pe_bl (pa_cons (pe_cmpR op_eq (pv 4) pe_int (nomark _)) pa_nil))))))
    (pss_one (ps_for PassesOwn.never rfl (pi_range1 rfl (hb _ (by decide)) (pa_cons pe_int pa_nil)) (pg_name (i := 8) nd rfl (Or.inl rfl))
      (pss_cons (ps_set (i := 13) nd rfl (Or.inl rfl) (pe_dv L.M hr2 pass0 (pa_cons (pv 2) (pa_cons (pv 10) pa_nil))))
      (pss_one (ps_if (pt_cmpR op_ne (pe_dvG L.TD hr hg (pa_cons (pv 13) (pa_cons (pv 11) (pa_cons (pe_cmpR op_eq (pe_dv L.T hr1 pass0 (pa_cons (pv 2) (pa_cons pe_int pa_nil))) pe_int (nomark _)) (pa_cons (pe_cmpR op_eq (pv 4) pe_int (nomark _)) pa_nil))))) (pv 12) (nomark _)) (pss_one (ps_ret pe_bl)) pss_nil)))))),
    fun D H a fe Lp S b1 b2 b3 p1 p2 p3 fm n v1 v3 v5 v6 v8 v9 v11 v12 v13 v14 v15 v16 v17 v18 v19 v20 hf Sf hS h1 h2 h3 t3 hn hn2 k => ?_⟩
  refine ⟨two_le, fun t ht => ⟨t, rfl, ⟨_, SqT.of upd_same⟩, ?_⟩⟩
  have s1 := same_new (o := .tup [.str "+", .str "&"]) ht
  refine for_tup (xs := [.str "+", .str "&"]) (fun i σ H' => Fed fe (upd H t (.tup [.str "+", .str "&"])) H' ∧ ∃ v8 v11 v12 v13, σ = [some (.ref a), v1, some (.ref fe), v3, some (.int fm), v5, v6, some (.ref Lp), v8, v9, some (.ref S), v11, v12, v13, v14, v15, v16, v17, v18, v19, v20] ∧
      (0 < i → ∃ z, v12 = some (.str z) ∧ toldP (joinP (decide (i = 2)) false p1 p2 p3) n z))
    ⟨Fed.same (hf.same s1) (Same.refl _), _, _, _, _, rfl, fun z => absurd z (by decide)⟩ (fun i σ H' _ ⟨g, _⟩ => SqT.of (g.kp _ _ ((hf.same s1).ne upd_same (fun _ z => nomatch z)) upd_same)) (fun i x σ H' hx ⟨g, v8, v11, v12, v13, es, told⟩ => ?_) fun σ H' ⟨g, v8, v11, v12, v13, es, told⟩ => ?_
  · subst es
    obtain ⟨q, rfl, hq⟩ : ∃ q : Bool, x = .str (signOf q) ∧ decide (i + 1 = 2) = q := by
      match i, hx with
      | 0, hx => exact ⟨false, by cases hx; rfl, rfl⟩
      | 1, hx => exact ⟨true, by cases hx; rfl, rfl⟩
      | i + 2, hx => cases hx
    rw [hq]
    have gA : Fed fe H H' := (Fed.same hf s1).trans g
    have stA := Stay.fed hf gA.kp
    have z9 := t3.size
    refine ⟨_, rfl, _, rfl, _, rfl, rfl, ?_⟩
    rw [hn]
    refine ⟨S, b1, b2, b3, p1, p2, p3, q, false, n, rfl, gA.kp _ _ Sf hS, h1.stay stA, h2.stay stA, h3.stay stA, t3.o1, t3.o2, t3.o3, z9, hn2, fun z H2 g2 tz => ?_⟩
    have gB := gA.step g2
    refine ⟨_, rfl, by decide, by decide, ?_⟩
    refine for_range (n := _) (fun j σ H'' => Fed fe H2 H'' ∧ ∃ v8 v13, σ = [some (.ref a), v1, some (.ref fe), v3, some (.int fm), v5, v6, some (.ref Lp), v8, v9, some (.ref S), some (.str (signOf q)), some (.str z), v13, v14, v15, v16, v17, v18, v19, v20])
      ⟨Fed.same gB.at_ (Same.refl _), _, _, rfl⟩ (fun j σ H'' hj ⟨g3, w8, w13, es⟩ => ?_) fun σ H'' ⟨g3, w8, w13, es⟩ => ?_
    · subst es
      have gC := gB.trans g3
      refine ⟨_, rfl, _, rfl, fe, S, _, rfl, gC.at_, gC.kp _ _ Sf hS, by show 3 ≤ 1000; decide, fun m ys H4 pm g4 nm hm => ?_⟩
      obtain ⟨zs', rfl, pz⟩ := perm_map_inv (f := fun z : Addr × Plan => V.ref z.1) (l := [(b1, p1), (b2, p2), (b3, p3)]) pm
      have hzs : ∀ z ∈ zs', PieceAt c H z.2 z.1 ∧ z.2.ok 1000 ∧ (n = true → z.2.ok 2) := fun z hz => by
        have hz := pz.mem_iff.mp hz
        simp only [List.mem_cons, List.not_mem_nil, or_false] at hz
        rcases hz with rfl | rfl | rfl
        · exact ⟨h1, t3.o1, fun e => (hn2 e).1⟩
        · exact ⟨h2, t3.o2, fun e => (hn2 e).2.1⟩
        · exact ⟨h3, t3.o3, fun e => (hn2 e).2.2.1⟩
      have pp := pz.map (·.2)
      have psz := (pp.map Plan.size).sum_nat
      have l3 := pz.length_eq
      match zs', l3, hzs, pp, psz, hm with
      | [z1, z2, z3], _, hzs, pp, psz, hm =>
        have psz : z1.2.size + (z2.2.size + (z3.2.size + 0)) = p1.size + (p2.size + (p3.size + 0)) := psz
        have mf : m ≠ fe := fun z => by obtain ⟨_, _, _, e⟩ := gC.at_; rw [← z, nm] at e; cases e
        refine ⟨_, rfl, _, rfl, _, rfl, fe, 2, rfl, g4.at_, by decide, by decide, fun d H5 d0 d1 g5 => ⟨rfl, _, rfl, rfl, ?_⟩⟩
        rw [hn]
        have gD := gC.trans (g4.trans g5)
        have stD := Stay.fed hf gD.kp
        refine ⟨m, z1.1, z2.1, z3.1, z1.2, z2.2, z3.2, q, _, n, rfl, g5.kp _ _ mf hm, (hzs z1 (by simp)).1.stay stD, (hzs z2 (by simp)).1.stay stD, (hzs z3 (by simp)).1.stay stD, (hzs z1 (by simp)).2.1, (hzs z2 (by simp)).2.1, (hzs z3 (by simp)).2.1, by omega,
          fun e => ⟨(hzs z1 (by simp)).2.2 e, (hzs z2 (by simp)).2.2 e, (hzs z3 (by simp)).2.2 e, by have := (hn2 e).2.2.2; omega⟩, fun z' H6 g6 tz' => ?_⟩
        have ez : z' = z := told_same (three pp t3.o1 t3.o2 t3.o3) tz' tz
        subst ez
        refine ⟨_, rfl, rfl, _, rfl, ?_⟩
        have en : (!decide (V.str z' = V.str z')) = false := by simp
        rw [en]
        exact iteF ⟨g3.trans ((g4.trans g5).step g6), _, _, rfl⟩
    · subst es
      exact ⟨(g.step g2).trans g3, _, _, _, _, rfl, fun _ => ⟨z, rfl, tz⟩⟩
  · subst es
    obtain ⟨z, rfl, tz⟩ := told (by decide)
    exact k z H' _ _ _ ((Fed.same hf s1).trans g) tz
end
end Wr
-- WrLaw16
/-! law: a turn -/
namespace Wr
open PySem L2
theorem ok_mono {B C : Int} (h : B ≤ C) : ∀ {p : Plan}, p.ok B → p.ok C
  | .leaf _ _ _, ⟨a, b, d⟩ => ⟨a, b, Int.le_trans d h⟩
  | .op _ _ _, ⟨a, b⟩ => ⟨ok_mono h a, ok_mono h b⟩
def namesAll (ps : List Plan) : List Str := (ps.map Plan.names).flatten
theorem namesAll_snoc (ps : List Plan) (p : Plan) : namesAll (ps ++ [p]) = namesAll ps ++ p.names := by
  unfold namesAll
  rw [List.map_append, List.flatten_append]
  show _ ++ (p.names ++ []) = _
  rw [List.append_nil]
theorem namesAll_len {m : Nat} : ∀ {ps : List Plan}, (∀ p ∈ ps, p.size ≤ m) → (namesAll ps).length ≤ m * ps.length
  | [], _ => Nat.zero_le _
  | p :: ps, h => by
    have h1 := h p (List.mem_cons_self ..)
    have h2 := namesAll_len (ps := ps) fun q hq => h q (List.mem_cons_of_mem _ hq)
    have e : (namesAll (p :: ps)).length = p.size + (namesAll ps).length := by
      unfold namesAll
      rw [List.map_cons, List.flatten_cons, List.length_append, p.names_len]
    rw [e, List.length_cons, Nat.mul_succ]; omega
section
variable {P : Program} {w : World} {K : PySem.W.Frag} {mg : Str → Option Value} {base : Heap} {f : Addr} {fd : FuncData} {c : Cs} {wb : Addr}
variable {cdv : Value} {A : Around} {outer : List Env} {s : Shared} {H0 : Hp} {E : XK}
theorem law_turn (L : LawEnv P w K mg base c wb) (hr : Room 34 (lCx P w K mg base f cdv A outer s H0 E).A) (hg : A.guards = some []) :
    ∃ t, PSs (lCx P w K mg base f cdv A outer s H0 E) lawFor t ∧ ∀ (D : L2.Ends) (H : Hp) (a : Addr) (ns : List Int) (k : Nat) (v2 v3 v4 v5 v6 v7 v8 v9 v10 v11 v12 v13 v14 v15 v16 v17 v18 v19 v20 : Option V),
      SqL K H a (ns.map V.int) → (k < ns.length ∨ ns = []) → k ≤ 2 → (∀ σ' H', Sl a σ' → Stay H H' → D.nx σ' H') →
      t D [some (.ref a), some (.int (k : Nat)), v2, v3, v4, v5, v6, v7, v8, v9, v10, v11, v12, v13, v14, v15, v16, v17, v18, v19, v20] H := by
  have nd := scLaw.nd
  have hb := L.hb
  have hr1 := hr.mono (show 1 ≤ 34 by decide)
  obtain ⟨tB, pB, rB⟩ := law_signs (f := f) (cdv := cdv) (outer := outer) (s := s) (H0 := H0) (E := E) L hr hg
  obtain ⟨tC, pC, rC⟩ := law_end (f := f) (cdv := cdv) (A := A) (outer := outer) (s := s) (H0 := H0) (E := E) L hr
  refine ⟨_, pss_cons (ps_set (i := 2) nd rfl (Or.inl rfl) (pe_dv L.FD hr1 pass0 (pa_cons (pv 0) (pa_cons (pv 1) pa_nil))))
    (pss_cons (ps_par (i := 3) (j := 4) rfl nd rfl rfl (by decide) rfl rfl (pa_cons (pe_dv L.W (hr.mono (by decide)) pass0 (pa_cons (pv 2) (pa_cons pe_int pa_nil))) (pa_cons (pe_dv L.T hr1 pass0 (pa_cons (pv 2) (pa_cons pe_int pa_nil))) pa_nil)) rfl)
    (pss_cons (ps_par (i := 5) (j := 6) rfl nd rfl rfl (by decide) rfl rfl (pa_cons (pe_ix ix_list (pe_lst (pa_cons pe_int (pa_cons pe_int (pa_cons pe_int pa_nil)))) (pv 4) (fun _ _ => rfl)) (pa_cons (pe_dv L.T hr1 pass0 (pa_cons (pv 2) (pa_cons (pe_ix ix_list (pe_lst (pa_cons pe_int (pa_cons pe_int (pa_cons pe_int pa_nil)))) (pv 4) (fun _ _ => rfl)) pa_nil))) pa_nil)) rfl)
    (pss_cons (ps_set (i := 7) nd rfl (Or.inl rfl) (pe_lst pa_nil))
    (pss_cons (ps_for PassesOwn.never rfl (pi_range1 rfl (hb _ (by decide)) (pa_cons pe_int pa_nil)) (pg_name (i := 8) nd rfl (Or.inl rfl))
      (pss_cons (ps_set (i := 9) nd rfl (Or.inl rfl) (pe_op op_add pe_int (pe_dv L.T hr1 pass0 (pa_cons (pv 2) (pa_cons (pe_ix ix_list (pe_lst (pa_cons pe_int (pa_cons pe_int (pa_cons pe_int pa_nil)))) (pv 4) (fun _ _ => rfl)) pa_nil)))))
      (pss_cons (ps_expr (pe_bm PySem.F.plainAttrs_list PySem.F.slot_list_append PySem.F.type_list_append mt_append (pv 7) (pa_cons (pe_dv L.TR (hr.mono (by decide)) pass0 (pa_cons (pv 2) (pa_cons (pv 3) (pa_cons (pv 9) (pa_cons (pv 6) (pa_cons (pv 5) pa_nil)))))) pa_nil)))
      (pss_one (ps_set (i := 6) nd rfl (Or.inl rfl) (pe_ix ix_list (pe_lst (pa_cons (pv 6) (pa_cons (pe_dv L.T hr1 pass0 (pa_cons (pv 2) (pa_cons (pe_op op_add (pv 5) pe_int) pa_nil))) pa_nil)))
        (pe_callTy call_int1 rfl (hb _ (by decide)) (by first | rfl | kernel_rfl) (pa_cons (pe_cmpR op_eq (pe_dv L.T hr1 pass0 (pa_cons (pv 2) (pa_cons pe_int pa_nil))) pe_int (nomark _)) pa_nil)) (fun _ _ => rfl)))))))
    (pss_cons (ps_setLc (i := 10) (own := [("_law_plan", 20)]) (g := gName 20) (tt := tYes) rfl nd rfl rfl (sw_true rfl rfl rfl (by decide +kernel)) (pi_list (pv 7)) (blkOk_by (N := nLaw) (sc := defScope sLaw) (by decide +kernel)) (fun _ _ _ _ _ => pg_name (i := 20) nd rfl (Or.inl rfl)) (fun _ _ _ _ _ => pts_nil)
      (fun _ _ _ _ _ => pe_dv L.LP (hr.mono (by decide)) pass0 (pa_cons (pv 20) (pa_cons pe_bl pa_nil))))
    (pss_cons pB pC)))))), fun D H a ns k v2 v3 v4 v5 v6 v7 v8 v9 v10 v11 v12 v13 v14 v15 v16 v17 v18 v19 v20 ha hk k2 fin => ?_⟩
  refine ⟨_, rfl, _, rfl, a, ns, k, rfl, ha, hk, k2, fun fe H1 nfe g1 hf => ?_⟩
  refine ⟨_, rfl, fe, 20, rfl, hf, .inr rfl, fun tt ws H2 wok g2 ntt htt => ?_⟩
  refine ⟨_, rfl, fe, 3, rfl, g2.at_, by decide, by decide, fun fm H3 f0 f1 g3 => ⟨_, _, rfl, ?_⟩⟩
  obtain ⟨lim, mx, e1, e2, e3, b1, b2, b3, b4, b5⟩ : ∃ lim mx : Int, atI [V.int 2, V.int 9, V.int 1000] fm = some (.int lim) ∧ atI [V.int 3, V.int 10, V.int 1001] fm = some (.int (lim + 1)) ∧ atI [V.int 2, V.int 3, V.int 3] fm = some (.int mx) ∧
      0 ≤ lim ∧ lim ≤ 1000 ∧ 1 ≤ mx ∧ mx ≤ 3 ∧ (decide (V.int fm = V.int 0) = true → lim = 2 ∧ mx = 2) := by
    have : fm = 0 ∨ fm = 1 ∨ fm = 2 := by omega
    rcases this with rfl | rfl | rfl
    · exact ⟨2, 2, rfl, rfl, rfl, by decide, by decide, by decide, by decide, fun _ => ⟨rfl, rfl⟩⟩
    · exact ⟨9, 3, rfl, rfl, rfl, by decide, by decide, by decide, by decide, fun z => absurd z (by decide)⟩
    · exact ⟨1000, 3, rfl, rfl, rfl, by decide, by decide, by decide, by decide, fun z => absurd z (by decide)⟩
  have ttf : tt ≠ fe := fun z => by obtain ⟨_, _, _, e⟩ := hf; rw [← z, ntt] at e; cases e
  have htt3 := g3.kp _ _ ttf htt
  refine ⟨three_le, fun l1 hl1 => ⟨_, rfl, l1, _, _, .int lim, rfl, rfl, SqL.of upd_same, e1, ?_⟩⟩
  have s1 := same_new (o := .lst [.int 2, .int 9, .int 1000]) hl1
  refine ⟨_, rfl, three_le, fun l2 hl2 => ⟨_, rfl, l2, _, _, .int (lim + 1), rfl, rfl, SqL.of upd_same, e2, ?_⟩⟩
  have s2 := same_new (o := .lst [.int 3, .int 10, .int 1001]) hl2
  refine ⟨fe, lim + 1, rfl, (g3.at_.same s1).same s2, by omega, by omega, fun near H4 n0 n1 g4 => ⟨_, _, rfl, ?_⟩⟩
  have htt4 := g4.kp _ _ ttf (s2 _ _ (s1 _ _ htt3))
  refine ⟨by decide, fun Lp hLp => ?_⟩
  have s3 := same_new (o := .lst ([] : List V)) hLp
  have Ltt : Lp ≠ tt := fun z => by rw [z, htt4] at hLp; cases hLp
  have Lf : Lp ≠ fe := fun z => by obtain ⟨_, _, _, e⟩ := g4.at_; rw [← z, hLp] at e; cases e
  have st5 : Stay H (upd H4 Lp (.lst [])) := (((((Stay.of_same g1).trans (Stay.fed hf g2.kp)).trans (Stay.fed g2.at_ g3.kp)).trans (Stay.of_same (s1.trans s2))).trans (Stay.fed ((g3.at_.same s1).same s2) g4.kp)).trans (Stay.of_same s3)
  have pm0 : (namesAll [] ++ ws).Perm ws := List.Perm.refl _
  refine ⟨_, rfl, by decide, by decide, ?_⟩
  refine for_range (n := _) (fun i σ H' => ∃ (u8 u9 : Option V) (nr : Int) (rest : List Str) (qs : List Addr) (ps : List Plan), σ = [some (.ref a), some (.int (k : Nat)), some (.ref fe), some (.ref tt), some (.int fm), some (.int lim), some (.int nr), some (.ref Lp), u8, u9, v10, v11, v12, v13, v14, v15, v16, v17, v18, v19, v20] ∧
      0 ≤ nr ∧ nr ≤ lim ∧ Stay H H' ∧ FeedAt H' fe ∧ H' tt = some (.lst (rest.map V.str)) ∧ H' Lp = some (.lst (qs.map V.ref)) ∧ Paired (fun q p => LPlanAt H' p q) qs ps ∧ ps.length = i ∧ (∀ p ∈ ps, p.ok lim ∧ (p.size : Int) ≤ mx ∧ ∃ s, p.span = some s) ∧ (namesAll ps ++ rest).Perm ws)
    ⟨_, _, near, ws, [], [], rfl, n0, by omega, st5, g4.at_.same s3, s3 _ _ htt4, upd_same, .nil, rfl, (fun _ h => nomatch h), pm0⟩ (fun i σ H' hi ⟨u8, u9, nr, rest, qs, ps, es, r0, r1, st, hf', ht', hL', prs, lp, okps, pm⟩ => ?_) fun σ H' ⟨u8, u9, nr, rest, qs, ps, es, r0, r1, st, hf', ht', hL', prs, lp, okps, pm⟩ => ?_
  · subst es
    have hi : i < 3 := hi
    have lrest : 11 ≤ rest.length := by
      have h1 := pm.length_eq
      rw [List.length_append, wok.len] at h1
      have h2 := namesAll_len (m := 3) (ps := ps) fun p hp => by have := (okps p hp).2.1; omega
      rw [lp] at h2
      omega
    have lq : qs.length = i := (Paired.length prs).trans lp
    refine ⟨_, rfl, three_le, fun l3 hl3 => ⟨_, rfl, l3, _, _, .int mx, rfl, rfl, SqL.of upd_same, e3, ?_⟩⟩
    have s4 := same_new (o := .lst [.int 2, .int 3, .int 3]) hl3
    refine ⟨fe, mx, rfl, hf'.same s4, by omega, by omega, fun d H6 d0 d1 g6 => ⟨_, _, rfl, rfl, ?_⟩⟩
    have ht6 := g6.kp _ _ ttf (s4 _ _ ht')
    have hL6 := g6.kp _ _ Lf (s4 _ _ hL')
    have st6 : Stay H' H6 := (Stay.of_same s4).trans (Stay.fed (hf'.same s4) g6.kp)
    refine ⟨_, rfl, .inl ⟨rfl, _, SqL.of hL6⟩, _, rfl, _, rfl, _, rfl, _, rfl, _, rfl, fe, tt, 1 + d, nr, lim, rest, rfl, g6.at_, ht6, Ne.symm ttf, by omega, by omega, by omega, by omega, r0, r1, b2, fun q p rest' H7 z7 o7 i7 pm7 ht7 hf7 k7 hp7 => ?_⟩
    have hL7 := k7 _ _ Lf Ltt hL6
    have st7 : Stay H6 H7 := K2.stay g6.at_ ht6 k7
    refine ⟨Lp, _, _, rfl, rfl, hL7, by rw [List.length_map, lq, sizeLine_eq]; omega, ?_⟩
    have st8 : Stay H7 (upd H7 Lp (.lst (qs.map V.ref ++ [.ref q]))) := Stay.keep hL7 Keep.put
    have ht8 : (upd H7 Lp (.lst (qs.map V.ref ++ [.ref q]))) tt = some (.lst (rest'.map V.str)) := by rw [upd_ne (Ne.symm Ltt)]; exact ht7
    have hf8 : FeedAt (upd H7 Lp (.lst (qs.map V.ref ++ [.ref q]))) fe := hf7.upd Lf
    have hL8 : (upd H7 Lp (.lst (qs.map V.ref ++ [.ref q]))) Lp = some (.lst (qs.map V.ref ++ [.ref q])) := upd_same
    generalize upd H7 Lp (.lst (qs.map V.ref ++ [.ref q])) = H8 at st8 ht8 hf8 hL8 ⊢
    refine ⟨_, rfl, _, rfl, _, rfl, _, _, rfl, rfl, fe, lim + 1, rfl, hf8, by omega, by omega, fun e H9 x0 x1 g9 => ⟨two_le, fun l4 hl4 => ?_⟩⟩
    have s5 := same_new (o := .lst [.int nr, .int e]) hl4
    have l4f : l4 ≠ fe := fun z => by obtain ⟨_, _, _, e⟩ := g9.at_; rw [← z, hl4] at e; cases e
    refine ⟨_, rfl, fe, 3, rfl, g9.at_.same s5, by decide, by decide, fun d2 HA y0 y1 gA => ⟨rfl, .inr ⟨_, rfl, ?_⟩⟩⟩
    obtain ⟨nr', en, n1', n2'⟩ : ∃ nr' : Int, atI [V.int nr, V.int e] (if decide (V.int d2 = V.int 0) = true then 1 else 0) = some (.int nr') ∧ 0 ≤ nr' ∧ nr' ≤ lim := by
      split
      · exact ⟨e, rfl, x0, by omega⟩
      · exact ⟨nr, rfl, r0, r1⟩
    refine ⟨l4, _, _, .int nr', rfl, rfl, SqL.of (gA.kp _ _ l4f upd_same), en, ?_⟩
    have st9 : Stay H8 HA := ((Stay.fed hf8 g9.kp).trans (Stay.of_same s5)).trans (Stay.fed (g9.at_.same s5) gA.kp)
    have stT : Stay H' HA := ((st6.trans st7).trans st8).trans st9
    refine ⟨_, _, nr', rest', qs ++ [q], ps ++ [p], rfl, n1', n2', st.trans stT, gA.at_, gA.kp _ _ ttf (s5 _ _ (g9.kp _ _ ttf ht8)), ?_, ?_, by rw [List.length_append, lp]; rfl, fun x hx => ?_, ?_⟩
    · rw [List.map_append]; exact gA.kp _ _ Lf (s5 _ _ (g9.kp _ _ Lf hL8))
    · exact Paired.append (Paired.mapP prs fun q p z => z.stay stT) (.cons (hp7.stay (st8.trans st9)) .nil)
    · rcases List.mem_append.mp hx with hx | hx
      · exact okps x hx
      · have : x = p := List.mem_singleton.mp hx
        subst this
        obtain ⟨s', es', _⟩ := i7
        exact ⟨o7, by omega, s', es'⟩
    · rw [namesAll_snoc, List.append_assoc]
      exact (pm7.append_left _).trans pm
  · subst es
    have lp : ps.length = 3 := lp
    have lq : qs.length = 3 := (Paired.length prs).trans lp
    match ps, qs, lp, lq, prs, okps, pm, hL' with
    | [p1, p2, p3], [q1, q2, q3], _, _, prs, okps, pm, hL' =>
      obtain ⟨o1, z1, sp1⟩ := okps p1 (by simp)
      obtain ⟨o2, z2, sp2⟩ := okps p2 (by simp)
      obtain ⟨o3, z3, sp3⟩ := okps p3 (by simp)
      have en : namesAll [p1, p2, p3] = p1.names ++ (p2.names ++ p3.names) := by
        show p1.names ++ (p2.names ++ (p3.names ++ [])) = _
        rw [List.append_nil]
      rw [en] at pm
      have ndA : (p1.names ++ (p2.names ++ p3.names)).Nodup := (pm.nodup_iff.mpr wok.nd).sublist (List.sublist_append_left _ _)
      have nmA : ∀ x ∈ p1.names ++ (p2.names ++ p3.names), NameOk x := fun x hx => wok.ok x (pm.mem_iff.mp (List.mem_append_left _ hx))
      have t3 : Three p1 p2 p3 := ⟨ok_mono b2 o1, ok_mono b2 o2, ok_mono b2 o3, sp1, sp2, sp3, by omega, ndA, nmA⟩
      refine ⟨_, rfl, Lp, rfl, ⟨_, SqL.of hL'⟩, fun S hS => ?_⟩
      have Sf : S ≠ fe := fun z => by obtain ⟨_, _, _, e⟩ := hf'; rw [← z, hS] at e; cases e
      refine lc_list (g := gName 20) (tt := tYes) (te := fun σ H Q => tCons (tVar 20) (tCons (L2.tC (V.bl true)) tNil) σ H fun vs H1 => spLPiece c 3 vs H1 Q E0) (xs := [.ref q1, .ref q2, .ref q3]) (fun i HH => Same H' HH ∧ ∃ bs : List Addr, HH S = some (.lst (bs.map V.ref)) ∧ Paired (fun p b => PieceAt c HH p b) ([p1, p2, p3].take i) bs) ⟨same_new hS, [], upd_same, .nil⟩ (fun i HH _ ⟨g, _⟩ => SqL.of (g _ _ hL')) (fun i x HH hx ⟨g, bs, hbs, prb⟩ => ?_) fun HH ⟨g, bs, hbs, prb⟩ => ?_
      · obtain ⟨q, hq, rfl⟩ := map_get (f := V.ref) (xs := [q1, q2, q3]) hx
        obtain ⟨p, hp1, hp2⟩ := paired_get prs hq
        have mem : p ∈ [p1, p2, p3] := List.mem_of_getElem? hp1
        obtain ⟨o, z, sp, esp⟩ := okps p mem
        have hi : i < 3 := (List.getElem?_eq_some_iff.mp hp1).1
        have nmp : ∀ x ∈ p.names, NameOk x := fun x hx => by
          refine nmA x ?_
          simp only [List.mem_cons, List.not_mem_nil, or_false] at mem
          rcases mem with rfl | rfl | rfl
          · exact List.mem_append_left _ hx
          · exact List.mem_append_right _ (List.mem_append_left _ hx)
          · exact List.mem_append_right _ (List.mem_append_right _ hx)
        refine ⟨rfl, ?_⟩
        rw [tYes_if]
        refine ⟨_, rfl, q, p, sp, lim, rfl, hp2.stay (Stay.of_same g), nmp, o, esp, by omega, by omega, fun b H8 g8 hb8 => ⟨_, g8 _ _ hbs, ?_, same_put (g.trans g8) hS, bs ++ [b], by rw [upd_same, List.map_append]; rfl, ?_⟩⟩
        · have := Paired.length prb
          rw [List.length_take] at this
          rw [List.length_map, sizeLine_eq]; omega
        · have et : [p1, p2, p3].take (i + 1) = [p1, p2, p3].take i ++ [p] := by rw [List.take_add_one, hp1]; rfl
          have stK : Stay H8 (upd H8 S (.lst (bs.map V.ref ++ [.ref b]))) := Stay.keep (g8 _ _ hbs) Keep.put
          rw [et]
          exact Paired.append (Paired.mapP prb fun p b z => (z.stay (Stay.of_same g8)).stay stK) (.cons (hb8.stay stK) .nil)
      · have hfH := hf'.same g
        have stH : Stay H HH := st.trans (Stay.of_same g)
        have prs' := Paired.mapP prs fun q p z => z.stay (Stay.of_same g)
        have hLH := g _ _ hL'
        have prb : Paired (fun p b => PieceAt c HH p b) [p1, p2, p3] bs := prb
        match bs, prs', prb, hbs with
        | [c1, c2, c3], .cons r1 (.cons r2 (.cons r3 .nil)), .cons h1 (.cons h2 (.cons h3 .nil)), hbs =>
          refine rB _ HH a fe Lp S c1 c2 c3 p1 p2 p3 fm _ _ _ _ _ _ _ _ _ _ _ _ _ _ _ _ _ hfH Sf hbs h1 h2 h3 t3 rfl (fun en => ?_) fun z HI w8 w11 w13 gI tz => ?_
          · obtain ⟨y1, y2⟩ := b5 en
            subst y1
            exact ⟨o1, o2, o3, by omega⟩
          · have stI := Stay.fed hfH gI.kp
            exact rC D HI a fe Lp S q1 q2 q3 c1 c2 c3 p1 p2 p3 z _ _ _ _ _ _ _ _ _ _ _ _ _ _ _ _ _ gI.at_ Lf Sf (gI.kp _ _ Lf hLH) (r1.stay stI) (r2.stay stI) (r3.stay stI) (gI.kp _ _ Sf hbs) (h1.stay stI) (h2.stay stI) (h3.stay stI) t3 tz fun σ' HJ sl stJ => fin σ' HJ sl ((stH.trans stI).trans stJ)
end
end Wr
-- WrLaw17
/-! law -/
namespace Wr
open PySem L2
/-- the script: locked, or written -/
def ScrAt (K : PySem.W.Frag) (H : Hp) (a : Addr) (ns : List Int) : Prop := (∃ o, H a = some (.frz o (.lst (ns.map V.int)))) ∨ ∀ H', SqL K H' a (ns.map V.int)
theorem ScrAt.sq {K : PySem.W.Frag} {H : Hp} {a : Addr} {ns : List Int} (h : ScrAt K H a ns) : SqL K H a (ns.map V.int) := by
  rcases h with ⟨o, h⟩ | h
  · exact .inl (.inr ⟨o, h⟩)
  · exact h H
theorem ScrAt.stay {K : PySem.W.Frag} {H H' : Hp} {a : Addr} {ns : List Int} (h : ScrAt K H a ns) (st : Stay H H') : ScrAt K H' a ns := by
  rcases h with ⟨o, h⟩ | h
  · exact .inl ⟨o, st _ _ (fun _ z => nomatch z) h⟩
  · exact .inr h
theorem scrAt_of {K : PySem.W.Frag} {H : Hp} {a : Addr} {ns : List Int} (o : Only H) (h : SqL K H a (ns.map V.int)) : ScrAt K H a ns := by
  rcases h with (h | ⟨o, h⟩) | h
  · rcases o a with q | ⟨o, u, q⟩
    · rw [q] at h; cases h
    · rw [q] at h; cases h
  · exact .inl ⟨o, h⟩
  · exact .inr fun H' => .inr h
section
variable {P : Program} {w : World} {K : PySem.W.Frag} {mg : Str → Option Value} {base : Heap} {f : Addr} {fd : FuncData} {c : Cs} {wb : Addr}
def spLaw (K : PySem.W.Frag) : Sp := fun vs H Q _ => ∃ (a : Addr) (ns : List Int), vs = [.ref a] ∧ ScrAt K H a ns ∧ ns.length ≤ 63 ∧ ∀ H', Q (.bl true) H'
theorem okG_law (L : LawEnv P w K mg base c wb) (F : L2.Fun K "law" "law" sLaw f fd) : FnG P w K mg base 35 f fd ["_law_script"] (spLaw K) := by
  refine fnG_of (k := 34) F scLaw (fun vs H Q E h => ?_) (fun cdv A outer s H vs Q E hr hg h => ?_)
  · obtain ⟨a, ns, rfl, _⟩ := h
    rfl
  · obtain ⟨a, ns, rfl, ha, hn, k⟩ := h
    have nd := scLaw.nd
    have hb := L.hb
    obtain ⟨tT, pT, rT⟩ := law_turn (f := f) (cdv := cdv) (outer := outer) (s := s) (H0 := H) (E := E) L hr hg
    refine ⟨_, pss_cons (ps_for PassesOwn.never rfl (pi_range1 rfl (hb _ (by decide)) (pa_cons (pe_callB (call_max2 rfl) rfl (hb _ (by decide)) (by first | rfl | kernel_rfl) (pa_cons pe_int (pa_cons (pe_callB (call_min2 rfl) rfl (hb _ (by decide)) (by first | rfl | kernel_rfl)
        (pa_cons pe_int (pa_cons (pe_callB call_len rfl (hb _ (by decide)) (by first | rfl | kernel_rfl) (pa_cons (pv 0) pa_nil)) pa_nil))) pa_nil))) pa_nil)) (pg_name (i := 1) nd rfl (Or.inl rfl)) pT)
      (pss_one (ps_ret pe_bl)), ?_⟩
    refine ⟨_, rfl, .ref a, _, rfl, .inl ⟨_, ha.sq, rfl⟩, _, _, rfl, _, _, rfl, ?_⟩
    rw [min_if, max_if, List.length_map]
    refine ⟨_, rfl, by omega, by omega, ?_⟩
    refine for_range (n := _) (fun i σ H' => Sl a σ ∧ Stay H H') ⟨⟨_, _, _, _, _, _, _, _, _, _, _, _, _, _, _, _, _, _, _, _, rfl⟩, Stay.refl H⟩ (fun i σ H' hi ⟨sl, st⟩ => ?_) fun σ H' ⟨sl, st⟩ => k H'
    obtain ⟨v1, v2, v3, v4, v5, v6, v7, v8, v9, v10, v11, v12, v13, v14, v15, v16, v17, v18, v19, v20, rfl⟩ := sl
    have hi : i < (max 1 (min 3 ((ns.length : Nat) : Int))).toNat := hi
    have e0 : (0 + (i : Int)) = ((i : Nat) : Int) := Int.zero_add _
    rw [e0]
    refine rT _ H' a ns i _ _ _ _ _ _ _ _ _ _ _ _ _ _ _ _ _ _ _ (ha.stay st).sq ?_ (by omega) fun σ' HJ sl stJ => ⟨sl, st.trans stJ⟩
    by_cases h : ns.length = 0
    · exact .inr (List.length_eq_zero_iff.mp h)
    · exact .inl (by omega)
end
end Wr
-- WrHead0
/-! the head: which part of the heap is read, what is read of it, what follows -/
namespace Wr
open PySem PySem.Spec PyProof.Rows L2
/-! ### the part -/
def refsW (o : Obj) : List Addr := match o.data with
  | .dict es _ => es.toList.flatMap fun e => He.refV e.val
  | .func fd => He.refV fd.code ++ fd.closure.map (·.2)
  | .cls cd => [cd.ns]
  | .fields vs => match o.cls with
    | .type n => if n = "property" then vs.toList.flatMap He.refV else []
    | _ => []
  | _ => []
def nextW (g : Addr → Option Obj) (as : List Addr) : List Addr := as.flatMap fun a => match g a with
  | some o => refsW o
  | none => []
/-- a list made, then used -/
def frL {α : Type} : List Addr → (List Addr → α) → α
  | [], k => k []
  | a :: as, k => HandSHeadRun.frNat a fun a => frL as fun as => k (a :: as)
theorem frL_eq {α : Type} : ∀ (l : List Addr) (k : List Addr → α), frL l k = k l
  | [], _ => rfl
  | a :: as, k => by
    show HandSHeadRun.frNat a (fun a => frL as fun as => k (a :: as)) = _
    rw [HandSHeadRun.frNat_eq, frL_eq as]
def partW {α : Type} (g : Addr → Option Obj) (k : List Addr → α) : α :=
  frL (nextW g [mainGlobals]) fun l1 => frL (nextW g l1) fun l2 => frL (nextW g l2) fun l3 => frL (nextW g l3) fun l4 => frL (nextW g l4) fun l5 => k (mainGlobals :: cStatics :: (l1 ++ (l2 ++ (l3 ++ (l4 ++ l5)))))
def asW (g : Addr → Option Obj) : List Addr := partW g id
theorem partW_eq {α : Type} (g : Addr → Option Obj) (k : List Addr → α) : partW g k = k (asW g) := by
  unfold asW partW
  simp only [frL_eq]
  rfl
def frF {α : Type} (g : Addr → Option Obj) : List Addr → (PySem.W.Frag → α) → α
  | [], k => k []
  | a :: as, k => match g a with
    | some o => frF g as fun K => k ((a, o) :: K)
    | none => frF g as k
theorem frF_eq {α : Type} (g : Addr → Option Obj) : ∀ (as : List Addr) (k : PySem.W.Frag → α), frF g as k = k (He.frG g as)
  | [], _ => rfl
  | a :: as, k => by
    unfold frF He.frG
    cases e : g a with
    | none =>
      rw [List.filterMap_cons, e]
      exact frF_eq g as k
    | some o =>
      rw [List.filterMap_cons, e]
      exact frF_eq g as fun K => k ((a, o) :: K)
/-! ### functions -/
/-- a def: where, its name, qualified name, its statement, what it closes over -/
structure FnQ where
  adr : PySem.W.Frag → Addr
  name : Str
  qual : Str
  st : Stmt
  clo : List Str := []
abbrev FnVQ : Type := Option (Str × Str × Arguments × FuncBody × Scope × Addr × List Str × Value × Addr)
def fnQ (K : PySem.W.Frag) (a : Addr) : FnVQ := match K.lookup a with
  | some ⟨_, _, .func fd, _⟩ => some (fd.name, fd.qualname, fd.params, fd.body, fd.scope, fd.globals, fd.closure.map (·.1), fd.defaults, fd.builtins)
  | _ => none
def FnQ.val (d : FnQ) : FnVQ := some (d.name, d.qual, defArgs d.st, .stmts (defBody d.st), defScope d.st, mainGlobals, d.clo, .none, builtinsNs)
def fnB (K : PySem.W.Frag) (a : Addr) (q : Str) : Bool := PySem.W.keepIn K (.ref a) && (match K.lookup a with
  | some ⟨_, _, .func fd, _⟩ => PySem.W.codeIn K fd.code q
  | _ => false)
theorem fnQ_ok {K : PySem.W.Frag} {d : FnQ} (e : fnQ K (d.adr K) = d.val) (c : fnB K (d.adr K) d.qual = true) :
    ∃ oc od osl cl kV doc pm an cdv ct, cl.map (·.1) = d.clo ∧ K.lookup (d.adr K) = some ⟨oc, od, .func (PySem.W.fnX d.name d.qual (defArgs d.st) (defBody d.st) (defScope d.st) cl .none kV doc pm an cdv ct), osl⟩ ∧ PySem.W.codeIn K cdv d.qual = true ∧ PySem.W.keepIn K (.ref (d.adr K)) = true := by
  obtain ⟨c1, c2⟩ := He.ba c
  unfold fnQ at e
  cases q : K.lookup (d.adr K) with
  | none =>
    rw [q] at c2
    cases c2
  | some o =>
    obtain ⟨oc, od, dt, osl⟩ := o
    rw [q] at c2 e
    cases dt with
    | func fd =>
      obtain ⟨n1, n2, n3, n4, n5, n6, n7, n8, n9, n10, n11, n12, n13, n14, n15⟩ := fd
      have e2 : (some (n1, n2, n3, n4, n5, n6, n7.map (·.1), n8, n15) : FnVQ) = some (d.name, d.qual, defArgs d.st, .stmts (defBody d.st), defScope d.st, mainGlobals, d.clo, .none, builtinsNs) := e
      simp only [Option.some.injEq, Prod.mk.injEq] at e2
      obtain ⟨h1, h2, h3, h4, h5, h6, h7, h8, h9⟩ := e2
      subst h1 h2 h3 h4 h5 h6 h8 h9
      exact ⟨oc, od, osl, n7, n9, n10, n11, n12, n13, n14, h7, rfl, c2, c1⟩
    | _ => cases c2
theorem fun_of {K : PySem.W.Frag} {d : FnQ} (e : fnQ K (d.adr K) = d.val) (c : fnB K (d.adr K) d.qual = true) (h : d.clo = []) : ∃ fd, L2.Fun K d.name d.qual d.st (d.adr K) fd := by
  obtain ⟨oc, od, osl, cl, kV, doc, pm, an, cdv, ct, hc, lk, cd, kp⟩ := fnQ_ok e c
  rw [h] at hc
  have : cl = [] := List.map_eq_nil_iff.mp hc
  subst this
  exact ⟨_, ⟨oc, od, kV, doc, pm, an, cdv, ct, osl, rfl, lk, cd⟩, kp⟩
/-! ### an __init__ over another -/
def codA (K : PySem.W.Frag) (a : Addr) : Addr := match K.lookup a with
  | some ⟨_, _, .func fd, _⟩ => (match fd.code with
    | .ref c => c
    | _ => 0)
  | _ => 0
def celA (K : PySem.W.Frag) (a : Addr) : Addr := match K.lookup a with
  | some ⟨_, _, .func fd, _⟩ => (match fd.closure with
    | [(_, cc)] => cc
    | _ => 0)
  | _ => 0
def fileS : Str := PySem.Challenge.pw_wayround_k62_whole_pieces_regrouped.main.file
def isFile (o : Option Obj) : Bool := match o with
  | some ⟨_, _, .fields vs, _⟩ => (match vs[2]? with
    | some (Value.str z _) => fileS == z
    | _ => false)
  | _ => false
def isCellOf (o : Option Obj) (D : Addr) : Bool := match o with
  | some ⟨_, _, .cell (some (.ref b)), _⟩ => decide (b = D)
  | _ => false
/-- its record: nothing by keyword, nothing annotated, its code, its cell -/
def isNon (v : Value) : Bool := match v with
  | .none => true
  | _ => false
def isRef (v : Value) : Bool := match v with
  | .ref _ => true
  | _ => false
def recB (o : Option Obj) : Bool := match o with
  | some ⟨_, _, .func fd, _⟩ => isNon fd.kwdefaults && (fd.annotations.isNone && isRef fd.code)
  | _ => false
def supB (K : PySem.W.Frag) (a D : Addr) : Bool := recB (K.lookup a) && (isFile (K.lookup (codA K a)) && isCellOf (K.lookup (celA K a)) D)
theorem sup_ok {K : PySem.W.Frag} {d : FnQ} {D : Addr} (e : fnQ K (d.adr K) = d.val) (c : fnB K (d.adr K) d.qual = true) (hcl : d.clo = (["__class__"] : List Str)) (s : supB K (d.adr K) D = true) :
    ∃ doc pm ct, (∃ oc od osl, K.lookup (d.adr K) = some ⟨oc, od, .func (PySem.W.fnX d.name d.qual (defArgs d.st) (defBody d.st) (defScope d.st) [("__class__", celA K (d.adr K))] .none .none doc pm none (.ref (codA K (d.adr K))) ct), osl⟩) ∧ PySem.W.codeIn K (.ref (codA K (d.adr K))) d.qual = true ∧
      (∃ ccl cdd vs ccs z t, K.lookup (codA K (d.adr K)) = some ⟨ccl, cdd, .fields vs, ccs⟩ ∧ vs[2]? = some (.str z t) ∧ (fileS == z) = true) ∧ ∃ cl cld csl, K.lookup (celA K (d.adr K)) = some ⟨cl, cld, .cell (some (.ref D)), csl⟩ := by
  obtain ⟨oc, od, osl, cl, kV, doc, pm, an, cdv, ct, hc, lk, cd, kp⟩ := fnQ_ok e c
  obtain ⟨s1, s⟩ := He.ba s
  obtain ⟨s2, s3⟩ := He.ba s
  rw [lk] at s1
  rw [hcl] at hc
  obtain ⟨cc, rfl⟩ : ∃ cc, cl = [(("__class__" : Str), cc)] := by
    match cl, hc with
    | [(x, cc)], hc =>
      have : x = "__class__" := by injection hc
      exact ⟨cc, by rw [this]⟩
  have s1 : (isNon kV && (an.isNone && isRef cdv)) = true := s1
  obtain ⟨x1, s1⟩ := He.ba s1
  obtain ⟨x2, x3⟩ := He.ba s1
  obtain rfl : kV = .none := by
    cases kV <;> first | rfl | cases x1
  obtain rfl : an = none := by
    cases an with
    | none => rfl
    | some _ => cases x2
  obtain ⟨c0, rfl⟩ : ∃ c0, cdv = .ref c0 := by
    cases cdv <;> first | exact ⟨_, rfl⟩ | cases x3
  have e1 : codA K (d.adr K) = c0 := by unfold codA; rw [lk]
  have e2 : celA K (d.adr K) = cc := by unfold celA; rw [lk]
  rw [e1] at s2 ⊢
  rw [e2] at s3 ⊢
  refine ⟨doc, pm, ct, ⟨oc, od, osl, lk⟩, cd, ?_, ?_⟩
  · unfold isFile at s2
    split at s2
    · rename_i vs _ ho
      split at s2
      · rename_i z t hv
        exact ⟨_, _, _, _, z, t, ho, hv, s2⟩
      · cases s2
    · cases s2
  · unfold isCellOf at s3
    split at s3
    · rename_i b _ ho
      have : b = D := of_decide_eq_true s3
      subst this
      exact ⟨_, _, _, ho⟩
    · cases s3
/-- what is asked of the class -/
def upB (K : PySem.W.Frag) (D f2 : Addr) : Bool := He.eqO (PySem.W.nsIn K mainGlobals "super") (some none) && (He.eqO (PySem.W.nsIn K cStatics "thirdparty.any") (some none) && ((PySem.W.clsIn K D).isSome && (decide (PySem.W.mroIn K D (.ref D) = some true) &&
  (He.eqO (PySem.W.ks_superIn K D D "__init__") (some (some (.ref f2))) && (decide (PySem.W.typeIn K (.ref f2) = some (.type "function")) && PySem.W.fnIn K f2)))))
theorem supTxt_of {K : PySem.W.Frag} {P : Program} {d : FnQ} {D f2 : Addr} (hP : P.main.file = fileS) (hT : (P.main.scope.names.lookup ("super" : Str)).isSome = false) (hn : d.name = "__init__") (e : fnQ K (d.adr K) = d.val) (c : fnB K (d.adr K) d.qual = true) (hcl : d.clo = (["__class__"] : List Str)) (s : supB K (d.adr K) D = true) (u : upB K D f2 = true) :
    ∃ fd, SupTxt K P (d.adr K) d.qual d.st D f2 fd (codA K (d.adr K)) (celA K (d.adr K)) := by
  obtain ⟨doc, pm, ct, lk, cd, fl, cel⟩ := sup_ok e c hcl s
  obtain ⟨u1, u⟩ := He.ba u
  obtain ⟨u2, u⟩ := He.ba u
  obtain ⟨u3, u⟩ := He.ba u
  obtain ⟨u4, u⟩ := He.ba u
  obtain ⟨u5, u⟩ := He.ba u
  obtain ⟨u6, u7⟩ := He.ba u
  rw [hn] at lk
  exact ⟨_, ⟨⟨doc, pm, ct, rfl⟩, lk, cd, by rw [hP]; exact fl, cel, He.eqO_ok u1, He.eqO_ok u2, u3, of_decide_eq_true u4, He.eqO_ok u5, of_decide_eq_true u6, u7, hT⟩⟩
/-! ### the error -/
def errB (K : PySem.W.Frag) (C f : Addr) (n1 n2 : Str) : Bool := (match K.lookup C with
  | some ⟨.type "type", _, .cls cd, sl⟩ => (match cd.mro, sl.toList with
    | .ref C' :: bm, [_, _, _, _, some (.builtin n), _] => decide (C' = C) && (decide (n = "ValueError.__new__") && (cd.hasDict && (!cd.hasDel && PySem.HandSPX.refsVE bm)))
    | _, _ => false)
  | _ => false) && (He.eqO (PySem.W.nsIn K mainGlobals "super") (some none) && (He.eqO (PySem.W.nsIn K cStatics "thirdparty.any") (some none) && (decide (PySem.W.mroIn K C (.ref C) = some true) &&
  (He.eqO (PySem.W.ks_superIn K C C "__init__") (some (some (.builtin "ValueError.__init__"))) && (He.eqO (PySem.W.findIn K (.ref C) "__setattr__") (some (some (.builtin "object.__setattr__"))) &&
  (He.eqO (PySem.W.findIn K (.ref C) n1) (some none) && (He.eqO (PySem.W.findIn K (.ref C) n2) (some none) && (He.eqO (PySem.W.findIn K (.ref C) "__init__") (some (some (.ref f))) && (decide (PySem.W.typeIn K (.ref f) = some (.type "function")) &&
  (PySem.W.keepIn K (.ref C) && (decide (PySem.W.subIn K (.ref C) (.type "BaseException") = some true) && (decide (PySem.W.subIn K (.ref C) (.type "ValueError") = some true) && (decide (PySem.W.typeIn K (.ref C) = some (.type "type")) && decide (PySem.W.exmOne K (.ref C) (.ref C) = some true))))))))))))))
theorem errTxt_of {K : PySem.W.Frag} {P : Program} {d : FnQ} {C : Addr} {n1 n2 : Str} (hP : P.main.file = fileS) (hT : (P.main.scope.names.lookup ("super" : Str)).isSome = false) (hn : d.name = "__init__") (e : fnQ K (d.adr K) = d.val) (c : fnB K (d.adr K) d.qual = true) (hcl : d.clo = (["__class__"] : List Str)) (s : supB K (d.adr K) C = true) (u : errB K C (d.adr K) n1 n2 = true) :
    ErrTxt K P d.qual n1 n2 d.st C (d.adr K) (codA K (d.adr K)) (celA K (d.adr K)) := by
  obtain ⟨doc, pm, ct, ⟨oc, od, osl, lk⟩, cd, fl, cel⟩ := sup_ok e c hcl s
  obtain ⟨u0, u⟩ := He.ba u
  obtain ⟨u1, u⟩ := He.ba u
  obtain ⟨u2, u⟩ := He.ba u
  obtain ⟨u3, u⟩ := He.ba u
  obtain ⟨u4, u⟩ := He.ba u
  obtain ⟨u5, u⟩ := He.ba u
  obtain ⟨u6, u⟩ := He.ba u
  obtain ⟨u7, u⟩ := He.ba u
  obtain ⟨u8, u⟩ := He.ba u
  obtain ⟨u9, u⟩ := He.ba u
  obtain ⟨u10, u⟩ := He.ba u
  obtain ⟨u11, u⟩ := He.ba u
  obtain ⟨u12, u⟩ := He.ba u
  obtain ⟨u13, u14⟩ := He.ba u
  rw [hn] at lk
  refine ⟨?_, ⟨oc, ct, doc, pm, od, osl, lk⟩, cd, by rw [hP]; exact fl, cel, He.eqO_ok u1, He.eqO_ok u2, of_decide_eq_true u3, He.eqO_ok u4, hT, He.eqO_ok u5, He.eqO_ok u6, He.eqO_ok u7, He.eqO_ok u8, of_decide_eq_true u9, u10, of_decide_eq_true u11, of_decide_eq_true u12, of_decide_eq_true u13, of_decide_eq_true u14⟩
  split at u0
  · rename_i dd cd' sl ho
    split at u0
    · rename_i C' bm k0 k1 k2 k3 n k5 hm hs
      obtain ⟨a1, u0⟩ := He.ba u0
      obtain ⟨a2, u0⟩ := He.ba u0
      obtain ⟨a3, u0⟩ := He.ba u0
      obtain ⟨a4, a5⟩ := He.ba u0
      have a1 : C' = C := of_decide_eq_true a1
      have a2 : n = "ValueError.__new__" := of_decide_eq_true a2
      have b4 : cd'.hasDel = false := by simpa using a4
      obtain ⟨nm, bs, mro, ns, qn, hd, sn, sub, ab, col, del⟩ := cd'
      clear a4
      dsimp only at hm a3 b4
      subst hm a1 a2 a3 b4
      have hsl : sl = #[k0, k1, k2, k3, some (.builtin "ValueError.__new__"), k5] := by
        obtain ⟨l⟩ := sl
        simp only at hs
        rw [hs]
      subst hsl
      exact ⟨nm, qn, ns, bs, bm, sn, sub, ab, col, dd, k0, k1, k2, k3, k5, ho, a5⟩
    · cases u0
  · cases u0
/-! ### operators, properties -/
def numB (K : PySem.W.Frag) (op : Operator) (C : Addr) (m : Str) : Bool := PySem.W.selfFirst K C && (He.eqO (PySem.W.findIn K (.ref C) (PySem.dunder op.info.2)) (some (some (.ref (He.ma K C m)))) && (PySem.W.isFn K (.ref (He.ma K C m)) && He.eqO (PySem.W.findIn K (.ref C) (PySem.dunderR op.info.2)) (some none)))
theorem numOp_ok {K : PySem.W.Frag} {op : Operator} {C : Addr} {m : Str} (h : numB K op C m = true) : NumOp K op C (He.ma K C m) := by
  obtain ⟨h1, h⟩ := He.ba h
  obtain ⟨h2, h⟩ := He.ba h
  obtain ⟨h3, h4⟩ := He.ba h
  exact ⟨h1, He.eqO_ok h2, h3, He.eqO_ok h4⟩
def propA (K : PySem.W.Frag) (C : Addr) (x : Str) : Addr := match PySem.W.findIn K (.ref C) x with
  | some (some (.ref p)) => p
  | _ => 0
def getA (K : PySem.W.Frag) (C : Addr) (x : Str) : Addr := match PySem.W.recIn K (propA K C x) "property" with
  | some (.ref g :: _) => g
  | _ => 0
def propB (K : PySem.W.Frag) (C : Addr) (x : Str) : Bool := He.eqO (PySem.W.findIn K (.ref C) x) (some (some (.ref (propA K C x)))) && (He.eqO (PySem.W.specialIn K (.ref (propA K C x)) "__get__") (some (some (.builtin "property.__get__"))) && (decide (PySem.W.takesIn K (.ref (propA K C x)) = some true) &&
  (match PySem.W.recIn K (propA K C x) "property" with
    | some (.ref _ :: _) => true
    | _ => false)))
theorem prop_ok {K : PySem.W.Frag} {C : Addr} {x : Str} (h : propB K C x = true) : PropOf K C x (propA K C x) (getA K C x) := by
  obtain ⟨h1, h⟩ := He.ba h
  obtain ⟨h2, h⟩ := He.ba h
  obtain ⟨h3, h4⟩ := He.ba h
  refine ⟨He.eqO_ok h1, He.eqO_ok h2, of_decide_eq_true h3, ?_⟩
  split at h4
  · rename_i g r e
    exact ⟨r, by unfold getA; rw [e]⟩
  · cases h4
end Wr
-- WrHead1
/-! the facts of the text; what the law needs, from them -/
namespace Wr
open PySem PySem.Spec PyProof.Rows L2
def gfn (x : Str) (i : Nat) : FnQ := ⟨fun K => He.ga K x, x, x, top i, []⟩
def mfn (C m qual : Str) (st : Stmt) (clo : List Str := []) : FnQ := ⟨fun K => He.ma K (He.ga K C) m, m, qual, st, clo⟩
def pfn (C x qual : Str) (st : Stmt) : FnQ := ⟨fun K => getA K (He.ga K C) x, x, qual, st, []⟩
def fnsA : List FnQ := [gfn "need_posts" 15, gfn "need_pair" 16, gfn "is_whole" 31, gfn "is_name" 32, gfn "is_tie" 42, gfn "has_form" 43, gfn "check_names" 44, gfn "check_tie" 45, gfn "check_web" 46, gfn "flipped" 57, gfn "bundled" 58, gfn "chained" 59, gfn "edge_from" 60, gfn "tree_between" 61, gfn "built" 62, gfn "piece_of" 63]
def fnsB : List FnQ := [gfn "_law_feed" 65, gfn "_law_take" 66, gfn "_law_mixed" 67, gfn "_law_words" 68, gfn "_law_bounds" 69, gfn "_law_tree" 70, gfn "_law_written" 71, gfn "_law_piece" 72, gfn "_law_laid" 73, gfn "_law_ends" 74, gfn "_law_disguised" 75, gfn "_law_joined" 76, gfn "_law_told" 77, gfn "law" 78]
def fnsC : List FnQ := [mfn "Span" "__init__" "Span.__init__" (mth 36 0), mfn "Span" "__add__" "Span.__add__" (mth 36 7), mfn "Span" "__and__" "Span.__and__" (mth 36 10), mfn "Span" "__str__" "Span.__str__" (mth 36 15), mfn "Span" "wholes" "Span.wholes" (mth 36 18), mfn "Web" "__init__" "Web.__init__" (mth 49 0), mfn "Piece" "__init__" "Piece.__init__" (mth 53 0),
  mfn "Tie" "__add__" "Piece.__add__" (mth 53 3), mfn "Chain" "__add__" "Piece.__add__" (mth 53 3), mfn "Bundle" "__add__" "Piece.__add__" (mth 53 3), mfn "Tie" "__and__" "Piece.__and__" (mth 53 4), mfn "Chain" "__and__" "Piece.__and__" (mth 53 4), mfn "Bundle" "__and__" "Piece.__and__" (mth 53 4),
  mfn "Tie" "counts" "Piece.counts" (mth 53 7), mfn "Chain" "counts" "Piece.counts" (mth 53 7), mfn "Bundle" "counts" "Piece.counts" (mth 53 7)]
def fnsD : List FnQ := [mfn "Tie" "tally" "Tie.tally" (mth 54 4), mfn "Chain" "tally" "Chain.tally" (mth 55 4), mfn "Bundle" "tally" "Bundle.tally" (mth 56 4),
  mfn "Tie" "__init__" "Tie.__init__" (mth 54 0) ["__class__"], mfn "Chain" "__init__" "Chain.__init__" (mth 55 0) ["__class__"], mfn "Bundle" "__init__" "Bundle.__init__" (mth 56 0) ["__class__"], mfn "Snapped" "__init__" "Snapped.__init__" (mth 4 0) ["__class__"],
  pfn "Span" "least" "Span.least" (mth 36 4), pfn "Span" "greatest" "Span.greatest" (mth 36 5), pfn "Web" "posts" "Web.posts" (mth 49 3), pfn "Web" "ties" "Web.ties" (mth 49 4), pfn "Tie" "span" "Piece.span" (mth 53 1), pfn "Chain" "span" "Piece.span" (mth 53 1), pfn "Bundle" "span" "Piece.span" (mth 53 1)]
def fnsW : List FnQ := fnsA ++ (fnsB ++ (fnsC ++ fnsD))
def faA : List He.Fa := [.str "LETTERS" letters, .str "DIGITS" digits, .int "LONGEST" 6, .str "DOTS" "..", .str "IN_ROW" "+", .str "BESIDE" "&", .cls "Span", .cls "Web", .cls "Tie", .cls "Chain", .cls "Bundle", .mkr "Span", .mkr "Web", .mkr "Tie", .mkr "Chain", .mkr "Bundle",
  .glo "Span", .glo "Web", .glo "Tie", .glo "Chain", .glo "Bundle", .glo "Snapped", .noat "Span" "low", .noat "Span" "high", .noat "Web" "places", .noat "Web" "bonds"]
def faP (x : Str) : List He.Fa := [.noat x "bounds", .noat x "order", .noat x "joints", .noat x "name", .noat x "left", .noat x "right", .meth x "tally", .meth x "counts"]
def faM : List He.Fa := [.meth "Span" "wholes", .meth "Span" "__str__"]
def restB (K : PySem.W.Frag) : List Bool := [
  numB K .Add (He.ga K "Span") "__add__", numB K .BitAnd (He.ga K "Span") "__and__", numB K .Add (He.ga K "Tie") "__add__", numB K .Add (He.ga K "Chain") "__add__", numB K .Add (He.ga K "Bundle") "__add__", numB K .BitAnd (He.ga K "Tie") "__and__", numB K .BitAnd (He.ga K "Chain") "__and__", numB K .BitAnd (He.ga K "Bundle") "__and__",
  decide (PySem.W.subIn K (.ref (He.ga K "Tie")) (.ref (He.ga K "Chain")) = some false), decide (PySem.W.subIn K (.ref (He.ga K "Tie")) (.ref (He.ga K "Bundle")) = some false), decide (PySem.W.subIn K (.ref (He.ga K "Chain")) (.ref (He.ga K "Tie")) = some false), decide (PySem.W.subIn K (.ref (He.ga K "Chain")) (.ref (He.ga K "Bundle")) = some false),
  decide (PySem.W.subIn K (.ref (He.ga K "Bundle")) (.ref (He.ga K "Tie")) = some false), decide (PySem.W.subIn K (.ref (He.ga K "Bundle")) (.ref (He.ga K "Chain")) = some false),
  !(Nat.beq (He.ga K "Tie") (He.ga K "Chain")), !(Nat.beq (He.ga K "Tie") (He.ga K "Bundle")), !(Nat.beq (He.ga K "Chain") (He.ga K "Bundle")),
  propB K (He.ga K "Span") "least", propB K (He.ga K "Span") "greatest", propB K (He.ga K "Web") "posts", propB K (He.ga K "Web") "ties", propB K (He.ga K "Tie") "span", propB K (He.ga K "Chain") "span", propB K (He.ga K "Bundle") "span",
  supB K (He.ma K (He.ga K "Tie") "__init__") (He.ga K "Tie"), supB K (He.ma K (He.ga K "Chain") "__init__") (He.ga K "Chain"), supB K (He.ma K (He.ga K "Bundle") "__init__") (He.ga K "Bundle"), supB K (He.ma K (He.ga K "Snapped") "__init__") (He.ga K "Snapped"),
  upB K (He.ga K "Tie") (He.ma K (He.ga K "Piece") "__init__"), upB K (He.ga K "Chain") (He.ma K (He.ga K "Piece") "__init__"), upB K (He.ga K "Bundle") (He.ma K (He.ga K "Piece") "__init__"), errB K (He.ga K "Snapped") (He.ma K (He.ga K "Snapped") "__init__") "low" "high"]
abbrev AlW : Type := Bool × List FnVQ
def obsK (K : PySem.W.Frag) : AlW := (((blts.all fun x => (He.Fa.free x).ok K) && ((faA.all fun f => f.ok K) && ((((faP "Tie").all fun f => f.ok K) && (((faP "Chain").all fun f => f.ok K) && ((faP "Bundle").all fun f => f.ok K))) && ((faM.all fun f => f.ok K) && ((fnsW.all fun d => fnB K (d.adr K) d.qual) && (((fnsA ++ fnsB).all fun d => (He.Fa.glo d.name).ok K) && ((restB K).all id))))))), fnsW.map fun d => fnQ K (d.adr K))
def valK : AlW := (true, fnsW.map FnQ.val)
def obsW (g : Addr → Option Obj) : AlW := partW g fun as => frF g as obsK
theorem obsW_eq (g : Addr → Option Obj) : obsW g = obsK (He.frG g (asW g)) := by
  unfold obsW
  rw [partW_eq, frF_eq]
def hookW : PySem.W.Hook where
  α := AlW
  obs := fun s => obsW s.heap.get?
  val := fun _ => valK
  says := fun _ h => ∃ K : PySem.W.Frag, K.In h ∧ obsK K = valK
  of := fun _ s e => ⟨He.frG s.heap.get? (asW s.heap.get?), He.frG_in, (obsW_eq _).symm.trans e⟩
  keeps := fun _ _ _ ⟨K, hK, c⟩ k => ⟨K, PySem.W.Frag.In.keeps hK k, c⟩
theorem all_at {l : List Bool} (h : l.all id = true) (i : Nat) {b : Bool} (e : l[i]? = some b := by rfl) : b = true := List.all_eq_true.mp h b (List.mem_of_getElem? e)
theorem fa_at {K : PySem.W.Frag} {l : List He.Fa} (h : (l.all fun f => f.ok K) = true) (i : Nat) {f : He.Fa} (e : l[i]? = some f := by rfl) : f.ok K = true := List.all_eq_true.mp h f (List.mem_of_getElem? e)
theorem fn_at {K : PySem.W.Frag} (c : obsK K = valK) (i : Nat) {d : FnQ} (h : fnsW[i]? = some d := by rfl) : fnQ K (d.adr K) = d.val := by
  have e : fnsW.map (fun d => fnQ K (d.adr K)) = fnsW.map FnQ.val := congrArg (fun z : AlW => z.2) c
  have e2 : (fnsW.map fun d => fnQ K (d.adr K))[i]? = (fnsW.map FnQ.val)[i]? := by rw [e]
  rw [List.getElem?_map, List.getElem?_map, h] at e2
  exact Option.some.inj e2
section
variable {P : Program} {w : World} {K : PySem.W.Frag} {mg : Str → Option Value} {base : Heap} {f : Addr} {fd : FuncData} {c : Cs}
theorem getter_ok {x q fld : Str} {st : Stmt} {C : Addr} {p1 p2 p3 : Pos} (F : L2.Fun K x q st f fd) (S : FnScope ["self"] ["self"] (defScope st)) (hb : defBody st = [.Return (some (.Attribute (.Name "self" p1) fld p2)) p3]) (c : Cls K C) (n : NoAttr K C fld) : FnOk P w K mg base CX0 1 f fd ["self"] (getSp C fld) := by
  obtain ⟨oc, od, kV, doc, pm, an, cdv, ct, osl, rfl, lk, hcd⟩ := F.ex
  exact fn_getter (k := 0) lk hcd S rfl hb c n
theorem dvOf {CX : CXT} {k : Nat} {x q y : Str} {st : Stmt} {ps : List Str} {sp : Sp} (F : L2.Fun K y q st f fd) (hm : mg x = some (.ref f)) (ok : FnOk P w K mg base CX k f fd ps sp) (b : Binds K fd ps []) : Dv P w K mg base CX k x ps sp := ⟨f, fd, ok, hm, F.kp, b⟩
theorem binds_sup {q : Str} {st : Stmt} {D f2 c0 cc : Addr} {ps : List Str} (T : SupTxt K P f q st D f2 fd c0 cc) (h : ∀ (doc pm ct : Value) (us : List Value), us.length = ps.length → bindArgs (PySem.W.fnX "__init__" q (defArgs st) (defBody st) (defScope st) [("__class__", cc)] .none .none doc pm none (.ref c0) ct) ⟨us, []⟩ = pure (ps.zip us)) : Binds K fd ps [] := by
  obtain ⟨doc, pm, ct, rfl⟩ := T.isFd
  exact .all (h doc pm ct)
end
end Wr
-- WrHead2
set_option maxHeartbeats 0
/-! the kernel's run of the top, and what it shows -/
namespace Wr
open PySem PySem.W PySem.Calls PyProof.Rows
abbrev R : OpenRow := OpenLaw.row PySem.Challenge.rw_wayround_k62_whole_pieces_regrouped
abbrev qv : Program := view R.prog [78]
def names0 : List PySem.Str := ["_wall", "WayroundError", "InvalidSpan", "Snapped", "InvalidText", "InvalidWeb", "SamePost", "Unclosed", "Apart", "Outside", "NotPiece", "UnknownPost", "UnknownTie", "need_posts", "need_pair", "steps_of", "tree_from", "lengths_from", "all_lengths", "way_between", "obstacle_of", "need_closed", "least_between", "bounds_between", "LETTERS", "DIGITS", "LONGEST", "MOST_DIGITS", "is_whole", "is_name"]
def names1 : List PySem.Str := ["number_of", "DOTS", "Span", "span_between", "POSTS", "TIE", "is_tie", "has_form", "check_names", "check_tie", "check_web", "span_of", "read_tie", "Web", "IN_ROW", "BESIDE", "Piece", "Tie", "Chain", "Bundle", "flipped", "bundled", "chained", "edge_from", "tree_between", "built", "piece_of", "_law_feed", "_law_take", "_law_mixed"]
def names2 : List PySem.Str := ["_law_words", "_law_bounds", "_law_tree", "_law_written", "_law_piece", "_law_laid", "_law_ends", "_law_disguised", "_law_joined", "_law_told"]
def names : List PySem.Str := names0 ++ names1 ++ names2
def obW (s : SharedT) : AlW := obsW (HandSHeadRun.getT s)
theorem obW_eq (s : SharedT) : obW s = hookW.obs s.abs := by
  show obsW (HandSHeadRun.getT s) = obsW s.abs.heap.get?
  rw [show HandSHeadRun.getT s = s.abs.heap.get? from funext (HandSHeadRun.getT_eq s)]
theorem run (w : World) : HandSHeadRun.RunEq R qv hookW obW 12000 names w := by
  intro os
  kernel_rfl
end Wr
-- WrHead3
/-! what the law needs, from the facts -/
namespace Wr
open PySem PySem.Spec PyProof.Rows L2
def csK (K : PySem.W.Frag) : Cs := ⟨He.ga K "Span", He.ga K "Tie", He.ga K "Chain", He.ga K "Bundle", He.ga K "Snapped"⟩
theorem bne_ok {a b : Addr} (h : (!(Nat.beq a b)) = true) : a ≠ b := fun e => by
  rw [e, Nat.beq_refl] at h
  cases h
section
variable {P : Program} {w : World} {K : PySem.W.Frag} {mg : Str → Option Value} {base h : Heap}
theorem pcC_of {x : Str} (a : (He.Fa.cls x).ok K = true) (l : ((faP x).all fun f => f.ok K) = true) : PcC K (He.ga K x) :=
  ⟨He.cls_ok a, He.noat_ok (fa_at l 0 rfl), He.noat_ok (fa_at l 1 rfl), He.noat_ok (fa_at l 2 rfl), He.noat_ok (fa_at l 3 rfl), He.noat_ok (fa_at l 4 rfl), He.noat_ok (fa_at l 5 rfl)⟩
theorem env_of (hP : P.main.file = fileS) (hT : (P.main.scope.names.lookup ("super" : Str)).isSome = false) (X : K.In h) (G : h.Ns mainGlobals mg) (cc : obsK K = valK) :
    LawEnv P w K mg base (csK K) (He.ga K "Web") ∧ ∃ fd, L2.Fun K "law" "law" sLaw (He.ga K "law") fd ∧ mg "law" = some (.ref (He.ga K "law")) := by
  have c1 : ((blts.all fun x => (He.Fa.free x).ok K) && ((faA.all fun f => f.ok K) && ((((faP "Tie").all fun f => f.ok K) && (((faP "Chain").all fun f => f.ok K) && ((faP "Bundle").all fun f => f.ok K))) && ((faM.all fun f => f.ok K) && ((fnsW.all fun d => fnB K (d.adr K) d.qual) && (((fnsA ++ fnsB).all fun d => (He.Fa.glo d.name).ok K) && ((restB K).all id))))))) = true := congrArg (fun z : AlW => z.1) cc
  obtain ⟨cB, c1⟩ := He.ba c1
  obtain ⟨cA, c1⟩ := He.ba c1
  obtain ⟨cP, c1⟩ := He.ba c1
  obtain ⟨cPt, cP⟩ := He.ba cP
  obtain ⟨cPc, cPb⟩ := He.ba cP
  obtain ⟨cM, c1⟩ := He.ba c1
  obtain ⟨cF, c1⟩ := He.ba c1
  obtain ⟨cG, cR⟩ := He.ba c1
  have hb : ∀ x ∈ blts, mg x = none := fun x hx => He.free_ok X G (List.all_eq_true.mp cB x hx)
  have fnb : ∀ (i : Nat) {d : FnQ}, fnsW[i]? = some d → fnB K (d.adr K) d.qual = true := fun i {d} e => List.all_eq_true.mp cF d (List.mem_of_getElem? e)
  have glb : ∀ (i : Nat) {d : FnQ}, (fnsA ++ fnsB)[i]? = some d → mg d.name = some (.ref (He.ga K d.name)) := fun i {d} e => He.glo_ok X G (List.all_eq_true.mp cG d (List.mem_of_getElem? e))
  have fun_ : ∀ (i : Nat) {d : FnQ}, fnsW[i]? = some d → d.clo = [] → ∃ fd, L2.Fun K d.name d.qual d.st (d.adr K) fd := fun i {d} e h0 => fun_of (fn_at cc i e) (fnb i e) h0
  -- constants
  obtain ⟨tL, gLet⟩ := He.str_ok X G (fa_at cA 0 (f := .str "LETTERS" letters) rfl)
  obtain ⟨tD, gDig⟩ := He.str_ok X G (fa_at cA 1 (f := .str "DIGITS" digits) rfl)
  obtain ⟨tN, gLon⟩ := He.int_ok X G (fa_at cA 2 (f := .int "LONGEST" 6) rfl)
  obtain ⟨tO, gDots⟩ := He.str_ok X G (fa_at cA 3 (f := .str "DOTS" "..") rfl)
  obtain ⟨tR, gRow⟩ := He.str_ok X G (fa_at cA 4 (f := .str "IN_ROW" "+") rfl)
  obtain ⟨tS, gBes⟩ := He.str_ok X G (fa_at cA 5 (f := .str "BESIDE" "&") rfl)
  -- classes
  have clS := He.cls_ok (fa_at cA 6 (f := .cls "Span") rfl)
  have clW := He.cls_ok (fa_at cA 7 (f := .cls "Web") rfl)
  have pT : PcC K (csK K).tie := pcC_of (fa_at cA 8 (f := .cls "Tie") rfl) cPt
  have pC : PcC K (csK K).chain := pcC_of (fa_at cA 9 (f := .cls "Chain") rfl) cPc
  have pB : PcC K (csK K).bundle := pcC_of (fa_at cA 10 (f := .cls "Bundle") rfl) cPb
  have pc : PcCs K (csK K) := ⟨pT, pC, pB⟩
  have mkS := He.mkr_ok (fa_at cA 11 (f := .mkr "Span") rfl)
  have mkW := He.mkr_ok (fa_at cA 12 (f := .mkr "Web") rfl)
  have mkT := He.mkr_ok (fa_at cA 13 (f := .mkr "Tie") rfl)
  have mkC := He.mkr_ok (fa_at cA 14 (f := .mkr "Chain") rfl)
  have mkB := He.mkr_ok (fa_at cA 15 (f := .mkr "Bundle") rfl)
  have gS := He.glo_ok X G (fa_at cA 16 (f := .glo "Span") rfl)
  have gW := He.glo_ok X G (fa_at cA 17 (f := .glo "Web") rfl)
  have gT := He.glo_ok X G (fa_at cA 18 (f := .glo "Tie") rfl)
  have gC := He.glo_ok X G (fa_at cA 19 (f := .glo "Chain") rfl)
  have gB := He.glo_ok X G (fa_at cA 20 (f := .glo "Bundle") rfl)
  have gN := He.glo_ok X G (fa_at cA 21 (f := .glo "Snapped") rfl)
  have SC : SpanC K mg (csK K) := ⟨clS, gS, He.noat_ok (fa_at cA 22 (f := .noat "Span" "low") rfl), He.noat_ok (fa_at cA 23 (f := .noat "Span" "high") rfl)⟩
  have WC : WebC K mg (He.ga K "Web") := ⟨clW, He.noat_ok (fa_at cA 24 (f := .noat "Web" "places") rfl), He.noat_ok (fa_at cA 25 (f := .noat "Web" "bonds") rfl)⟩
  have ap : (csK K).Apart := ⟨bne_ok (all_at cR 14), bne_ok (all_at cR 15), bne_ok (all_at cR 16)⟩
  have SN : SnapC P K mg (csK K) := ⟨⟨_, _, _, errTxt_of hP hT rfl (fn_at cc 52 (d := mfn "Snapped" "__init__" "Snapped.__init__" (mth 4 0) ["__class__"]) rfl) (fnb 52 rfl) rfl (all_at cR 27) (all_at cR 31)⟩, gN⟩
  -- small defs
  obtain ⟨f2, F2⟩ := fun_ 2 (d := gfn "is_whole" 31) rfl rfl
  have IW := ok_is_whole (P := P) (w := w) (base := base) hb F2 (glb 2 (d := gfn "is_whole" 31) rfl)
  -- Span
  obtain ⟨f30, F30⟩ := fun_ 30 (d := mfn "Span" "__init__" "Span.__init__" (mth 36 0)) rfl rfl
  have SM : SpanMv P w K mg base (csK K) := ⟨⟨_, f30, mkS, ok_span_init SC IW F30, F30.binds fun _ _ _ _ _ _ us hl => match us, hl with | [_, _, _], _ => rfl⟩, gS⟩
  obtain ⟨f31, F31⟩ := fun_ 31 (d := mfn "Span" "__add__" "Span.__add__" (mth 36 7)) rfl rfl
  obtain ⟨f32, F32⟩ := fun_ 32 (d := mfn "Span" "__and__" "Span.__and__" (mth 36 10)) rfl rfl
  obtain ⟨f33, F33⟩ := fun_ 33 (d := mfn "Span" "__str__" "Span.__str__" (mth 36 15)) rfl rfl
  obtain ⟨f34, F34⟩ := fun_ 34 (d := mfn "Span" "wholes" "Span.wholes" (mth 36 18)) rfl rfl
  have AD : AddD P w K mg base (csK K) := ⟨fun C hC => by
    subst hC
    exact ⟨_, f31, _, numOp_ok (all_at cR 0), ok_span_add hb SC SM F31, F31.binds fun _ _ _ _ _ _ us hl => match us, hl with | [_, _], _ => rfl⟩, fun C C' h h' => .inr (h'.trans h.symm)⟩
  have AN : AndD P w K mg base (csK K) := ⟨fun C hC => by
    subst hC
    exact ⟨_, f32, _, numOp_ok (all_at cR 1), ok_span_and hb SC SN SM F32, F32.binds fun _ _ _ _ _ _ us hl => match us, hl with | [_, _], _ => rfl⟩, fun C C' h h' => .inr (h'.trans h.symm)⟩
  have mS := He.meth_ok (fa_at cM 1 (f := .meth "Span" "__str__") rfl)
  have SD : StrD P w K mg base (csK K) := ⟨⟨_, f33, mS.at_, mS.fn, ok_span_str hb SC gDots F33, F33.binds fun _ _ _ _ _ _ us hl => match us, hl with | [_], _ => rfl⟩⟩
  have WH : WholesC K (csK K) := ⟨⟨_, f34, F34, F34.binds fun _ _ _ _ _ _ us hl => match us, hl with | [_], _ => rfl, He.meth_ok (fa_at cM 0 (f := .meth "Span" "wholes") rfl)⟩⟩
  -- pieces
  obtain ⟨f36, F36⟩ := fun_ 36 (d := mfn "Piece" "__init__" "Piece.__init__" (mth 53 0)) rfl rfl
  have PI := ok_piece_init (P := P) (w := w) (mg := mg) (base := base) (CX := CX0) F36
  have bPI : Binds K f36 ["self", "span", "names", "joints"] [] := F36.binds fun _ _ _ _ _ _ us hl => match us, hl with | [_, _, _, _], _ => rfl
  obtain ⟨f49, T49⟩ := supTxt_of (P := P) hP hT rfl (fn_at cc 49 (d := mfn "Tie" "__init__" "Tie.__init__" (mth 54 0) ["__class__"]) rfl) (fnb 49 rfl) rfl (all_at cR 24) (all_at cR 28)
  obtain ⟨f50, T50⟩ := supTxt_of (P := P) hP hT rfl (fn_at cc 50 (d := mfn "Chain" "__init__" "Chain.__init__" (mth 55 0) ["__class__"]) rfl) (fnb 50 rfl) rfl (all_at cR 25) (all_at cR 29)
  obtain ⟨f51, T51⟩ := supTxt_of (P := P) hP hT rfl (fn_at cc 51 (d := mfn "Bundle" "__init__" "Bundle.__init__" (mth 56 0) ["__class__"]) rfl) (fnb 51 rfl) rfl (all_at cR 26) (all_at cR 30)
  have TM : TieMv P w K mg base (csK K) := ⟨⟨_, f49, mkT, ok_tie_init T49 pT PI bPI, binds_sup T49 fun doc pm ct us hl => match us, hl with | [_, _, _], _ => rfl⟩, gT⟩
  have CM : ChainMv P w K mg base (csK K) := ⟨⟨_, f50, mkC, ok_chain_init T50 pc AD PI bPI, binds_sup T50 fun doc pm ct us hl => match us, hl with | [_, _, _], _ => rfl⟩, gC⟩
  have BM : BundleMv P w K mg base (csK K) := ⟨⟨_, f51, mkB, ok_bundle_init T51 pc AN PI bPI, binds_sup T51 fun doc pm ct us hl => match us, hl with | [_, _, _], _ => rfl⟩, gB⟩
  have subs : ∀ C C', isPc (csK K) C → isPc (csK K) C' → PySem.W.subIn K (.ref C') (.ref C) = some false ∨ C' = C := fun C C' h h' => by
    rcases h with rfl | rfl | rfl <;> rcases h' with rfl | rfl | rfl
    · exact .inr rfl
    · exact .inl (of_decide_eq_true (all_at cR 10))
    · exact .inl (of_decide_eq_true (all_at cR 12))
    · exact .inl (of_decide_eq_true (all_at cR 8))
    · exact .inr rfl
    · exact .inl (of_decide_eq_true (all_at cR 13))
    · exact .inl (of_decide_eq_true (all_at cR 9))
    · exact .inl (of_decide_eq_true (all_at cR 11))
    · exact .inr rfl
  obtain ⟨f37, F37⟩ := fun_ 37 (d := mfn "Tie" "__add__" "Piece.__add__" (mth 53 3)) rfl rfl
  obtain ⟨f38, F38⟩ := fun_ 38 (d := mfn "Chain" "__add__" "Piece.__add__" (mth 53 3)) rfl rfl
  obtain ⟨f39, F39⟩ := fun_ 39 (d := mfn "Bundle" "__add__" "Piece.__add__" (mth 53 3)) rfl rfl
  obtain ⟨f40, F40⟩ := fun_ 40 (d := mfn "Tie" "__and__" "Piece.__and__" (mth 53 4)) rfl rfl
  obtain ⟨f41, F41⟩ := fun_ 41 (d := mfn "Chain" "__and__" "Piece.__and__" (mth 53 4)) rfl rfl
  obtain ⟨f42, F42⟩ := fun_ 42 (d := mfn "Bundle" "__and__" "Piece.__and__" (mth 53 4)) rfl rfl
  have PA : PAddD P w K mg base (csK K) := ⟨fun C hC => by
    rcases hC with rfl | rfl | rfl
    · exact ⟨_, f37, _, numOp_ok (all_at cR 2), ok_piece_add CM F37, F37.binds fun _ _ _ _ _ _ us hl => match us, hl with | [_, _], _ => rfl⟩
    · exact ⟨_, f38, _, numOp_ok (all_at cR 3), ok_piece_add CM F38, F38.binds fun _ _ _ _ _ _ us hl => match us, hl with | [_, _], _ => rfl⟩
    · exact ⟨_, f39, _, numOp_ok (all_at cR 4), ok_piece_add CM F39, F39.binds fun _ _ _ _ _ _ us hl => match us, hl with | [_, _], _ => rfl⟩, subs⟩
  have PB : PAndD P w K mg base (csK K) := ⟨fun C hC => by
    rcases hC with rfl | rfl | rfl
    · exact ⟨_, f40, _, numOp_ok (all_at cR 5), ok_piece_and BM F40, F40.binds fun _ _ _ _ _ _ us hl => match us, hl with | [_, _], _ => rfl⟩
    · exact ⟨_, f41, _, numOp_ok (all_at cR 6), ok_piece_and BM F41, F41.binds fun _ _ _ _ _ _ us hl => match us, hl with | [_, _], _ => rfl⟩
    · exact ⟨_, f42, _, numOp_ok (all_at cR 7), ok_piece_and BM F42, F42.binds fun _ _ _ _ _ _ us hl => match us, hl with | [_, _], _ => rfl⟩, subs⟩
  -- properties
  obtain ⟨f53, F53⟩ := fun_ 53 (d := pfn "Span" "least" "Span.least" (mth 36 4)) rfl rfl
  obtain ⟨f54, F54⟩ := fun_ 54 (d := pfn "Span" "greatest" "Span.greatest" (mth 36 5)) rfl rfl
  obtain ⟨f55, F55⟩ := fun_ 55 (d := pfn "Web" "posts" "Web.posts" (mth 49 3)) rfl rfl
  obtain ⟨f56, F56⟩ := fun_ 56 (d := pfn "Web" "ties" "Web.ties" (mth 49 4)) rfl rfl
  obtain ⟨f57, F57⟩ := fun_ 57 (d := pfn "Tie" "span" "Piece.span" (mth 53 1)) rfl rfl
  obtain ⟨f58, F58⟩ := fun_ 58 (d := pfn "Chain" "span" "Piece.span" (mth 53 1)) rfl rfl
  obtain ⟨f59, F59⟩ := fun_ 59 (d := pfn "Bundle" "span" "Piece.span" (mth 53 1)) rfl rfl
  have PL : SpanPv P w K mg base (csK K) "least" "low" := ⟨⟨_, _, f53, prop_ok (all_at cR 17), getter_ok F53 ⟨rfl, rfl, rfl, by decide +kernel, rfl, by decide +kernel, by decide +kernel⟩ rfl clS SC.nl, F53.binds fun _ _ _ _ _ _ us hl => match us, hl with | [_], _ => rfl⟩⟩
  have PG : SpanPv P w K mg base (csK K) "greatest" "high" := ⟨⟨_, _, f54, prop_ok (all_at cR 18), getter_ok F54 ⟨rfl, rfl, rfl, by decide +kernel, rfl, by decide +kernel, by decide +kernel⟩ rfl clS SC.nh, F54.binds fun _ _ _ _ _ _ us hl => match us, hl with | [_], _ => rfl⟩⟩
  have P1 : Pv P w K mg base (He.ga K "Web") "posts" "places" := ⟨⟨_, _, f55, prop_ok (all_at cR 19), getter_ok F55 ⟨rfl, rfl, rfl, by decide +kernel, rfl, by decide +kernel, by decide +kernel⟩ rfl clW WC.np, F55.binds fun _ _ _ _ _ _ us hl => match us, hl with | [_], _ => rfl⟩⟩
  have P2 : Pv P w K mg base (He.ga K "Web") "ties" "bonds" := ⟨⟨_, _, f56, prop_ok (all_at cR 20), getter_ok F56 ⟨rfl, rfl, rfl, by decide +kernel, rfl, by decide +kernel, by decide +kernel⟩ rfl clW WC.nb, F56.binds fun _ _ _ _ _ _ us hl => match us, hl with | [_], _ => rfl⟩⟩
  have PV : ∀ C, isPc (csK K) C → Pv P w K mg base C "span" "bounds" := fun C hC => by
    rcases hC with rfl | rfl | rfl
    · exact ⟨⟨_, _, f57, prop_ok (all_at cR 21), getter_ok F57 ⟨rfl, rfl, rfl, by decide +kernel, rfl, by decide +kernel, by decide +kernel⟩ rfl pT.cls pT.nb, F57.binds fun _ _ _ _ _ _ us hl => match us, hl with | [_], _ => rfl⟩⟩
    · exact ⟨⟨_, _, f58, prop_ok (all_at cR 22), getter_ok F58 ⟨rfl, rfl, rfl, by decide +kernel, rfl, by decide +kernel, by decide +kernel⟩ rfl pC.cls pC.nb, F58.binds fun _ _ _ _ _ _ us hl => match us, hl with | [_], _ => rfl⟩⟩
    · exact ⟨⟨_, _, f59, prop_ok (all_at cR 23), getter_ok F59 ⟨rfl, rfl, rfl, by decide +kernel, rfl, by decide +kernel, by decide +kernel⟩ rfl pB.cls pB.nb, F59.binds fun _ _ _ _ _ _ us hl => match us, hl with | [_], _ => rfl⟩⟩
  -- counts
  obtain ⟨f46, F46⟩ := fun_ 46 (d := mfn "Tie" "tally" "Tie.tally" (mth 54 4)) rfl rfl
  obtain ⟨f47, F47⟩ := fun_ 47 (d := mfn "Chain" "tally" "Chain.tally" (mth 55 4)) rfl rfl
  obtain ⟨f48, F48⟩ := fun_ 48 (d := mfn "Bundle" "tally" "Bundle.tally" (mth 56 4)) rfl rfl
  have TF : TalF K (csK K) := ⟨⟨_, f46, F46, He.meth_ok (fa_at cPt 6 (f := .meth "Tie" "tally") rfl)⟩, ⟨_, f47, F47, He.meth_ok (fa_at cPc 6 (f := .meth "Chain" "tally") rfl)⟩, ⟨_, f48, F48, He.meth_ok (fa_at cPb 6 (f := .meth "Bundle" "tally") rfl)⟩⟩
  have T6 : TalM P w K mg base (csK K) 32 6 := tal_all hb SC WH AD SM PL PG pc ap TF 6
  obtain ⟨f43, F43⟩ := fun_ 43 (d := mfn "Tie" "counts" "Piece.counts" (mth 53 7)) rfl rfl
  obtain ⟨f44, F44⟩ := fun_ 44 (d := mfn "Chain" "counts" "Piece.counts" (mth 53 7)) rfl rfl
  obtain ⟨f45, F45⟩ := fun_ 45 (d := mfn "Bundle" "counts" "Piece.counts" (mth 53 7)) rfl rfl
  have CD : CntD P w K mg base (csK K) := ⟨fun C hC => by
    rcases hC with rfl | rfl | rfl
    · exact ⟨_, f43, _, He.meth_ok (fa_at cPt 7 (f := .meth "Tie" "counts") rfl), ok_counts hb pc T6 F43 _, F43.binds fun _ _ _ _ _ _ us hl => match us, hl with | [_], _ => rfl⟩
    · exact ⟨_, f44, _, He.meth_ok (fa_at cPc 7 (f := .meth "Chain" "counts") rfl), ok_counts hb pc T6 F44 _, F44.binds fun _ _ _ _ _ _ us hl => match us, hl with | [_], _ => rfl⟩
    · exact ⟨_, f45, _, He.meth_ok (fa_at cPb 7 (f := .meth "Bundle" "counts") rfl), ok_counts hb pc T6 F45 _, F45.binds fun _ _ _ _ _ _ us hl => match us, hl with | [_], _ => rfl⟩⟩
  -- webs
  obtain ⟨f0, F0⟩ := fun_ 0 (d := gfn "need_posts" 15) rfl rfl
  obtain ⟨f1, F1⟩ := fun_ 1 (d := gfn "need_pair" 16) rfl rfl
  obtain ⟨f3, F3⟩ := fun_ 3 (d := gfn "is_name" 32) rfl rfl
  obtain ⟨f4, F4⟩ := fun_ 4 (d := gfn "is_tie" 42) rfl rfl
  obtain ⟨f5, F5⟩ := fun_ 5 (d := gfn "has_form" 43) rfl rfl
  obtain ⟨f6, F6⟩ := fun_ 6 (d := gfn "check_names" 44) rfl rfl
  obtain ⟨f7, F7⟩ := fun_ 7 (d := gfn "check_tie" 45) rfl rfl
  obtain ⟨f8, F8⟩ := fun_ 8 (d := gfn "check_web" 46) rfl rfl
  obtain ⟨f35, F35⟩ := fun_ 35 (d := mfn "Web" "__init__" "Web.__init__" (mth 49 0)) rfl rfl
  have NPo := dvOf F0 (glb 0 (d := gfn "need_posts" 15) rfl) (ok_need_posts (P := P) (w := w) (mg := mg) (base := base) F0) (F0.binds fun _ _ _ _ _ _ us hl => match us, hl with | [_, _], _ => rfl)
  have NPa := dvOf F1 (glb 1 (d := gfn "need_pair" 16) rfl) (ok_need_pair NPo F1) (F1.binds fun _ _ _ _ _ _ us hl => match us, hl with | [_, _, _], _ => rfl)
  have NM := dvOf F3 (glb 3 (d := gfn "is_name" 32) rfl) (ok_is_name (P := P) (w := w) (base := base) hb gLet gDig gLon F3) (F3.binds fun _ _ _ _ _ _ us hl => match us, hl with | [_], _ => rfl)
  have IT := dvOf F4 (glb 4 (d := gfn "is_tie" 42) rfl) (ok_is_tie hb IW F4) (F4.binds fun _ _ _ _ _ _ us hl => match us, hl with | [_], _ => rfl)
  have HF := dvOf F5 (glb 5 (d := gfn "has_form" 43) rfl) (ok_has_form hb IT F5) (F5.binds fun _ _ _ _ _ _ us hl => match us, hl with | [_, _], _ => rfl)
  have CN := dvOf F6 (glb 6 (d := gfn "check_names" 44) rfl) (ok_check_names hb NM F6) (F6.binds fun _ _ _ _ _ _ us hl => match us, hl with | [_, _], _ => rfl)
  have CT := dvOf F7 (glb 7 (d := gfn "check_tie" 45) rfl) (ok_check_tie hb NM F7) (F7.binds fun _ _ _ _ _ _ us hl => match us, hl with | [_, _, _], _ => rfl)
  have CW := dvOf F8 (glb 8 (d := gfn "check_web" 46) rfl) (ok_check_web hb HF CN CT F8) (F8.binds fun _ _ _ _ _ _ us hl => match us, hl with | [_, _], _ => rfl)
  have WM : Mv P w K mg base CX0 5 "Web" (He.ga K "Web") ["self", "posts", "ties"] (spWebI (He.ga K "Web")) := ⟨⟨_, f35, mkW, ok_web_init WC CW F35, F35.binds fun _ _ _ _ _ _ us hl => match us, hl with | [_, _, _], _ => rfl⟩, gW⟩
  -- trees
  obtain ⟨f9, F9⟩ := fun_ 9 (d := gfn "flipped" 57) rfl rfl
  obtain ⟨f10, F10⟩ := fun_ 10 (d := gfn "bundled" 58) rfl rfl
  obtain ⟨f11, F11⟩ := fun_ 11 (d := gfn "chained" 59) rfl rfl
  obtain ⟨f12, F12⟩ := fun_ 12 (d := gfn "edge_from" 60) rfl rfl
  obtain ⟨f13, F13⟩ := fun_ 13 (d := gfn "tree_between" 61) rfl rfl
  obtain ⟨f14, F14⟩ := fun_ 14 (d := gfn "built" 62) rfl rfl
  obtain ⟨f15, F15⟩ := fun_ 15 (d := gfn "piece_of" 63) rfl rfl
  have FL := all_flipped (P := P) (w := w) (base := base) hb gRow F9 (glb 9 (d := gfn "flipped" 57) rfl) (F9.binds fun _ _ _ _ _ _ us hl => match us, hl with | [_], _ => rfl)
  have EF : ∀ n, Dv P w K mg base CX0 (n + 1) "edge_from" ["edge", "post"] (spEdgeFrom n) := fun n => dvOf F12 (glb 12 (d := gfn "edge_from" 60) rfl) (ok_edge_from (FL n) F12) (F12.binds fun _ _ _ _ _ _ us hl => match us, hl with | [_, _], _ => rfl)
  have BU : ∀ n, Dv P w K mg base CX0 (n + 1) "bundled" ["edges"] (spBundled n) := fun n => dvOf F10 (glb 10 (d := gfn "bundled" 58) rfl) (ok_bundled hb gBes (FL n) F10) (F10.binds fun _ _ _ _ _ _ us hl => match us, hl with | [_], _ => rfl)
  have CH : ∀ n, Dv P w K mg base CX0 (n + 2) "chained" ["edges", "post"] (spChained n) := fun n => dvOf F11 (glb 11 (d := gfn "chained" 59) rfl) (ok_chained hb gRow (FL n) (EF n) F11) (F11.binds fun _ _ _ _ _ _ us hl => match us, hl with | [_, _], _ => rfl)
  have TB : ∀ n, Dv P w K mg base CX0 (n + 3) "tree_between" ["posts", "ties", "one", "other"] (spBetween n) := fun n => dvOf F13 (glb 13 (d := gfn "tree_between" 61) rfl) (ok_between hb (FL n) (BU n) (CH n) F13) (F13.binds fun _ _ _ _ _ _ us hl => match us, hl with | [_, _, _, _], _ => rfl)
  have BL := all_built (P := P) (w := w) (base := base) hb gRow TM PA PB F14 (glb 14 (d := gfn "built" 62) rfl) (F14.binds fun _ _ _ _ _ _ us hl => match us, hl with | [_, _], _ => rfl)
  have PO : Dv P w K mg base CX0 18 "piece_of" ["web", "one", "other"] (spPieceOf9 (csK K) (He.ga K "Web")) := dvOf F15 (glb 15 (d := gfn "piece_of" 63) rfl) (piece_of9 fun n hn => (ok_piece_of (n := n) hb WC NPa (TB n) (BL n) SM P1 P2 F15).mono (by omega)) (F15.binds fun _ _ _ _ _ _ us hl => match us, hl with | [_, _, _], _ => rfl)
  -- the law's defs
  obtain ⟨f16, F16⟩ := fun_ 16 (d := gfn "_law_feed" 65) rfl rfl
  obtain ⟨f17, F17⟩ := fun_ 17 (d := gfn "_law_take" 66) rfl rfl
  obtain ⟨f18, F18⟩ := fun_ 18 (d := gfn "_law_mixed" 67) rfl rfl
  obtain ⟨f19, F19⟩ := fun_ 19 (d := gfn "_law_words" 68) rfl rfl
  obtain ⟨f20, F20⟩ := fun_ 20 (d := gfn "_law_bounds" 69) rfl rfl
  obtain ⟨f21, F21⟩ := fun_ 21 (d := gfn "_law_tree" 70) rfl rfl
  obtain ⟨f22, F22⟩ := fun_ 22 (d := gfn "_law_written" 71) rfl rfl
  obtain ⟨f23, F23⟩ := fun_ 23 (d := gfn "_law_piece" 72) rfl rfl
  obtain ⟨f24, F24⟩ := fun_ 24 (d := gfn "_law_laid" 73) rfl rfl
  obtain ⟨f25, F25⟩ := fun_ 25 (d := gfn "_law_ends" 74) rfl rfl
  obtain ⟨f26, F26⟩ := fun_ 26 (d := gfn "_law_disguised" 75) rfl rfl
  obtain ⟨f27, F27⟩ := fun_ 27 (d := gfn "_law_joined" 76) rfl rfl
  obtain ⟨f28, F28⟩ := fun_ 28 (d := gfn "_law_told" 77) rfl rfl
  obtain ⟨f29, F29⟩ := fun_ 29 (d := gfn "law" 78) rfl rfl
  have FD := dvOf F16 (glb 16 (d := gfn "_law_feed" 65) rfl) (ok_feed (P := P) (w := w) (base := base) hb F16) (F16.binds fun _ _ _ _ _ _ us hl => match us, hl with | [_, _], _ => rfl)
  have TK : TakeD P w K mg base := dvOf F17 (glb 17 (d := gfn "_law_take" 66) rfl) (ok_take (P := P) (w := w) (mg := mg) (base := base) F17) (F17.binds fun _ _ _ _ _ _ us hl => match us, hl with | [_, _], _ => rfl)
  have MX : MixedD P w K mg base := dvOf F18 (glb 18 (d := gfn "_law_mixed" 67) rfl) (ok_mixed hb TK F18) (F18.binds fun _ _ _ _ _ _ us hl => match us, hl with | [_, _], _ => rfl)
  have WD : WordsD P w K mg base := dvOf F19 (glb 19 (d := gfn "_law_words" 68) rfl) (ok_words hb TK MX F19) (F19.binds fun _ _ _ _ _ _ us hl => match us, hl with | [_, _], _ => rfl)
  have BD := dvOf F20 (glb 20 (d := gfn "_law_bounds" 69) rfl) (ok_bounds hb TK F20) (F20.binds fun _ _ _ _ _ _ us hl => match us, hl with | [_, _, _], _ => rfl)
  have TR := all_tree hb TK BD F21 (glb 21 (d := gfn "_law_tree" 70) rfl) (F21.binds fun _ _ _ _ _ _ us hl => match us, hl with | [_, _, _, _, _], _ => rfl) 3
  have WR := all_written (P := P) (w := w) (base := base) F22 (glb 22 (d := gfn "_law_written" 71) rfl) (F22.binds fun _ _ _ _ _ _ us hl => match us, hl with | [_], _ => rfl)
  have LP := all_lpiece hb SM TM CM BM PA PB F23 (glb 23 (d := gfn "_law_piece" 72) rfl) (F23.binds fun _ _ _ _ _ _ us hl => match us, hl with | [_, _], _ => rfl) 3
  have LD := all_laid hb WR F24 (glb 24 (d := gfn "_law_laid" 73) rfl) (F24.binds fun _ _ _ _ _ _ us hl => match us, hl with | [_, _, _, _], _ => rfl) 9
  have EN := dvOf F25 (glb 25 (d := gfn "_law_ends" 74) rfl) (ok_ends hb WD F25) (F25.binds fun _ _ _ _ _ _ us hl => match us, hl with | [_], _ => rfl)
  have DG := dvOf F26 (glb 26 (d := gfn "_law_disguised" 75) rfl) (ok_disg hb TK MX WD (WR 9) LD F26) (F26.binds fun _ _ _ _ _ _ us hl => match us, hl with | [_, _, _], _ => rfl)
  have JD : JoinD P w K mg base (csK K) := dvOf F27 (glb 27 (d := gfn "_law_joined" 76) rfl) (ok_joined PA PB F27) (F27.binds fun _ _ _ _ _ _ us hl => match us, hl with | [_, _, _], _ => rfl)
  have TD : DvG P w K mg base 34 "_law_told" pTold (spTold (csK K)) := ⟨⟨_, f28, okG_told hb SN pc JD SD PV CD F28, glb 28 (d := gfn "_law_told" 77) rfl, F28.kp, F28.binds fun _ _ _ _ _ _ us hl => match us, hl with | [_, _, _, _], _ => rfl⟩⟩
  exact ⟨⟨hb, FD, TK, MX, WD, TR, LP, JD, TD, EN, DG, WM, PO, P1, P2, WC, PV, pc, SD⟩, f29, F29, glb 29 (d := gfn "law" 78) rfl⟩
end
end Wr
-- WrHead4
set_option maxHeartbeats 0
/-! the end -/
open PySem PySem.W PySem.Calls PyProof.Rows
theorem PySem.Challenge.cw_wayround_k62_whole_pieces_regrouped_holds : PySem.Challenge.rw_wayround_k62_whole_pieces_regrouped.Holds := by
  w_on; o_law
  refine HandSHeadRun.head_any (r := Wr.R) (q := Wr.qv) (H := Wr.hookW) (ob := Wr.obW) (M := 12000) (loose := Wr.names) (d := HandSHeadRun.topDef Wr.R.prog 78) (kwd := []) Wr.obW_eq
    (by kernel_rfl) (fun s => by kernel_rfl) Wr.run (by kernel_rfl) (by kernel_rfl) (by kernel_rfl) (by rfl) (by first | assumption | decide +kernel) (by decide +kernel) ⟨rfl, rfl, rfl, rfl, rfl, by decide +kernel⟩ ?hw ?hc
  case hw => w_witness2
  case hc =>
    refine Wr.walkG (l := PySem.Challenge.rw_wayround_k62_whole_pieces_regrouped) (n := 63) (k := 35) (x := "_law_script") rfl (by decide) (by kernel_rfl) ⟨rfl, by decide, by decide⟩ ?F
    intro w mg fa h Y G hmg0
    obtain ⟨K, KX, c⟩ := Y
    have hmg : mg ("law" : PySem.Str) = some (.ref fa) := by
      have e : (HandSHeadRun.topDef Wr.R.prog 78).name = ("law" : PySem.Str) := by kernel_rfl
      rw [← e]
      exact hmg0
    obtain ⟨_, fd, F, gl⟩ := Wr.env_of (P := (PySem.Challenge.rw_wayround_k62_whole_pieces_regrouped).prog) (w := w) (base := h) rfl (by decide +kernel) KX G c
    have e := hmg.symm.trans gl
    cases e
    have b := F.binds (ps := ["_law_script"]) fun _ _ _ _ _ _ us hl => match us, hl with | [_], _ => rfl
    refine ⟨K, fd, Wr.spLaw K, KX, fun s u => ?_, fun H a ns hl hO hS => ⟨a, ns, rfl, Wr.scrAt_of hO hS, hl, fun _ => rfl⟩, fun base _ _ => Wr.okG_law (Wr.env_of (P := (PySem.Challenge.rw_wayround_k62_whole_pieces_regrouped).prog) (w := w) (base := base) rfl (by decide +kernel) KX G c).1 F⟩
    obtain ⟨oc, od, kV, doc, pm, an, cdv, ct, osl, rfl, lk, hcd⟩ := F.ex
    exact BindsTo.of_eq rfl
#print axioms PySem.Challenge.cw_wayround_k62_whole_pieces_regrouped_holds
