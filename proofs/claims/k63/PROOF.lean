import PyProof.Rows.All
import Wide.All
import OpenK.AllK
import Wide.FinOn
import HandS.ForMost
import HandS.TupAny
import HandS.TupMul
import HandS.SortInts
import HandS.IsInst
import HandS.Wide
import HandS.Defaults
import HandS.Property
import HandS.Exc
import HandS.WordsExc
import HandS.MakeKw
import HandS.MakeKwOnly
import HandS.Zip
import HandS.DictTup
import KE.GoesMore
import HandS.SortKw
import HandS.Star
import HandS.Flt
import KE.DataMinMax
import OpenK.KOps
import HandS.Nested
import HandS.ClsMeth
import KE.KSuper
import HandS.Head2
import HandS.HeadEnd
import HandS.HeadHook2
import HandS.Flow
import HandS.Ends
import PySem.Challenge.RW_crossinglights_k63_first_state
set_option Elab.async false
set_option linter.all false
section
set_option Elab.async false
set_option linter.all false
set_option maxRecDepth 100000
/-! Super: super().m(..) in a def of an own class. -/
namespace L2
open PySem PySem.Spec PyProof.Rows
/-- statements of a def whose whole body is b (super() asks which code runs) -/
structure PSsA (X : Cx) (b st : List Stmt) (t : TS) : Prop where
  run : ∀ (pins : List (Addr × Obj)) (s : Shared) (σ : St) (H : Hp) (D : Ends), Inv X pins σ H s → t D σ H → _root_.PySem.wpAt (model X.prog X.w) X.A (.func b X.env) (execs st X.env) (SP X pins D) X.xe s
section
variable {X : Cx} {b rest sts : List Stmt} {st : Stmt} {t u : TS}
theorem psa_of (h : PSs X sts t) : PSsA X b sts t := ⟨fun pins s σ H D I q => _root_.PySem.wpAt_of_wpAny (h.run pins s σ H D I q)⟩
theorem psa_cons (h1 : PS X st t) (h2 : PSsA X b rest u) : PSsA X b (st :: rest) (tSeq t u) := by
  refine ⟨fun pins s σ H D I h => ?_⟩
  refine ks_wpAt_execs_cons (_root_.PySem.wpAt_of_wpAny (thn (h1.run pins s σ H { D with nx := u D } I h) fun f s1 q => ?_))
  cases f with
  | next =>
    obtain ⟨σ', H', I', q⟩ := q
    exact h2.run pins s1 σ' H' D I' q
  | ret v => exact q
  | brk => exact q
  | cont => exact q
/-- super().m(e, ..), self the name at i, an instance of C -/
def tSup (i : Nat) (C : Addr) (sp : Sp) (E : XK) (t : TA) : TS := fun D σ H => ∃ x dx fs, σ[i]? = some (some (.ref x)) ∧ H x = some (.ins C dx fs) ∧ t σ H fun vs H1 => sp (.ref x :: vs) H1 (fun _ H2 => D.nx σ H2) E
/-- what of the text is asked for: f the def at hand, cda its code, cc its cell __class__, D that class, f2 what is called -/
structure SupK (K : PySem.W.Frag) (file : Str) (m a : Str) (C D f cda cc f2 : Addr) : Prop where
  fn : ∃ (oc : Value) (od : Option Addr) (fd : FuncData) (osl : Array (Option Value)) (ar : Arg), K.lookup f = some ⟨oc, od, .func fd, osl⟩ ∧ (fd.params.posonlyargs ++ fd.params.args).head? = some ar ∧ ar.arg = a
  code : ∃ (oc : Value) (od : Option Addr) (vs : Array Value) (osl : Array (Option Value)) (tf : Tok), K.lookup cda = some ⟨oc, od, .fields vs, osl⟩ ∧ vs[2]? = some (.str file tf)
  cell : ∃ (oc : Value) (od : Option Addr) (osl : Array (Option Value)), K.lookup cc = some ⟨oc, od, .cell (some (.ref D)), osl⟩
  cls : ∃ cd, PySem.W.clsIn K D = some cd
  sub : PySem.W.mroIn K C (.ref D) = some true
  opq : PySem.W.nsIn K cStatics "thirdparty.any" = some none
  sup : PySem.W.ks_superIn K C D m = some (some (.ref f2))
  ty : PySem.W.typeIn K (.ref f2) = some (.type "function")
  fi : PySem.W.fnIn K f2 = true
section
variable {CX : CXT} {k i : Nat} {C D f cda cc f2 : Addr} {fd : FuncData} {ps : List Str} {sp : Sp} {E : XK} {e : Expr} {es : List Expr} {p0 p1 apos pos pos2 : Pos} {ta : TA} {m a file : Str} {pl : Sem Bool}
theorem psa_super (F : FnOk X.prog X.w X.K X.mg X.base CX k f2 fd ps sp) (hb : Binds X.K fd ps []) (hr : Room k X.A) (hx : Passes CX X E) (S : SupK X.K file m a C D f cda cc f2)
    (hfile : ((X.prog.main.file : Str) == file) = true) (htop : (X.prog.main.scope.names.lookup ("super" : Str)).isSome = false) (hfu : X.env.func = some f) (hco : X.env.code = .ref cda) (hcl : X.env.cells.lookup ("__class__" : Str) = some cc)
    (hks : X.env.scope.names.lookup ("super" : Str) = some .globalImplicit) (hkc : X.env.scope.names.lookup ("__class__" : Str) = some .free) (hka : X.env.scope.names.lookup a = some .local) (hN : X.N[i]? = some a) (hmg : X.mg "super" = none)
    (hboot : bootBuiltins "super" = some (.type "super")) (hat : (m == ("__class__" : Str)) = false)
    (ha : PA X (e :: es) ta) (hrest : PSsA X b rest u) (hst : starEach (e :: es) X.env = (false, eval e X.env) :: starEach es X.env := by rfl) (hpl : (backTo pos (starEach es X.env)).any (·.1) = false := by rfl)
    (he : eval (.Call (.Attribute (.Call (.Name "super" p0) [] [] p1) m apos) (e :: es) [] pos) X.env = (do
      let ov ← attributeBase (.Call (.Name "super" p0) [] [] p1) m X.env (eval (.Call (.Name "super" p0) [] [] p1) X.env)
      standAt apos.atName
      let (f, first) ← holding [ov] (getMethod ov m pl)
      callWith pos f first (backTo pos (starEach (e :: es) X.env)) []) := by rfl)
    (hi : interactive X.env = false := by rfl) (hs : swapsWith (.Call (.Attribute (.Call (.Name "super" p0) [] [] p1) m apos) (e :: es) [] pos) none pos2.line X.env = pure false := by rfl) :
    PSsA X b (.Expr (.Call (.Attribute (.Call (.Name "super" p0) [] [] p1) m apos) (e :: es) [] pos) pos2 :: rest) (tSeq (tSup i C sp E ta) u) := by
  refine ⟨fun pins s σ H Dn I h => ?_⟩
  obtain ⟨x, dx, fs, hσ, hx1, h⟩ := h
  obtain ⟨oc, od, fd0, osl, ar, lf, har, rfl⟩ := S.fn
  obtain ⟨oc2, od2, vs2, osl2, tf, lc, hvs⟩ := S.code
  obtain ⟨oc3, od3, osl3, lcc⟩ := S.cell
  obtain ⟨cdD, hD⟩ := S.cls
  obtain ⟨mA, O, _, _, _, _⟩ := ins_get I.hok hx1
  obtain ⟨odx, J, _⟩ := O.look
  obtain ⟨oD, hD1, hD2⟩ : ∃ oD, s.heap.get? D = some oD ∧ oD.data = .cls cdD := by
    have hD' := hD
    unfold PySem.W.clsIn at hD'
    split at hD'
    · rename_i c d cd' sl ho
      cases hD'
      exact ⟨_, I.kIn _ _ ho, rfl⟩
    · cases hD'
  obtain ⟨mL, hn, hl⟩ := I.loc
  obtain ⟨u', ru, lu⟩ := hl i ar.arg _ hN hσ (.inl hka)
  obtain rfl : u' = Value.ref x := ru
  have hm' : mL ar.arg = some (.ref x) := by
    rcases lu with ⟨_, hm⟩ | ⟨hk, _⟩
    · exact hm
    · have hka' : X.env.kindOf ar.arg = some .local := hka
      rcases hk with hk | hk <;> · rw [hka'] at hk; cases hk
  obtain ⟨mb, hb1, hb2⟩ := I.mod.blt
  refine ks_wpAt_execs_cons (ks_wpAt_Expr_any (ks_wpAt_MethodCall (pl := pl) ?_ he) hi hs)
  obtain ⟨hh, gg, dd, tt, oss⟩ := s
  refine ks_wpAt_super_base (env := X.env) hks hkc hat hfu (I.kIn _ _ lf) rfl har hco (I.kIn _ _ lc) rfl hvs hfile htop ?_
  refine PySem.W.ks_loadName_global I.ok.kind hks (Calls.loadGlobal_builtin (by rw [I.ok.glob]; exact I.mod.glob.keeps I.bk) hmg (by rw [I.ok.blt]; exact hb1.keeps I.bk) ((hb2 _ (by decide)).trans hboot) ⟨rfl, ?_⟩)
  refine wpAny_loadName_free I.ok.kind hkc hcl ⟨_, I.kIn _ _ lcc, rfl⟩ ?_
  refine wpAny_loadName_local I.ok.kind hka hn hm' ?_
  refine ks_wpAny_isType_cls hD1 hD2 ⟨rfl, ?_⟩
  refine ks_wpAny_call_super hD1 hD2 J.at_ J.cls (fun c e => ?_) (PySem.W.looks_mroIn I.kIn S.sub) (fun h' e k => ?_)
  · have := J.no
    unfold PySem.W.notCls at this
    rw [e] at this
    exact Bool.noConfusion this
  have I1 : Inv X pins σ H { heap := h', gens := gg, drawn := dd, toks := tt, os := oss } := I.kept (t' := tt) k
  cases hc : PySem.W.clsIn X.K C with
  | none => have := S.sup; unfold PySem.W.ks_superIn at this; rw [hc] at this; cases this
  | some cd =>
    have hm := S.sup
    unfold PySem.W.ks_superIn at hm
    rw [hc] at hm
    obtain ⟨of, hof, hofc⟩ : ∃ of, h'.get? f2 = some of ∧ of.cls = .type "function" := by
      have ht' : (X.K.lookup f2).map (·.cls) = some (.type "function") := S.ty
      cases z : X.K.lookup f2 with
      | none => rw [z] at ht'; cases ht'
      | some of => rw [z] at ht'; exact ⟨of, I1.kIn _ _ z, Option.some.inj ht'⟩
    have J1 : PySem.W.InstAt hh x _ C (some odx) := J
    refine ks_wpAny_getMethod_super e (PySem.W.looks_opaque I1.kIn S.opq) (l₀ := cd.mro) ?_ rfl I1.kIn hm hof hofc (PySem.W.ks_ne I.kIn J hc) hat ?_
    · exact fun A Q E s k q => wpAny_bind ((PySem.W.looks_clsIn I1.kIn hc) A _ E s k (wpAny_pure q))
    have I2 := ClX.met_new (g := f2) (C := x) I1
    refine ClX.callwith_cm I2 (ClX.base_none I1 (Nat.le_refl _)) S.fi (thn (ha.run pos _ _ σ H _ I2 h) fun us s3 ⟨vs, H2, I3, rv, q2⟩ => ⟨⟨ClX.pin_at I3, I3.kIn⟩, ?_⟩) hst hpl
    have hbt : BindsTo s3 fd ⟨.ref x :: us, []⟩ (ps.zip (.ref x :: us)) := by
      have hl2 : ((Value.ref x :: us) ++ []).length = ps.length := by
        rw [List.append_nil, ← F.len _ _ _ _ q2]
        show us.length + 1 = vs.length + 1
        rw [rv.length]
      have h3 := hb s3 (Value.ref x :: us) I3.kIn hl2
      rw [List.append_nil] at h3
      exact h3
    have z : wpAny (model X.prog X.w) X.A (call (.ref h'.objs.size) us) (EP X ((h'.objs.size, PySem.W.methodObj (.ref f2) (.ref x)) :: pins) σ fun _ H2 => u Dn σ H2) X.xe s3 := by
      refine wpAny_call (PySem.W.method_call (ClX.pin_at I3) (codeAny_mono (F.run X.A X.stack s3 H2 ⟨.ref x :: us, []⟩ (.ref x :: us) (.ref x :: vs) _ E hr I3.env0 hbt (.cons rfl rv) q2) fun r s' hq => ?_))
      cases r with
      | error er => exact hx _ σ H2 s3 er s' I3 hq
      | ok fl =>
        cases fl with
        | ret u => exact I3.after hq
        | next => exact False.elim hq
        | brk => exact False.elim hq
        | cont => exact False.elim hq
    refine thn z fun r s4 hq => ?_
    obtain ⟨v, H3, I4, _, q4⟩ := hq
    exact hrest.run pins s4 σ H3 Dn (ClX.unpin I4) q4
end
end
end L2
end
section
set_option Elab.async false
set_option linter.all false
set_option maxRecDepth 100000
/-! Super2: a def that says super(), by data. -/
namespace L2
open PySem PySem.Spec PyProof.Rows NdefX
section
variable {X : Cx} {b sts : List Stmt} {t t' : TS}
theorem PSsA.nox (h : PSsA X.nox b sts t) : PSsA X b sts t := ⟨fun pins s σ H D I hw =>
  _root_.PySem.wpAt_mono (h.run pins s σ H D (I.wish _) hw) (fun _ _ q => q.unwish) fun _ _ z => False.elim z⟩
end
/-- a def with the one free name __class__ -/
structure FunF (K : PySem.W.Frag) (x qual : Str) (params : Arguments) (body : List Stmt) (scope : Scope) (f cda cc : Addr) (fd : FuncData) : Prop where
  ex : ∃ (oc : Value) (od : Option Addr) (kV doc pm : Value) (an : Option Addr) (ct : Value) (osl : Array (Option Value)),
    fd = PySem.W.fnX x qual params body scope [("__class__", cc)] .none kV doc pm an (.ref cda) ct ∧ K.lookup f = some ⟨oc, od, .func fd, osl⟩ ∧ PySem.W.codeIn K (.ref cda) qual = true
  cell : ∃ (oc : Value) (od : Option Addr) (osl : Array (Option Value)) (v : Option Value), K.lookup cc = some ⟨oc, od, .cell v, osl⟩
  kp : PySem.W.keepIn K (.ref f) = true
section
variable {CX : CXT} {P : Program} {w : World} {K : PySem.W.Frag} {mg : Str → Option Value} {base : Heap} {N ps : List Str} {x qual : Str} {params : Arguments} {body : List Stmt} {scope : Scope} {f cda cc : Addr} {fd : FuncData} {k : Nat} {sp : Sp}
abbrev ncF (CX : CXT) (P : Program) (w : World) (K : PySem.W.Frag) (mg : Str → Option Value) (base : Heap) (N : List Str) (x qual : Str) (params : Arguments) (body : List Stmt) (scope : Scope) (f cda cc : Addr) (A : Around) (outer : List Env) (s : Shared) (H : Hp) (E : XK) : Cx :=
  ncx CX P w K mg base N ⟨x, qual, params, body, scope, [("__class__", cc)], cda⟩ f A outer s H E
theorem FunF.ok (F : FunF K x qual params body scope f cda cc fd) (S : NScope N ps ["__class__"] scope) (len : ∀ vs H Q E, sp vs H Q E → vs.length = ps.length)
    (hbody : ∀ (A : Around) (outer : List Env) (s : Shared) (H : Hp) (vs : List V) (Q : VK) (E : XK), Room k (A.deeper (envF ⟨x, qual, params, body, scope, [("__class__", cc)], cda⟩ f s.heap.objs.size)) → sp vs H Q E →
      ∃ t, PSsA (ncF CX P w K mg base N x qual params body scope f cda cc A outer s H E) body body t ∧ t { nx := fun _ H' => Q .non H', rt := Q } (start N vs) H) :
    FnOk P w K mg base CX (k + 1) f fd ps sp := by
  obtain ⟨oc, od, kV, doc, pm, an, ct, osl, rfl, lk, hcd⟩ := F.ex
  obtain ⟨oc3, od3, osl3, v3, lcc⟩ := F.cell
  refine ⟨len, fun A outer s H args us vs Q E hr e0 hb r hsp => ?_⟩
  have KX : K.In s.heap := e0.mod.kin.keeps fun b o e => (e0.bs b o e).1
  have hl := len _ _ _ _ hsp
  have lim : s.heap.NoLimit := e0.mod.nolimit.keeps fun b o e => (e0.bs b o e).1
  refine codeAny_call_function hr.depth (KX _ _ lk) rfl S.co S.gen rfl (PySem.W.codeRec_of KX hcd) (hb _ _ _ _ ?_)
  refine wpAny_newFunctionEnv S.nocell (fun ⟨n, _⟩ hy => S.par n (List.of_mem_zip hy).1) (fun h₁ hns hsb => ⟨lim.fresh _ hsb, ?_⟩) S.kind
  let FF : NF := ⟨x, qual, params, body, scope, [("__class__", cc)], cda⟩
  show codeAny _ _ (.func body (envF FF f s.heap.objs.size)) _ _
  refine ks_codeAny_funcAt ?_
  have kp : ∀ b o, s.heap.get? b = some o → h₁.get? b = some o := fun b o e => hsb.extBut b o (Nat.ne_of_lt (Heap.lt_size e)) (Heap.get?_push_of_some _ e)
  obtain ⟨t, ht, hq⟩ := hbody A outer s H vs Q E (hr.deeper _) hsp
  have C : CellsAt FF.cl ["__class__"] [none] s.heap H := by
    have look : ∀ y c, List.lookup y [(("__class__" : Str), cc)] = some c → y = ("__class__" : Str) ∧ c = cc := by
      intro y c e
      by_cases q : y = ("__class__" : Str)
      · subst q; simp [List.lookup] at e; exact ⟨rfl, e.symm⟩
      · have : (y == ("__class__" : Str)) = false := beq_eq_false_iff_ne.mpr q
        simp [List.lookup, this] at e
    refine ⟨rfl, fun y c e => ?_, fun y z c e1 e2 => ?_, fun i y e => ?_⟩
    · obtain ⟨_, rfl⟩ := look y c e
      exact ⟨(e0.bs _ _ (e0.mod.kin _ _ lcc)).2, v3, _, KX _ _ lcc, rfl⟩
    · rw [(look y c e1).1, (look z c e2).1]
    · cases i with
      | zero =>
        simp at e
        subst e
        exact ⟨cc, by simp [FF, List.lookup], fun v h => by simp at h⟩
      | succ i => simp at e
  have I : Inv (ncx CX P w K mg base N FF f A outer s H E) [] (startF N vs [none]) H { s with heap := h₁, toks := s.toks + (ps.zip us).length } := inv_startN S hr.hd e0 hl r C hns kp
  have es : startF N vs [none] = start N vs := by
    have hpl : ps.length + 1 ≤ N.length := by
      have q := congrArg List.length S.pre
      rw [List.length_take, List.length_append] at q
      simp at q
      omega
    unfold startF start
    congr 1
    have : N.length - vs.length = (N.length - vs.length - 1) + 1 := by omega
    rw [this, List.replicate_succ]
    rfl
  rw [es] at I
  refine _root_.PySem.wpAt_mono (ht.run [] _ _ H _ I hq) (fun fl s' hs => ?_) fun e s' hs => hs
  have fin : ∀ {σ' : L2.St} {H' : Hp} {v : V} {u : Value}, Inv (ncx CX P w K mg base N FF f A outer s H E) [] σ' H' s' → L2.RelV v u → Q v H' → CE outer P w H s Q u s' :=
    fun {σ' H' v u} J rv q => ⟨v, H', J.os, J.bare, J.base, J.hok, rv, q⟩
  cases fl with
  | ret u =>
    obtain ⟨v, σ', H', J, rv, q⟩ := hs
    exact fin J rv q
  | next =>
    obtain ⟨σ', H', J, q⟩ := hs
    exact fin (v := V.non) (u := Value.none) J rfl q
  | brk =>
    obtain ⟨_, _, _, q⟩ := hs
    exact False.elim q
  | cont =>
    obtain ⟨_, _, _, q⟩ := hs
    exact False.elim q
end
end L2

end
section
set_option Elab.async false
set_option linter.all false
set_option maxRecDepth 100000
/-! HeadM: the head's facts by a hook of one's own: defs at any address, properties, super(). -/
namespace HM
open PySem PySem.Spec PyProof.Rows L2 He
/-- what an object names, of what the walk asks -/
def refsM (o : Obj) : List Addr := match o.data with
  | .dict es _ => es.toList.flatMap fun e => refV e.val
  | .func fd => refV fd.code ++ (refV fd.defaults ++ (refV fd.kwdefaults ++ fd.closure.map (·.2)))
  | .cls cd => [cd.ns]
  | .fields vs => vs.toList.flatMap refV
  | .seq its _ => if its.size ≤ 4 then its.toList.flatMap refV else []
  | _ => []
def lvM (g : Addr → Option Obj) (as : List Addr) : List Addr := as.flatMap fun a => match g a with
  | some o => refsM o
  | none => []
def asM (g : Addr → Option Obj) : List Addr :=
  let l1 := lvM g [mainGlobals]
  let l2 := lvM g l1
  let l3 := lvM g l2
  let l4 := lvM g l3
  let l5 := lvM g l4
  cStatics :: mainGlobals :: (l1 ++ (l2 ++ (l3 ++ (l4 ++ l5))))
/-- a def: where it stands, its text, its defaults, whether it closes over __class__ -/
structure DefM where
  adr : PySem.W.Frag → Addr
  name : Str
  qual : Str
  params : Arguments
  body : List Stmt
  scope : Scope
  dfl : List Dv := []
  cl : Bool := false
abbrev FnM : Type := Option (Str × Str × Arguments × FuncBody × Scope × Addr × List Str × Addr)
def fnM (K : PySem.W.Frag) (a : Addr) : FnM := match K.lookup a with
  | some ⟨_, _, .func fd, _⟩ => some (fd.name, fd.qualname, fd.params, fd.body, fd.scope, fd.globals, fd.closure.map (·.1), fd.builtins)
  | _ => none
def DefM.val (d : DefM) : FnM := some (d.name, d.qual, d.params, .stmts d.body, d.scope, mainGlobals, if d.cl = true then ["__class__"] else [], builtinsNs)
def DefM.dvs (K : PySem.W.Frag) (d : DefM) : List V := d.dfl.map (Dv.v K)
def cellB (K : PySem.W.Frag) (cl : List (Str × Addr)) : Bool := cl.all fun p => match K.lookup p.2 with
  | some ⟨_, _, .cell _, _⟩ => true
  | _ => false
def DefM.ok (K : PySem.W.Frag) (d : DefM) : Bool := PySem.W.keepIn K (.ref (d.adr K)) && (match K.lookup (d.adr K) with
  | some ⟨_, _, .func fd, _⟩ => PySem.W.codeIn K fd.code d.qual && (dflB K fd.defaults (d.dvs K) && cellB K fd.closure)
  | _ => false)
/-- the one cell of a def, its code -/
def ccM (K : PySem.W.Frag) (a : Addr) : Addr := match K.lookup a with
  | some ⟨_, _, .func fd, _⟩ => (match fd.closure with
    | p :: _ => p.2
    | [] => 0)
  | _ => 0
def cdM (K : PySem.W.Frag) (a : Addr) : Addr := match K.lookup a with
  | some ⟨_, _, .func fd, _⟩ => (match fd.code with
    | .ref c => c
    | _ => 0)
  | _ => 0
theorem map_nil {α β : Type} {f : α → β} : ∀ {l : List α}, l.map f = [] → l = []
  | [], _ => rfl
theorem DefM.funD {K : PySem.W.Frag} {d : DefM} (hcl : d.cl = false) (e : fnM K (d.adr K) = d.val) (c : d.ok K = true) : ∃ fd, FunD K d.name d.qual d.params d.body d.scope (d.dvs K) [] (d.adr K) fd := by
  obtain ⟨kp, c2⟩ := ba c
  unfold fnM at e
  cases q : K.lookup (d.adr K) with
  | none => rw [q] at c2; cases c2
  | some o =>
    obtain ⟨oc, od, dt, osl⟩ := o
    rw [q] at c2 e
    cases dt with
    | func fd =>
      obtain ⟨n1, n2, n3, n4, n5, n6, n7, n8, n9, n10, n11, n12, n13, n14, n15⟩ := fd
      have e2 : (some (n1, n2, n3, n4, n5, n6, n7.map (·.1), n15) : FnM) = (some (d.name, d.qual, d.params, FuncBody.stmts d.body, d.scope, mainGlobals, (if d.cl = true then [("__class__" : Str)] else []), builtinsNs) : FnM) := e
      rw [hcl] at e2
      simp only [Option.some.injEq, Prod.mk.injEq, Bool.false_eq_true, if_false] at e2
      obtain ⟨h1, h2, h3, h4, h5, h6, h7, h8⟩ := e2
      have h7' := map_nil h7
      subst h1 h2 h3 h4 h5 h6 h7' h8
      have c3 : (PySem.W.codeIn K n13 d.qual && (dflB K n8 (d.dvs K) && cellB K [])) = true := c2
      obtain ⟨k1, k2⟩ := ba c3
      obtain ⟨k3, _⟩ := ba k2
      exact ⟨_, ⟨oc, od, n8, n9, n10, n11, n12, n13, n14, osl, rfl, q, k1, dflB_ok k3, .inl rfl⟩, kp⟩
    | _ => cases c2
theorem DefM.funF {K : PySem.W.Frag} {d : DefM} (hcl : d.cl = true) (hdf : d.dfl = []) (e : fnM K (d.adr K) = d.val) (c : d.ok K = true) : ∃ fd, FunF K d.name d.qual d.params d.body d.scope (d.adr K) (cdM K (d.adr K)) (ccM K (d.adr K)) fd := by
  obtain ⟨kp, c2⟩ := ba c
  unfold fnM at e
  cases q : K.lookup (d.adr K) with
  | none => rw [q] at c2; cases c2
  | some o =>
    obtain ⟨oc, od, dt, osl⟩ := o
    rw [q] at c2 e
    cases dt with
    | func fd =>
      obtain ⟨n1, n2, n3, n4, n5, n6, n7, n8, n9, n10, n11, n12, n13, n14, n15⟩ := fd
      have e2 : (some (n1, n2, n3, n4, n5, n6, n7.map (·.1), n15) : FnM) = (some (d.name, d.qual, d.params, FuncBody.stmts d.body, d.scope, mainGlobals, (if d.cl = true then [("__class__" : Str)] else []), builtinsNs) : FnM) := e
      rw [hcl] at e2
      simp only [Option.some.injEq, Prod.mk.injEq, if_true] at e2
      obtain ⟨h1, h2, h3, h4, h5, h6, h7, h8⟩ := e2
      have c3 : (PySem.W.codeIn K n13 d.qual && (dflB K n8 (d.dvs K) && cellB K n7)) = true := c2
      obtain ⟨k1, k2⟩ := ba c3
      obtain ⟨k8, k4⟩ := ba k2
      have e8 : n8 = .none := by
        unfold DefM.dvs at k8
        rw [hdf] at k8
        rcases dflB_ok k8 with ⟨_, z⟩ | ⟨z, _⟩
        · exact z
        · exact absurd rfl z
      subst e8
      cases n7 with
      | nil => cases h7
      | cons p r =>
        injection h7 with h9 h10
        have h10' := map_nil h10
        obtain ⟨p1, p2⟩ := p
        have h9' : p1 = ("__class__" : Str) := h9
        subst h1 h2 h3 h4 h5 h6 h9' h10' h8
        obtain ⟨cc, rfl⟩ : ∃ c, n13 = .ref c := by
          cases n13 with
          | ref c => exact ⟨c, rfl⟩
          | _ => cases k1
        have e3 : cdM K (d.adr K) = cc := by unfold cdM; rw [q]
        have e4 : ccM K (d.adr K) = p2 := by unfold ccM; rw [q]
        rw [e3, e4]
        refine ⟨_, ⟨oc, od, n9, n10, n11, n12, n14, osl, rfl, q, k1⟩, ?_, kp⟩
        have k5 : ((match K.lookup p2 with | some ⟨_, _, .cell _, _⟩ => true | _ => false) && cellB K []) = true := k4
        obtain ⟨k6, _⟩ := ba k5
        cases qc : K.lookup p2 with
        | none => rw [qc] at k6; cases k6
        | some oo =>
          obtain ⟨c1, c2', c3', c4⟩ := oo
          rw [qc] at k6
          cases c3' with
          | cell v => exact ⟨c1, c2', c4, v, rfl⟩
          | _ => cases k6
    | _ => cases c2
/-! properties -/
def pgM (K : PySem.W.Frag) (C : Str) (f : Str) : Addr := match PySem.W.recIn K (ma K (ga K C) f) "property" with
  | some (.ref g :: _) => g
  | _ => 0
def propB (K : PySem.W.Frag) (C f : Str) : Bool := eqO (PySem.W.findIn K (.ref (ga K C)) f) (some (some (.ref (ma K (ga K C) f)))) && (eqO (PySem.W.specialIn K (.ref (ma K (ga K C) f)) "__get__") (some (some (.builtin "property.__get__"))) &&
  (decide (PySem.W.takesIn K (.ref (ma K (ga K C) f)) = some true) && (match PySem.W.recIn K (ma K (ga K C) f) "property" with
    | some (.ref _ :: _) => true
    | _ => false)))
theorem propB_ok {K : PySem.W.Frag} {C f : Str} (h : propB K C f = true) : PropOf K (ga K C) f (ma K (ga K C) f) (pgM K C f) := by
  obtain ⟨h1, h⟩ := ba h
  obtain ⟨h2, h⟩ := ba h
  obtain ⟨h3, h4⟩ := ba h
  refine ⟨eqO_ok h1, eqO_ok h2, of_decide_eq_true h3, ?_⟩
  unfold pgM
  cases q : PySem.W.recIn K (ma K (ga K C) f) "property" with
  | none => rw [q] at h4; cases h4
  | some l =>
    rw [q] at h4
    cases l with
    | nil => cases h4
    | cons v r =>
      cases v with
      | ref g => exact ⟨r, rfl⟩
      | _ => cases h4
/-! super() -/
def supB (K : PySem.W.Frag) (file : Str) (m a : Str) (C D : Str) (f f2 : Addr) : Bool := (match K.lookup f with
    | some ⟨_, _, .func fd, _⟩ => (match (fd.params.posonlyargs ++ fd.params.args).head? with
      | some ar => decide (ar.arg = a)
      | none => false)
    | _ => false) && ((match K.lookup (cdM K f) with
    | some ⟨_, _, .fields vs, _⟩ => (match vs[2]? with
      | some (Value.str y _) => decide (y = file)
      | _ => false)
    | _ => false) && ((match K.lookup (ccM K f) with
    | some ⟨_, _, .cell (some (.ref d)), _⟩ => decide (d = ga K D)
    | _ => false) && ((PySem.W.clsIn K (ga K D)).isSome && (decide (PySem.W.mroIn K (ga K C) (.ref (ga K D)) = some true) && (eqO (PySem.W.nsIn K cStatics "thirdparty.any") (some none) &&
    (eqO (PySem.W.ks_superIn K (ga K C) (ga K D) m) (some (some (.ref f2))) && (decide (PySem.W.typeIn K (.ref f2) = some (.type "function")) && PySem.W.fnIn K f2)))))))
theorem supB_ok {K : PySem.W.Frag} {file m a C D : Str} {f f2 : Addr} (h : supB K file m a C D f f2 = true) : SupK K file m a (ga K C) (ga K D) f (cdM K f) (ccM K f) f2 := by
  obtain ⟨h1, h⟩ := ba h
  obtain ⟨h2, h⟩ := ba h
  obtain ⟨h3, h⟩ := ba h
  obtain ⟨h4, h⟩ := ba h
  obtain ⟨h5, h⟩ := ba h
  obtain ⟨h6, h⟩ := ba h
  obtain ⟨h7, h⟩ := ba h
  obtain ⟨h8, h9⟩ := ba h
  refine ⟨?_, ?_, ?_, Option.isSome_iff_exists.mp h4, of_decide_eq_true h5, eqO_ok h6, eqO_ok h7, of_decide_eq_true h8, h9⟩
  · cases q : K.lookup f with
    | none => rw [q] at h1; cases h1
    | some o =>
      obtain ⟨o1, o2, o3, o4⟩ := o
      rw [q] at h1
      cases o3 with
      | func fd =>
        dsimp only at h1
        cases q2 : (fd.params.posonlyargs ++ fd.params.args).head? with
        | none => rw [q2] at h1; cases h1
        | some ar => rw [q2] at h1; exact ⟨o1, o2, fd, o4, ar, rfl, q2, of_decide_eq_true h1⟩
      | _ => cases h1
  · cases q : K.lookup (cdM K f) with
    | none => rw [q] at h2; cases h2
    | some o =>
      obtain ⟨o1, o2, o3, o4⟩ := o
      rw [q] at h2
      cases o3 with
      | fields vs =>
        dsimp only at h2
        cases q2 : vs[2]? with
        | none => rw [q2] at h2; cases h2
        | some v =>
          rw [q2] at h2
          cases v with
          | str y t => have := of_decide_eq_true h2; subst this; exact ⟨o1, o2, vs, o4, t, rfl, q2⟩
          | _ => cases h2
      | _ => cases h2
  · cases q : K.lookup (ccM K f) with
    | none => rw [q] at h3; cases h3
    | some o =>
      obtain ⟨o1, o2, o3, o4⟩ := o
      rw [q] at h3
      cases o3 with
      | cell v =>
        cases v with
        | none => cases h3
        | some v =>
          cases v with
          | ref d => have := of_decide_eq_true h3; subst this; exact ⟨o1, o2, o4, rfl⟩
          | _ => cases h3
      | _ => cases h3
/-- an empty tuple of the written part -/
def etB (K : PySem.W.Frag) (a : Addr) : Bool := match K.lookup a with
  | some ⟨.type c, _, .seq its _, _⟩ => decide (c = "tuple") && decide (its.toList = [])
  | _ => false
theorem etB_ok {K : PySem.W.Frag} {a : Addr} (h : etB K a = true) : ∃ (o : Obj) (its : Array Value) (n : Nat), K.lookup a = some o ∧ o.cls = .type "tuple" ∧ o.data = .seq its n ∧ its.size ≤ sizeLine ∧ Vals [] its.toList := by
  unfold etB at h
  cases q : K.lookup a with
  | none => rw [q] at h; cases h
  | some o =>
    obtain ⟨o1, o2, o3, o4⟩ := o
    rw [q] at h
    cases o1 with
    | type c =>
      cases o3 with
      | seq its n =>
        obtain ⟨h1, h2⟩ := ba h
        have e1 := of_decide_eq_true h1
        have e2 := of_decide_eq_true h2
        refine ⟨_, its, n, rfl, congrArg Value.type e1, rfl, ?_, by rw [e2]; exact .nil⟩
        have : its.size = 0 := by rw [← Array.length_toList, e2]; rfl
        rw [this]; exact Nat.zero_le _
      | _ => cases h
    | _ => cases o3 <;> cases h
/-! the hook -/
abbrev AlM : Type := Bool × Bool × List FnM
def obsM (fa : List Fa) (fn : List DefM) (ex : PySem.W.Frag → Bool) (K : PySem.W.Frag) : AlM := ((fa.all fun f => f.ok K) && fn.all fun d => d.ok K, ex K, fn.map fun d => fnM K (d.adr K))
def valM (fn : List DefM) : AlM := (true, true, fn.map DefM.val)
def SaysM (fa : List Fa) (fn : List DefM) (ex : PySem.W.Frag → Bool) (K : PySem.W.Frag) : Prop := obsM fa fn ex K = valM fn
def obsMG (fa : List Fa) (fn : List DefM) (ex : PySem.W.Frag → Bool) (g : Addr → Option Obj) : AlM := obsM fa fn ex (frG g (asM g))
def hookM (fa : List Fa) (fn : List DefM) (ex : PySem.W.Frag → Bool) : PySem.W.Hook where
  α := AlM
  obs := fun s => obsMG fa fn ex s.heap.get?
  val := fun _ => valM fn
  says := fun _ h => ∃ K : PySem.W.Frag, K.In h ∧ SaysM fa fn ex K
  of := fun _ _ e => ⟨_, frG_in, e⟩
  keeps := fun _ _ _ ⟨K, hK, c⟩ k => ⟨K, PySem.W.Frag.In.keeps hK k, c⟩
section
variable {fa : List Fa} {fn : List DefM} {ex : PySem.W.Frag → Bool} {K : PySem.W.Frag}
theorem SaysM.fact (c : SaysM fa fn ex K) {f : Fa} (h : f ∈ fa) : f.ok K = true := by
  have h1 : ((fa.all fun f => f.ok K) && fn.all fun d => d.ok K) = true := congrArg (fun z : AlM => z.1) c
  exact List.all_eq_true.mp (ba h1).1 f h
theorem SaysM.extra (c : SaysM fa fn ex K) : ex K = true := congrArg (fun z : AlM => z.2.1) c
theorem SaysM.at_ (c : SaysM fa fn ex K) {i : Nat} {d : DefM} (h : fn[i]? = some d) : d.ok K = true ∧ fnM K (d.adr K) = d.val := by
  have h1 : ((fa.all fun f => f.ok K) && fn.all fun d => d.ok K) = true := congrArg (fun z : AlM => z.1) c
  have h2 : (fn.map fun d => fnM K (d.adr K)) = fn.map DefM.val := congrArg (fun z : AlM => z.2.2) c
  refine ⟨List.all_eq_true.mp (ba h1).2 d (List.mem_of_getElem? h), ?_⟩
  have h3 := congrArg (fun l => l[i]?) h2
  simp only [List.getElem?_map, h, Option.map_some] at h3
  exact Option.some.inj h3
theorem SaysM.funD (c : SaysM fa fn ex K) (i : Nat) {d : DefM} (h : fn[i]? = some d) (hcl : d.cl = false := by rfl) : ∃ fd, FunD K d.name d.qual d.params d.body d.scope (d.dvs K) [] (d.adr K) fd := DefM.funD hcl (c.at_ h).2 (c.at_ h).1
theorem SaysM.funF (c : SaysM fa fn ex K) (i : Nat) {d : DefM} (h : fn[i]? = some d) (hcl : d.cl = true := by rfl) (hdf : d.dfl = [] := by rfl) : ∃ fd, FunF K d.name d.qual d.params d.body d.scope (d.adr K) (cdM K (d.adr K)) (ccM K (d.adr K)) fd := DefM.funF hcl hdf (c.at_ h).2 (c.at_ h).1
end
theorem run_and {r : PySem.W.OpenRow} {q : Program} {M : Nat} {loose : List PySem.Str} {w : World} {H : PySem.W.Hook} {ob : PySem.W.SharedT → H.α}
    (h1 : HandSHeadRun.RunEq r q PySem.W.Hook.none (fun _ => ()) M loose w) (h2 : ∀ os : OsState, (HandSHeadRun.endF (HandSHeadRun.stepQ (HandSHeadRun.denQ HandSHeadRun.tabQ) r.prog w) M r.prog w os).map ob = some (H.val w)) :
    HandSHeadRun.RunEq r q H ob M loose w := by
  intro os
  have a := h1 os
  have b := h2 os
  cases e : HandSHeadRun.endF (HandSHeadRun.stepQ (HandSHeadRun.denQ HandSHeadRun.tabQ) r.prog w) M r.prog w os with
  | none => rw [e] at b; cases b
  | some s =>
    rw [e] at a b
    have a' := Option.some.inj a
    have b' := Option.some.inj b
    have a1 := congrArg (fun x => x.1) a'
    have a2 := congrArg (fun x => x.2.1) a'
    show some _ = some _
    exact congrArg some (Prod.ext a1 (Prod.ext a2 b'))
end HM
end
section
set_option Elab.async false
set_option linter.all false
set_option maxRecDepth 100000
set_option maxHeartbeats 0
namespace K63
open PySem PySem.Spec PyProof.Rows L2
abbrev Pg : Program := PySem.Challenge.pw_crossinglights_k63_first_state
def top (i : Nat) : Stmt := PySem.Challenge.pw_crossinglights_k63_first_state.main.body.getD i (.Pass ⟨0, 0, 0, 0⟩)
def d_is_urged : HM.DefM := ⟨fun K => He.ga K "is_urged", "is_urged", "is_urged", defArgs (top 23), defBody (top 23), defScope (top 23), [], false⟩
def d_is_barred : HM.DefM := ⟨fun K => He.ga K "is_barred", "is_barred", "is_barred", defArgs (top 24), defBody (top 24), defScope (top 24), [], false⟩
def d_is_wanted : HM.DefM := ⟨fun K => He.ga K "is_wanted", "is_wanted", "is_wanted", defArgs (top 25), defBody (top 25), defScope (top 25), [], false⟩
def d_is_held : HM.DefM := ⟨fun K => He.ga K "is_held", "is_held", "is_held", defArgs (top 26), defBody (top 26), defScope (top 26), [], false⟩
def d_Book_len : HM.DefM := ⟨fun K => He.ma K (He.ga K "Book") "__len__", "__len__", "Book.__len__", defArgs (inClass (top 43) 2), defBody (inClass (top 43) 2), defScope (inClass (top 43) 2), [], false⟩
def d_Book_phase : HM.DefM := ⟨fun K => He.ma K (He.ga K "Book") "phase", "phase", "Book.phase", defArgs (inClass (top 43) 3), defBody (inClass (top 43) 3), defScope (inClass (top 43) 3), [], false⟩
def d_is_proper : HM.DefM := ⟨fun K => He.ga K "is_proper", "is_proper", "is_proper", defArgs (top 20), defBody (top 20), defScope (top 20), [], false⟩
def d_check_lights : HM.DefM := ⟨fun K => He.ga K "check_lights", "check_lights", "check_lights", defArgs (top 21), defBody (top 21), defScope (top 21), [], false⟩
def d_shown : HM.DefM := ⟨fun K => He.ga K "shown", "shown", "shown", defArgs (top 22), defBody (top 22), defScope (top 22), [], false⟩
def d_following_phase : HM.DefM := ⟨fun K => He.ga K "following_phase", "following_phase", "following_phase", defArgs (top 27), defBody (top 27), defScope (top 27), [], false⟩
def d_goes_on : HM.DefM := ⟨fun K => He.ga K "goes_on", "goes_on", "goes_on", defArgs (top 28), defBody (top 28), defScope (top 28), [], false⟩
def d_Crossing_len : HM.DefM := ⟨fun K => He.ma K (He.ga K "Crossing") "__len__", "__len__", "Crossing.__len__", defArgs (inClass (top 56) 1), defBody (inClass (top 56) 1), defScope (inClass (top 56) 1), [], false⟩
def d_next_lights : HM.DefM := ⟨fun K => He.ga K "next_lights", "next_lights", "next_lights", defArgs (top 29), defBody (top 29), defScope (top 29), [.adr (He.dflAt ("next_lights", none) 0), .adr (He.dflAt ("next_lights", none) 1), .non], false⟩
def d_quiet : HM.DefM := ⟨fun K => He.ga K "quiet", "quiet", "quiet", defArgs (top 30), defBody (top 30), defScope (top 30), [], false⟩
def d_check_stream : HM.DefM := ⟨fun K => He.ga K "check_stream", "check_stream", "check_stream", defArgs (top 55), defBody (top 55), defScope (top 55), [], false⟩
def d_Crossing_longest : HM.DefM := ⟨fun K => He.ma K (He.ga K "Crossing") "longest", "longest", "Crossing.longest", defArgs (inClass (top 56) 5), defBody (inClass (top 56) 5), defScope (inClass (top 56) 5), [], false⟩
def d_beats_since : HM.DefM := ⟨fun K => He.ga K "beats_since", "beats_since", "beats_since", defArgs (top 32), defBody (top 32), defScope (top 32), [], false⟩
def d_Foot_foot : HM.DefM := ⟨fun K => HM.pgM K "Foot" "foot", "foot", "Foot.foot", defArgs (inClass (top 62) 2), defBody (inClass (top 62) 2), defScope (inClass (top 62) 2), [], false⟩
def d_Road_foot : HM.DefM := ⟨fun K => HM.pgM K "Road" "foot", "foot", "Lane.foot", defArgs (inClass (top 61) 1), defBody (inClass (top 61) 1), defScope (inClass (top 61) 1), [], false⟩
def d_Rate_full : HM.DefM := ⟨fun K => HM.pgM K "Rate" "full", "full", "Rate.full", defArgs (inClass (top 76) 2), defBody (inClass (top 76) 2), defScope (inClass (top 76) 2), [], false⟩
def d_first_credit : HM.DefM := ⟨fun K => He.ga K "first_credit", "first_credit", "first_credit", defArgs (top 33), defBody (top 33), defScope (top 33), [], false⟩
def d_Town_len : HM.DefM := ⟨fun K => He.ma K (He.ga K "Town") "__len__", "__len__", "Town.__len__", defArgs (inClass (top 98) 2), defBody (inClass (top 98) 2), defScope (inClass (top 98) 2), [], false⟩
def d_Town_lane : HM.DefM := ⟨fun K => He.ma K (He.ga K "Town") "lane", "lane", "Town.lane", defArgs (inClass (top 98) 5), defBody (inClass (top 98) 5), defScope (inClass (top 98) 5), [], false⟩
def d_first_state : HM.DefM := ⟨fun K => He.ga K "first_state", "first_state", "first_state", defArgs (top 34), defBody (top 34), defScope (top 34), [], false⟩
def d_is_main : HM.DefM := ⟨fun K => He.ga K "is_main", "is_main", "is_main", defArgs (top 39), defBody (top 39), defScope (top 39), [], false⟩
def d_has_stranger : HM.DefM := ⟨fun K => He.ga K "has_stranger", "has_stranger", "has_stranger", defArgs (top 40), defBody (top 40), defScope (top 40), [], false⟩
def d_beats_needed : HM.DefM := ⟨fun K => He.ga K "beats_needed", "beats_needed", "beats_needed", defArgs (top 41), defBody (top 41), defScope (top 41), [], false⟩
def d_check_book : HM.DefM := ⟨fun K => He.ga K "check_book", "check_book", "check_book", defArgs (top 42), defBody (top 42), defScope (top 42), [], false⟩
def d_Book_init : HM.DefM := ⟨fun K => He.ma K (He.ga K "Book") "__init__", "__init__", "Book.__init__", defArgs (inClass (top 43) 0), defBody (inClass (top 43) 0), defScope (inClass (top 43) 0), [], false⟩
def d_is_name : HM.DefM := ⟨fun K => He.ga K "is_name", "is_name", "is_name", defArgs (top 47), defBody (top 47), defScope (top 47), [], false⟩
def d_check_streams : HM.DefM := ⟨fun K => He.ga K "check_streams", "check_streams", "check_streams", defArgs (top 51), defBody (top 51), defScope (top 51), [], false⟩
def d_is_rival : HM.DefM := ⟨fun K => He.ga K "is_rival", "is_rival", "is_rival", defArgs (top 52), defBody (top 52), defScope (top 52), [], false⟩
def d_rival_spans : HM.DefM := ⟨fun K => He.ga K "rival_spans", "rival_spans", "rival_spans", defArgs (top 53), defBody (top 53), defScope (top 53), [], false⟩
def d_greatest_span : HM.DefM := ⟨fun K => He.ga K "greatest_span", "greatest_span", "greatest_span", defArgs (top 54), defBody (top 54), defScope (top 54), [], false⟩
def d_Crossing_init : HM.DefM := ⟨fun K => He.ma K (He.ga K "Crossing") "__init__", "__init__", "Crossing.__init__", defArgs (inClass (top 56) 0), defBody (inClass (top 56) 0), defScope (inClass (top 56) 0), [], false⟩
def d_Lane_init_at_Foot : HM.DefM := ⟨fun K => He.ma K (He.ga K "Lane") "__init__", "__init__", "Lane.__init__", defArgs (inClass (top 61) 0), defBody (inClass (top 61) 0), defScope (inClass (top 61) 0), [], false⟩
def d_Lane_init_at_Road : HM.DefM := ⟨fun K => He.ma K (He.ga K "Lane") "__init__", "__init__", "Lane.__init__", defArgs (inClass (top 61) 0), defBody (inClass (top 61) 0), defScope (inClass (top 61) 0), [], false⟩
def d_Foot_init : HM.DefM := ⟨fun K => He.ma K (He.ga K "Foot") "__init__", "__init__", "Foot.__init__", defArgs (inClass (top 62) 0), defBody (inClass (top 62) 0), defScope (inClass (top 62) 0), [], true⟩
def d_Road_init : HM.DefM := ⟨fun K => He.ma K (He.ga K "Road") "__init__", "__init__", "Road.__init__", defArgs (inClass (top 63) 0), defBody (inClass (top 63) 0), defScope (inClass (top 63) 0), [], true⟩
def d_are_streams : HM.DefM := ⟨fun K => He.ga K "are_streams", "are_streams", "are_streams", defArgs (top 68), defBody (top 68), defScope (top 68), [], false⟩
def d_check_phase : HM.DefM := ⟨fun K => He.ga K "check_phase", "check_phase", "check_phase", defArgs (top 69), defBody (top 69), defScope (top 69), [], false⟩
def d_Phase_init : HM.DefM := ⟨fun K => He.ma K (He.ga K "Phase") "__init__", "__init__", "Phase.__init__", defArgs (inClass (top 70) 0), defBody (inClass (top 70) 0), defScope (inClass (top 70) 0), [], false⟩
def d_Rate_init : HM.DefM := ⟨fun K => He.ma K (He.ga K "Rate") "__init__", "__init__", "Rate.__init__", defArgs (inClass (top 76) 0), defBody (inClass (top 76) 0), defScope (inClass (top 76) 0), [], false⟩
def d_bus_streams : HM.DefM := ⟨fun K => He.ga K "bus_streams", "bus_streams", "bus_streams", defArgs (top 78), defBody (top 78), defScope (top 78), [], false⟩
def d_Site_init : HM.DefM := ⟨fun K => He.ma K (He.ga K "Site") "__init__", "__init__", "Site.__init__", defArgs (inClass (top 79) 0), defBody (inClass (top 79) 0), defScope (inClass (top 79) 0), [], false⟩
def d_Street_init : HM.DefM := ⟨fun K => He.ma K (He.ga K "Street") "__init__", "__init__", "Street.__init__", defArgs (inClass (top 82) 0), defBody (inClass (top 82) 0), defScope (inClass (top 82) 0), [], false⟩
def d_check_sites : HM.DefM := ⟨fun K => He.ga K "check_sites", "check_sites", "check_sites", defArgs (top 87), defBody (top 87), defScope (top 87), [], false⟩
def d_check_offsets : HM.DefM := ⟨fun K => He.ga K "check_offsets", "check_offsets", "check_offsets", defArgs (top 88), defBody (top 88), defScope (top 88), [], false⟩
def d_is_source : HM.DefM := ⟨fun K => He.ga K "is_source", "is_source", "is_source", defArgs (top 89), defBody (top 89), defScope (top 89), [], false⟩
def d_check_sources : HM.DefM := ⟨fun K => He.ga K "check_sources", "check_sources", "check_sources", defArgs (top 90), defBody (top 90), defScope (top 90), [], false⟩
def d_road_at : HM.DefM := ⟨fun K => He.ga K "road_at", "road_at", "road_at", defArgs (top 91), defBody (top 91), defScope (top 91), [], false⟩
def d_fits : HM.DefM := ⟨fun K => He.ga K "fits", "fits", "fits", defArgs (top 92), defBody (top 92), defScope (top 92), [], false⟩
def d_check_streets : HM.DefM := ⟨fun K => He.ga K "check_streets", "check_streets", "check_streets", defArgs (top 93), defBody (top 93), defScope (top 93), [], false⟩
def d_check_town : HM.DefM := ⟨fun K => He.ga K "check_town", "check_town", "check_town", defArgs (top 94), defBody (top 94), defScope (top 94), [], false⟩
def d_first_numbers : HM.DefM := ⟨fun K => He.ga K "first_numbers", "first_numbers", "first_numbers", defArgs (top 96), defBody (top 96), defScope (top 96), [], false⟩
def d_pairs_of : HM.DefM := ⟨fun K => He.ga K "pairs_of", "pairs_of", "pairs_of", defArgs (top 97), defBody (top 97), defScope (top 97), [], false⟩
def d_Town_init : HM.DefM := ⟨fun K => He.ma K (He.ga K "Town") "__init__", "__init__", "Town.__init__", defArgs (inClass (top 98) 0), defBody (inClass (top 98) 0), defScope (inClass (top 98) 0), [], false⟩
def d_Town_at : HM.DefM := ⟨fun K => He.ma K (He.ga K "Town") "at", "at", "Town.at", defArgs (inClass (top 98) 6), defBody (inClass (top 98) 6), defScope (inClass (top 98) 6), [], false⟩
def d_Town_turned : HM.DefM := ⟨fun K => He.ma K (He.ga K "Town") "turned", "turned", "Town.turned", defArgs (inClass (top 98) 7), defBody (inClass (top 98) 7), defScope (inClass (top 98) 7), [], false⟩
def d_law_cell : HM.DefM := ⟨fun K => He.ga K "_law_cell", "_law_cell", "_law_cell", defArgs (top 100), defBody (top 100), defScope (top 100), [], false⟩
def d_law_hand : HM.DefM := ⟨fun K => He.ga K "_law_hand", "_law_hand", "_law_hand", defArgs (top 101), defBody (top 101), defScope (top 101), [], false⟩
def d_law_take : HM.DefM := ⟨fun K => He.ga K "_law_take", "_law_take", "_law_take", defArgs (top 102), defBody (top 102), defScope (top 102), [], false⟩
def d_law_is_int : HM.DefM := ⟨fun K => He.ga K "_law_is_int", "_law_is_int", "_law_is_int", defArgs (top 103), defBody (top 103), defScope (top 103), [], false⟩
def d_law_same : HM.DefM := ⟨fun K => He.ga K "_law_same", "_law_same", "_law_same", defArgs (top 104), defBody (top 104), defScope (top 104), [], false⟩
def d_law_streams : HM.DefM := ⟨fun K => He.ga K "_law_streams", "_law_streams", "_law_streams", defArgs (top 105), defBody (top 105), defScope (top 105), [], false⟩
def d_law_phase : HM.DefM := ⟨fun K => He.ga K "_law_phase", "_law_phase", "_law_phase", defArgs (top 106), defBody (top 106), defScope (top 106), [], false⟩
def d_law_phases : HM.DefM := ⟨fun K => He.ga K "_law_phases", "_law_phases", "_law_phases", defArgs (top 107), defBody (top 107), defScope (top 107), [], false⟩
def d_law_rivals : HM.DefM := ⟨fun K => He.ga K "_law_rivals", "_law_rivals", "_law_rivals", defArgs (top 108), defBody (top 108), defScope (top 108), [], false⟩
def d_law_lane : HM.DefM := ⟨fun K => He.ga K "_law_lane", "_law_lane", "_law_lane", defArgs (top 109), defBody (top 109), defScope (top 109), [], false⟩
def d_law_springs : HM.DefM := ⟨fun K => He.ga K "_law_springs", "_law_springs", "_law_springs", defArgs (top 110), defBody (top 110), defScope (top 110), [], false⟩
def d_law_site : HM.DefM := ⟨fun K => He.ga K "_law_site", "_law_site", "_law_site", defArgs (top 111), defBody (top 111), defScope (top 111), [], false⟩
def d_law_streets : HM.DefM := ⟨fun K => He.ga K "_law_streets", "_law_streets", "_law_streets", defArgs (top 112), defBody (top 112), defScope (top 112), [], false⟩
def d_law_town : HM.DefM := ⟨fun K => He.ga K "_law_town", "_law_town", "_law_town", defArgs (top 113), defBody (top 113), defScope (top 113), [], false⟩
def d_law_make_rate : HM.DefM := ⟨fun K => He.ga K "_law_make_rate", "_law_make_rate", "_law_make_rate", defArgs (top 114), defBody (top 114), defScope (top 114), [], false⟩
def d_law_make_lane : HM.DefM := ⟨fun K => He.ga K "_law_make_lane", "_law_make_lane", "_law_make_lane", defArgs (top 115), defBody (top 115), defScope (top 115), [], false⟩
def d_law_make_phase : HM.DefM := ⟨fun K => He.ga K "_law_make_phase", "_law_make_phase", "_law_make_phase", defArgs (top 116), defBody (top 116), defScope (top 116), [], false⟩
def d_law_make_book : HM.DefM := ⟨fun K => He.ga K "_law_make_book", "_law_make_book", "_law_make_book", defArgs (top 117), defBody (top 117), defScope (top 117), [], false⟩
def d_law_make_site : HM.DefM := ⟨fun K => He.ga K "_law_make_site", "_law_make_site", "_law_make_site", defArgs (top 118), defBody (top 118), defScope (top 118), [], false⟩
def d_law_make_town : HM.DefM := ⟨fun K => He.ga K "_law_make_town", "_law_make_town", "_law_make_town", defArgs (top 119), defBody (top 119), defScope (top 119), [], false⟩
def d_law_following : HM.DefM := ⟨fun K => He.ga K "_law_following", "_law_following", "_law_following", defArgs (top 120), defBody (top 120), defScope (top 120), [], false⟩
def d_law_still : HM.DefM := ⟨fun K => He.ga K "_law_still", "_law_still", "_law_still", defArgs (top 121), defBody (top 121), defScope (top 121), [], false⟩
def d_law_streams_shown : HM.DefM := ⟨fun K => He.ga K "_law_streams_shown", "_law_streams_shown", "_law_streams_shown", defArgs (top 122), defBody (top 122), defScope (top 122), [], false⟩
def d_law_reach : HM.DefM := ⟨fun K => He.ga K "_law_reach", "_law_reach", "_law_reach", defArgs (top 123), defBody (top 123), defScope (top 123), [], false⟩
def d_law_since : HM.DefM := ⟨fun K => He.ga K "_law_since", "_law_since", "_law_since", defArgs (top 124), defBody (top 124), defScope (top 124), [], false⟩
def d_law_begin : HM.DefM := ⟨fun K => He.ga K "_law_begin", "_law_begin", "_law_begin", defArgs (top 125), defBody (top 125), defScope (top 125), [], false⟩
def d_law_quiet_agrees : HM.DefM := ⟨fun K => He.ga K "_law_quiet_agrees", "_law_quiet_agrees", "_law_quiet_agrees", defArgs (top 126), defBody (top 126), defScope (top 126), [], false⟩
def d_law : HM.DefM := ⟨fun K => He.ga K "law", "law", "law", defArgs (top 127), defBody (top 127), defScope (top 127), [], false⟩
def fn0 : List HM.DefM := [d_is_urged, d_is_barred, d_is_wanted, d_is_held, d_Book_len, d_Book_phase, d_is_proper, d_check_lights, d_shown, d_following_phase, d_goes_on, d_Crossing_len, d_next_lights, d_quiet, d_check_stream, d_Crossing_longest, d_beats_since, d_Foot_foot, d_Road_foot, d_Rate_full, d_first_credit, d_Town_len, d_Town_lane, d_first_state, d_is_main]
def fn1 : List HM.DefM := [d_has_stranger, d_beats_needed, d_check_book, d_Book_init, d_is_name, d_check_streams, d_is_rival, d_rival_spans, d_greatest_span, d_Crossing_init, d_Lane_init_at_Foot, d_Lane_init_at_Road, d_Foot_init, d_Road_init, d_are_streams, d_check_phase, d_Phase_init, d_Rate_init, d_bus_streams, d_Site_init, d_Street_init, d_check_sites, d_check_offsets, d_is_source, d_check_sources]
def fn2 : List HM.DefM := [d_road_at, d_fits, d_check_streets, d_check_town, d_first_numbers, d_pairs_of, d_Town_init, d_Town_at, d_Town_turned, d_law_cell, d_law_hand, d_law_take, d_law_is_int, d_law_same, d_law_streams, d_law_phase, d_law_phases, d_law_rivals, d_law_lane, d_law_springs, d_law_site, d_law_streets, d_law_town, d_law_make_rate, d_law_make_lane]
def fn3 : List HM.DefM := [d_law_make_phase, d_law_make_book, d_law_make_site, d_law_make_town, d_law_following, d_law_still, d_law_streams_shown, d_law_reach, d_law_since, d_law_begin, d_law_quiet_agrees, d_law]
def fn : List HM.DefM := fn0 ++ fn1 ++ fn2 ++ fn3
def fa0 : List He.Fa := [.glo "is_urged", .glo "is_barred", .free "any", .free "len", .meth "Book" "__len__", .cls "Book", .meth "Book" "phase", .glo "is_proper", .glo "check_lights", .free "range", .glo "is_wanted", .glo "following_phase", .glo "is_held", .meth "Crossing" "__len__", .glo "goes_on", .glo "next_lights", .glo "check_stream", .cls "Crossing", .meth "Crossing" "longest", .free "min", .glo "shown", .cls "Foot", .cls "Road", .cls "Rate", .free "zip"]
def fa1 : List He.Fa := [.glo "quiet", .glo "beats_since", .meth "Town" "__len__", .cls "Town", .meth "Town" "lane", .glo "first_credit", .free "tuple", .int "LEAST_LENGTH" 2, .int "MOST_LENGTH" 12, .int "MOST_SIDE_PHASES" 12, .glo "is_main", .free "enumerate", .glo "has_stranger", .glo "beats_needed", .glo "check_book", .noat "Book" "crossing", .noat "Book" "length", .noat "Book" "main", .noat "Book" "phases", .noat "Book" "_numbered", .int "MOST_LETTERS" 8, .str "LETTERS" "abcdefghijklmnopqrstuvwxyz", .free "all", .int "MOST_STREAMS" 6, .glo "is_name"]
def fa2 : List He.Fa := [.int "MOST_SPAN" 9, .glo "is_rival", .free "max", .glo "check_streams", .glo "rival_spans", .noat "Crossing" "streams", .noat "Crossing" "rivals", .noat "Crossing" "_spans", .glo "greatest_span", .noat "Crossing" "_longest", .noat "Foot" "bound", .noat "Road" "bound", .int "MOST_FOOT_BOUND" 24, .free "super", .int "MOST_CAPACITY" 9, .int "MOST_BUS_BOUND" 12, .noat "Road" "capacity", .noat "Road" "rate", .noat "Road" "bus", .int "LAST_STREAM" 5, .glo "are_streams", .int "MOST_GREEN" 12, .int "MOST_PAUSE" 9, .glo "check_phase", .free "sorted"]
def fa3 : List He.Fa := [.cls "Phase", .noat "Phase" "green", .noat "Phase" "least", .noat "Phase" "most", .noat "Phase" "pause", .noat "Phase" "holds", .noat "Phase" "calls", .noat "Phase" "yields", .int "MOST_BURST" 3, .int "MOST_DEN" 6, .noat "Rate" "burst", .noat "Rate" "num", .noat "Rate" "den", .glo "bus_streams", .cls "Site", .noat "Site" "book", .noat "Site" "lanes", .int "MOST_TRAVEL" 6, .cls "Street", .noat "Street" "start", .noat "Street" "end", .noat "Street" "travel", .int "MOST_SITES" 4, .glo "is_source", .int "MOST_SOURCES" 6]
def fa4 : List He.Fa := [.glo "road_at", .int "MOST_STREETS" 6, .glo "fits", .glo "check_sites", .glo "check_offsets", .glo "check_sources", .glo "check_streets", .glo "check_town", .noat "Town" "length", .noat "Town" "sites", .noat "Town" "offsets", .noat "Town" "streets", .glo "first_numbers", .noat "Town" "_firsts", .glo "pairs_of", .noat "Town" "_pairs", .noat "Town" "_lanes", .mkr "Town", .glo "Town", .meth "Town" "at", .free "abs", .glo "_law_cell", .free "int", .free "isinstance", .free "bool"]
def fa5 : List He.Fa := [.glo "_law_is_int", .free "str", .free "list", .glo "_law_same", .glo "_law_take", .glo "_law_streams", .glo "_law_phase", .glo "_law_phases", .glo "_law_rivals", .glo "_law_springs", .glo "_law_lane", .glo "_law_site", .glo "_law_streets", .mkr "Rate", .glo "Rate", .mkr "Foot", .glo "Foot", .glo "_law_make_rate", .mkr "Road", .glo "Road", .mkr "Phase", .glo "Phase", .glo "_law_make_phase", .mkr "Crossing", .glo "Crossing"]
def fa6 : List He.Fa := [.mkr "Book", .glo "Book", .glo "_law_make_lane", .glo "_law_make_book", .mkr "Site", .glo "Site", .glo "_law_make_site", .mkr "Street", .glo "Street", .glo "_law_following", .glo "_law_reach", .glo "_law_streams_shown", .glo "_law_still", .glo "_law_since", .glo "_law_hand", .glo "_law_town", .glo "_law_make_town", .glo "_law_begin", .glo "first_state", .glo "_law_quiet_agrees", .meth "Town" "turned", .glo "law"]
def fa : List He.Fa := fa0 ++ fa1 ++ fa2 ++ fa3 ++ fa4 ++ fa5 ++ fa6
def nmL : List Str := [("crossing" : Str), ("length" : Str), ("main" : Str), ("phases" : Str), ("_numbered" : Str), ("streams" : Str), ("rivals" : Str), ("_spans" : Str), ("_longest" : Str), ("bound" : Str), ("capacity" : Str), ("rate" : Str), ("bus" : Str), ("green" : Str), ("least" : Str), ("most" : Str), ("pause" : Str), ("holds" : Str), ("calls" : Str), ("yields" : Str), ("burst" : Str), ("num" : Str), ("den" : Str), ("book" : Str), ("lanes" : Str), ("start" : Str), ("end" : Str), ("travel" : Str), ("sites" : Str), ("offsets" : Str), ("streets" : Str), ("_firsts" : Str), ("_pairs" : Str), ("_lanes" : Str)]
def clA (K : PySem.W.Frag) (c : Nat) : Addr := match c with
  | 0 => He.ga K "Book"
  | 1 => He.ga K "Crossing"
  | 2 => He.ga K "Foot"
  | 3 => He.ga K "Road"
  | 4 => He.ga K "Phase"
  | 5 => He.ga K "Rate"
  | 6 => He.ga K "Site"
  | 7 => He.ga K "Street"
  | 8 => He.ga K "Town"
  | 9 => He.ga K "Lane"
  | _ => 0
def exL (K : PySem.W.Frag) : List Bool := [HM.propB K "Foot" "foot",
  HM.propB K "Road" "foot",
  HM.propB K "Rate" "full",
  HM.etB K (He.dflAt ("next_lights", none) 0 K),
  HM.etB K (He.dflAt ("next_lights", none) 1 K),
  HM.supB K Pg.main.file "__init__" "self" "Foot" "Foot" (He.ma K (He.ga K "Foot") "__init__") (He.ma K (He.ga K "Lane") "__init__"),
  HM.supB K Pg.main.file "__init__" "self" "Road" "Road" (He.ma K (He.ga K "Road") "__init__") (He.ma K (He.ga K "Lane") "__init__")]
def ex (K : PySem.W.Frag) : Bool := (exL K).all id
end K63
end
section
set_option Elab.async false
set_option linter.all false
set_option maxRecDepth 100000
set_option maxHeartbeats 0
namespace K63
open PySem PySem.Spec PyProof.Rows L2 He
abbrev R : PySem.W.OpenRow := PySem.W.OpenLaw.row PySem.Challenge.rw_crossinglights_k63_first_state
def nm0 : List PySem.Str := ["_wall", "LightsError", "BadLights", "BadStreet", "BadCrossing", "BadBook", "BadSite", "BadTown", "BadRate", "BadPhase", "BadLane", "BadNumber", "UnknownStream", "UnknownPhase", "UnknownLane", "UnknownName", "BadCredit", "NoCredit", "is_proper", "check_lights", "shown", "is_urged", "is_barred", "is_wanted", "is_held", "following_phase", "goes_on", "next_lights", "quiet", "beats_since"]
def nm1 : List PySem.Str := ["first_credit", "first_state", "LEAST_LENGTH", "MOST_LENGTH", "MOST_SIDE_PHASES", "is_main", "has_stranger", "beats_needed", "check_book", "Book", "LETTERS", "MOST_LETTERS", "is_name", "MOST_STREAMS", "MOST_SPAN", "check_streams", "is_rival", "rival_spans", "greatest_span", "check_stream", "Crossing", "MOST_FOOT_BOUND", "MOST_CAPACITY", "MOST_BUS_BOUND", "Lane", "Foot", "Road", "LAST_STREAM", "MOST_GREEN", "MOST_PAUSE"]
def nm2 : List PySem.Str := ["are_streams", "check_phase", "Phase", "MOST_BURST", "MOST_DEN", "MOST_GREEDY_BEATS", "rounded_up", "Rate", "bus_streams", "Site", "MOST_TRAVEL", "Street", "MOST_SITES", "MOST_STREETS", "MOST_SOURCES", "check_sites", "check_offsets", "is_source", "check_sources", "road_at", "fits", "check_streets", "check_town", "first_numbers", "pairs_of", "Town", "_law_cell", "_law_hand", "_law_take", "_law_is_int"]
def nm3 : List PySem.Str := ["_law_same", "_law_streams", "_law_phase", "_law_phases", "_law_rivals", "_law_lane", "_law_springs", "_law_site", "_law_streets", "_law_town", "_law_make_rate", "_law_make_lane", "_law_make_phase", "_law_make_book", "_law_make_site", "_law_make_town", "_law_following", "_law_still", "_law_streams_shown", "_law_reach", "_law_since", "_law_begin", "_law_quiet_agrees"]
def names : List PySem.Str := nm0 ++ nm1 ++ nm2 ++ nm3
def ob (s : PySem.W.SharedT) : HM.AlM := HM.obsMG fa fn ex (HandSHeadRun.getT s)
theorem ob_eq (s : PySem.W.SharedT) : ob s = (HM.hookM fa fn ex).obs s.abs := by
  show HM.obsMG fa fn ex _ = HM.obsMG fa fn ex _
  rw [show HandSHeadRun.getT s = s.abs.heap.get? from funext fun a => HandSHeadRun.getT_eq s a]
theorem runF (w : World) (os : OsState) : (HandSHeadRun.endF (HandSHeadRun.stepQ (HandSHeadRun.denQ HandSHeadRun.tabQ) R.prog w) 10600 R.prog w os).map ob = some (HM.valM fn) := by
  kernel_rfl
theorem run1 (w : World) : HandSHeadRun.RunEq R (PySem.W.view R.prog [127]) PySem.W.Hook.none (fun _ => ()) 10600 names w := by
  intro os
  kernel_rfl
theorem run (w : World) : HandSHeadRun.RunEq R (PySem.W.view R.prog [127]) (HM.hookM fa fn ex) ob 10600 names w := HM.run_and (run1 w) (fun os => runF w os)
end K63
end
section
set_option Elab.async false
set_option linter.all false
/-! Core: data by value, cells for what is written in place, and the combinators that a def's body is turned into. -/
namespace CL
open PySem

inductive D where
  | non | bl (b : Bool) | int (i : Int) | str (s : Str)
  | tup (xs : List D) | lst (xs : List D) | dic (ks vs : List D) | obj (c : Nat) (ks : List Nat) (vs : List D) | cell (k : Nat) | scr (ns : List Int)

mutual
def D.beq : D → D → Bool
  | .non, .non => true
  | .bl a, .bl b => decide (a = b)
  | .int a, .int b => decide (a = b)
  | .str a, .str b => decide (a = b)
  | .tup a, .tup b => D.beqs a b
  | .lst a, .lst b => D.beqs a b
  | .dic a b, .dic c d => D.beqs a c && D.beqs b d
  | .obj c k v, .obj c' k' v' => decide (c = c') && (decide (k = k') && D.beqs v v')
  | .cell a, .cell b => decide (a = b)
  | .scr a, .scr b => decide (a = b)
  | _, _ => false
def D.beqs : List D → List D → Bool
  | [], [] => true
  | a :: r, b :: q => D.beq a b && D.beqs r q
  | _, _ => false
end
mutual
theorem D.beq_iff : ∀ (a b : D), D.beq a b = true ↔ a = b
  | .non, b => by cases b <;> simp [D.beq]
  | .bl a, b => by cases b <;> simp [D.beq]
  | .int a, b => by cases b <;> simp [D.beq]
  | .str a, b => by cases b <;> simp [D.beq]
  | .tup a, b => by cases b <;> simp [D.beq, D.beqs_iff a]
  | .lst a, b => by cases b <;> simp [D.beq, D.beqs_iff a]
  | .dic a a', b => by cases b <;> simp [D.beq, D.beqs_iff a, D.beqs_iff a']
  | .obj c k v, b => by cases b <;> simp [D.beq, D.beqs_iff v]
  | .cell a, b => by cases b <;> simp [D.beq]
  | .scr a, b => by cases b <;> simp [D.beq]
theorem D.beqs_iff : ∀ (a b : List D), D.beqs a b = true ↔ a = b
  | [], b => by cases b <;> simp [D.beqs]
  | a :: r, b => by cases b <;> simp [D.beqs, D.beq_iff a, D.beqs_iff r]
end
instance : DecidableEq D := fun a b => decidable_of_iff _ (D.beq_iff a b)

/-- what a cell holds -/
inductive Ct where
  | dead | lst (xs : List D) | dic (ks vs : List D) | obj (c : Nat) (ks : List Nat) (vs : List D)
  deriving DecidableEq

abbrev S := List Ct
/-- an exception: its class, its fields -/
structure Xc where
  c : Nat
  ks : List Nat := []
  vs : List D := []
inductive R (α : Type) where
  | fail | ok (a : α) (s : S) | exc (x : Xc) (s : S)
def R.b {α β : Type} (r : R α) (g : α → S → R β) : R β := match r with
  | .fail => .fail
  | .ok a s => g a s
  | .exc x s => .exc x s
@[simp] theorem R.b_fail {α β : Type} (g : α → S → R β) : (R.fail : R α).b g = .fail := rfl
@[simp] theorem R.b_ok {α β : Type} (a : α) (s : S) (g : α → S → R β) : (R.ok a s).b g = g a s := rfl
@[simp] theorem R.b_exc {α β : Type} (x : Xc) (s : S) (g : α → S → R β) : (R.exc x s : R α).b g = .exc x s := rfl
def R.of {α : Type} (o : Option α) (s : S) : R α := match o with
  | none => .fail
  | some a => .ok a s
@[simp] theorem R.of_none {α : Type} (s : S) : (R.of (none : Option α) s) = .fail := rfl
@[simp] theorem R.of_some {α : Type} (a : α) (s : S) : R.of (some a) s = .ok a s := rfl

abbrev Env := List (Option D)
abbrev Ex := Env → S → R D
abbrev Tx := Env → S → R Bool
abbrev Ax := Env → S → R (List D)
abbrev Fn := List D → S → R D
inductive Fl where
  | nx (ρ : Env) | ret (d : D) | bk (ρ : Env) | ct (ρ : Env)
abbrev Sx := Env → S → R Fl

/-! ### cells that an answer leans on -/
mutual
/-- no cell at n or above -/
def D.bel (n : Nat) : D → Bool
  | .tup xs => D.bels n xs
  | .lst xs => D.bels n xs
  | .dic ks vs => D.bels n ks && D.bels n vs
  | .obj _ _ vs => D.bels n vs
  | .cell k => decide (k < n)
  | _ => true
def D.bels (n : Nat) : List D → Bool
  | [] => true
  | d :: r => D.bel n d && D.bels n r
end
def Ct.bel (n : Nat) : Ct → Bool
  | .dead => true
  | .lst xs => D.bels n xs
  | .dic ks vs => D.bels n ks && D.bels n vs
  | .obj _ _ vs => D.bels n vs
mutual
/-- nothing in it that could be written: no list, dict, object -/
def D.pure : D → Bool
  | .tup xs => D.pures xs
  | .lst _ => false
  | .dic _ _ => false
  | .obj _ _ _ => false
  | .scr _ => false
  | _ => true
def D.pures : List D → Bool
  | [] => true
  | d :: r => D.pure d && D.pures r
end
def Ct.pure : Ct → Bool
  | .dead => true
  | .lst xs => D.pures xs
  | .dic _ vs => D.pures vs
  | .obj _ _ vs => D.pures vs
/-- the first n cells behind a def's run: as at the entry s, or leaning on these n alone -/
def cutOk (n : Nat) (s s' : S) : Bool := decide (n ≤ s'.length) && (decide (s'.take n = s) || (s'.take n).all (Ct.bel n))

/-! ### values -/
def seqOf (s : S) : D → Option (List D)
  | .tup xs => some xs
  | .lst xs => some xs
  | .scr ns => some (ns.map .int)
  | .cell k => match s[k]? with
    | some (.lst xs) => some xs
    | _ => none
  | _ => none
/-- a list that does not change -/
def lstOf : D → Option (List D)
  | .tup xs => some xs
  | .lst xs => some xs
  | _ => none
def truD (s : S) : D → Option Bool
  | .non => some false
  | .bl b => some b
  | .int i => some (i != 0)
  | .tup xs => some (!xs.isEmpty)
  | .lst xs => some (!xs.isEmpty)
  | .cell k => match s[k]? with
    | some (.lst xs) => some (!xs.isEmpty)
    | _ => none
  | _ => none

/-! ### operations on values -/
def addD (s : S) : D → D → Option D
  | .int i, .int j => some (.int (i + j))
  | .str a, .str b => if a.length + b.length ≤ sizeLine then some (.str (a ++ b)) else none
  | .tup xs, .tup ys => if xs.length + ys.length ≤ sizeLine then some (.tup (xs ++ ys)) else none
  | .lst xs, .lst ys => if xs.length + ys.length ≤ sizeLine then some (.lst (xs ++ ys)) else none
  | _, _ => none
def subD (_ : S) : D → D → Option D
  | .int i, .int j => some (.int (i - j))
  | _, _ => none
def mulD (_ : S) : D → D → Option D
  | .int i, .int j => if (-(2 ^ 64) < i ∧ i < 2 ^ 64) ∨ (-(2 ^ 64) < j ∧ j < 2 ^ 64) then some (.int (i * j)) else none
  | .tup xs, .int n => if 1 ≤ n ∧ n ≤ 1000 ∧ 1 ≤ xs.length ∧ xs.length ≤ 1000 then some (.tup (List.replicate n.toNat xs).flatten) else none
  | _, _ => none
def modD (_ : S) : D → D → Option D
  | .int i, .int j => if 0 < j then some (.int (i % j)) else none
  | _, _ => none
def fdivD (_ : S) : D → D → Option D
  | .int i, .int j => if 0 < j ∧ j < 1073741824 then some (.int (i / j)) else none
  | _, _ => none
def powD (_ : S) : D → D → Option D
  | .int i, .int j => if 0 ≤ j ∧ j ≤ 1000000 ∧ i.natAbs < 2 ^ 64 then some (.int (i ^ j.toNat)) else none
  | _, _ => none
mutual
def toPy : D → Option PyData
  | .non => some .none
  | .bl b => some (.bool b)
  | .int i => some (.int i)
  | .str x => some (.str x)
  | .tup xs => (toPys xs).map .tuple
  | .lst xs => (toPys xs).map .list
  | _ => none
def toPys : List D → Option (List PyData)
  | [] => some []
  | d :: r => match toPy d, toPys r with
    | some x, some xs => some (x :: xs)
    | _, _ => none
end
/-- scalars, of one kind or of two that are never equal -/
def scalD : D → D → Bool
  | .non, .non => true | .non, .int _ => true | .int _, .non => true | .non, .bl _ => true | .bl _, .non => true | .non, .str _ => true | .str _, .non => true
  | .int _, .int _ => true | .bl _, .bl _ => true | .str _, .str _ => true
  | .int _, .str _ => true | .str _, .int _ => true | .bl _, .str _ => true | .str _, .bl _ => true
  | _, _ => false
def eqB (a b : D) : Option Bool := if scalD a b = true then some (decide (a = b)) else match toPy a, toPy b with
  | some x, some y => if (SeqAt.shaped x && SeqAt.shaped y) = true then some (PyData.eqv x y) else none
  | _, _ => none
def eqD (_ : S) (a b : D) : Option D := (eqB a b).map .bl
def neD (_ : S) (a b : D) : Option D := (eqB a b).map fun k => .bl (!k)
def ltD (_ : S) : D → D → Option D
  | .int i, .int j => some (.bl (decide (i < j)))
  | _, _ => none
def leD (_ : S) : D → D → Option D
  | .int i, .int j => some (.bl (decide (i ≤ j)))
  | _, _ => none
def gtD (_ : S) : D → D → Option D
  | .int i, .int j => some (.bl (decide (j < i)))
  | _, _ => none
def geD (_ : S) : D → D → Option D
  | .int i, .int j => some (.bl (decide (j ≤ i)))
  | _, _ => none
def isD (_ : S) (a b : D) : Option D := if b = .non then some (.bl (decide (a = .non))) else none
def isnD (_ : S) (a b : D) : Option D := if b = .non then some (.bl (!decide (a = .non))) else none
/-- flat values, for «in» -/
def D.flat : D → Bool
  | .non => true
  | .bl _ => true
  | .int _ => true
  | .str _ => true
  | _ => false
/-- an int or a text among ints and texts -/
def D.key1 : D → Bool
  | .int _ => true
  | .str _ => true
  | _ => false
def D.keyT : D → Bool
  | .tup xs => !xs.isEmpty && xs.all D.key1
  | _ => false
def inD (s : S) (x c : D) : Option D := match c with
  | .str z => match x with
    | .str y => if y.length = 1 then some (.bl (decide (y.cps.getD 0 0 ∈ z.cps.toList))) else none
    | _ => none
  | .cell k => match s[k]? with
    | some (.lst xs) => if (x.key1 && xs.all D.key1) = true then some (.bl (decide (x ∈ xs))) else none
    | _ => none
  | .tup xs => if (x.key1 && xs.all D.key1) = true then some (.bl (decide (x ∈ xs))) else none
  | .lst xs => if (x.key1 && xs.all D.key1) = true then some (.bl (decide (x ∈ xs))) else none
  | _ => none
def ixD (s : S) (a i : D) : Option D := match i with
  | .int n => (seqOf s a).bind fun xs => L2.atI xs n
  | _ => none
def cutD (xs : List D) (lo hi : Option Int) : List D := (xs.drop (HT.sIx xs.length 0 lo)).take (HT.sIx xs.length xs.length hi - HT.sIx xs.length 0 lo)
def slD (s : S) (a : D) (lo hi : Option Int) : Option D := match a with
  | .tup xs => some (.tup (cutD xs lo hi))
  | .lst xs => some (.lst (cutD xs lo hi))
  | .cell k => match s[k]? with
    | some (.lst xs) => some (.lst (cutD xs lo hi))
    | _ => none
  | _ => none
def lenD (s : S) : D → Option D
  | .str z => if z.length ≤ sizeLine then some (.int z.length) else none
  | d => (seqOf s d).map fun xs => .int xs.length
def fget : List Nat → List D → Nat → Option D
  | k :: ks, v :: vs, f => if k = f then some v else fget ks vs f
  | _, _, _ => none
def fput : List Nat → List D → Nat → D → List Nat × List D
  | k :: ks, v :: vs, f, d => if k = f then (k :: ks, d :: vs) else let r := fput ks vs f d; (k :: r.1, v :: r.2)
  | _, _, f, d => ([f], [d])
def fldD (f : Nat) (s : S) : D → Option D
  | .obj _ ks vs => fget ks vs f
  | .cell k => match s[k]? with
    | some (.obj _ ks vs) => fget ks vs f
    | _ => none
  | _ => none

/-! ### expressions -/
def eVar (i : Nat) : Ex := fun ρ s => match ρ[i]? with
  | some (some d) => .ok d s
  | _ => .fail
def eC (d : D) : Ex := fun _ s => .ok d s
/-- what is never come to -/
def eNo : Ex := fun _ _ => .fail
def e1 (op : S → D → Option D) (a : Ex) : Ex := fun ρ s => (a ρ s).b fun x s => R.of (op s x) s
def e2 (op : S → D → D → Option D) (a b : Ex) : Ex := fun ρ s => (a ρ s).b fun x s => (b ρ s).b fun y s => R.of (op s x y) s
def negD (_ : S) : D → Option D
  | .int i => some (.int (-i))
  | _ => none
/-- a op b op' c -/
def eCh (op op' : S → D → D → Option D) (a b c : Ex) : Ex := fun ρ s => (a ρ s).b fun x s => (b ρ s).b fun y s => match op s x y with
  | some (.bl true) => (c ρ s).b fun z s => R.of (op' s y z) s
  | some (.bl false) => .ok (.bl false) s
  | _ => .fail
def eAnd (a b : Ex) : Ex := fun ρ s => (a ρ s).b fun x s => match x with
  | .bl true => b ρ s
  | .bl false => .ok (.bl false) s
  | _ => .fail
def eOr (a b : Ex) : Ex := fun ρ s => (a ρ s).b fun x s => match x with
  | .bl false => b ρ s
  | .bl true => .ok (.bl true) s
  | _ => .fail
def eNot (t : Tx) : Ex := fun ρ s => (t ρ s).b fun k s => .ok (.bl (!k)) s
def eIf (t : Tx) (a b : Ex) : Ex := fun ρ s => (t ρ s).b fun k s => if k = true then a ρ s else b ρ s
/-- tests -/
def tVal (a : Ex) : Tx := fun ρ s => (a ρ s).b fun x s => match x with
  | .bl k => .ok k s
  | _ => .fail
def tTru (a : Ex) : Tx := fun ρ s => (a ρ s).b fun x s => R.of (truD s x) s
def tAnd (a b : Tx) : Tx := fun ρ s => (a ρ s).b fun k s => if k = true then b ρ s else .ok false s
def tOr (a b : Tx) : Tx := fun ρ s => (a ρ s).b fun k s => if k = true then .ok true s else b ρ s
def tNot (a : Tx) : Tx := fun ρ s => (a ρ s).b fun k s => .ok (!k) s
/-- argument lists -/
def aNil : Ax := fun _ s => .ok [] s
def aCons (a : Ex) (r : Ax) : Ax := fun ρ s => (a ρ s).b fun x s => (r ρ s).b fun xs s => .ok (x :: xs) s
/-- *a ahead of the others -/
def aStar (a : Ex) (r : Ax) : Ax := fun ρ s => (a ρ s).b fun x s => match lstOf x with
  | some ys => (r ρ s).b fun xs s => .ok (ys ++ xs) s
  | none => .fail
def eTup (a : Ax) : Ex := fun ρ s => (a ρ s).b fun xs s => if xs.length ≤ sizeLine then .ok (.tup xs) s else .fail
def eLst (a : Ax) : Ex := fun ρ s => (a ρ s).b fun xs s => if xs.length ≤ sizeLine then .ok (.lst xs) s else .fail
/-- a list that will be written: a cell -/
def eLstC (a : Ax) : Ex := fun ρ s => (a ρ s).b fun xs s => if xs.length ≤ sizeLine ∧ D.bels 0 xs = true then .ok (.cell s.length) (s ++ [.lst xs]) else .fail
def eDicC : Ex := fun _ s => .ok (.cell s.length) (s ++ [.dic [] []])
abbrev Ox := Env → S → R (Option Int)
def oNo : Ox := fun _ s => .ok none s
def oAt (l : Ex) : Ox := fun ρ s => (l ρ s).b fun y s => match y with
  | .int i => .ok (some i) s
  | _ => .fail
def eSl (a : Ex) (lo hi : Ox) : Ex := fun ρ s => (a ρ s).b fun x s => (lo ρ s).b fun l s => (hi ρ s).b fun h s => R.of (slD s x l h) s

/-! ### calls -/
/-- f(..): φ what the def is worth -/
def eCall (φ : Fn) (a : Ax) : Ex := fun ρ s => (a ρ s).b fun ds s => φ ds s
/-- f(.., x, ..) with the cell's list at the i-th place lent: nothing is written meanwhile -/
def eLend (i : Nat) (φ : Fn) (a : Ax) : Ex := fun ρ s => (a ρ s).b fun ds s => match ds[i]? with
  | some (.cell k) => (match s[k]? with
    | some (.lst xs) => (match φ (ds.set i (.lst xs)) (s.map fun _ => Ct.dead) with
      | .ok d s' => if s' = (s.map fun _ => Ct.dead) ∧ d.pure = true then .ok d s else .fail
      | _ => .fail)
    | _ => .fail)
  | _ => .fail
/-- C(..): a new instance, its __init__; behind it the instance is not written any more -/
def eMake (c : Nat) (φ : Fn) (a : Ax) : Ex := fun ρ s => (a ρ s).b fun ds s => (φ (.cell s.length :: ds) (s ++ [.obj c [] []])).b fun d s' =>
  if d = .non ∧ s'.length = s.length + 1 then (match s'[s.length]? with
    | some (.obj c' ks vs) => if (D.bels s.length vs && (s'.take s.length).all (Ct.bel s.length)) = true ∨ (D.bels s.length vs = true ∧ s'.take s.length = s) then .ok (.obj c' ks vs) (s'.take s.length) else .fail
    | _ => .fail) else .fail
/-- .. with defaults that fill up -/
def eCallD (dd : List D) (φ : Fn) (a : Ax) : Ex := fun ρ s => (a ρ s).b fun ds s => φ (ds ++ dd) s
/-- the class of an instance -/
def clsOf (s : S) : D → Option Nat
  | .obj c _ _ => some c
  | .cell k => (match s[k]? with
    | some (.obj c _ _) => some c
    | _ => none)
  | _ => none
/-- o.m(..) of an instance of the class c -/
def eMeth (c : Nat) (φ : Fn) (o : Ex) (a : Ax) : Ex := fun ρ s => (o ρ s).b fun x s => if clsOf s x = some c then (a ρ s).b fun ds s => φ (x :: ds) s else .fail
/-- o.f, a property -/
def eProp (c : Nat) (φ : Fn) (o : Ex) : Ex := fun ρ s => (o ρ s).b fun x s => if clsOf s x = some c then φ [x] s else .fail
/-- len(o), o of a class of its own with __len__ -/
def eLenO (c : Nat) (φ : Fn) (o : Ex) : Ex := fun ρ s => (o ρ s).b fun x s => if clsOf s x = some c then (φ [x] s).b fun d s => match d with
  | .int n => if 0 ≤ n ∧ n < 2 ^ 63 then .ok (.int n) s else .fail
  | _ => .fail else .fail
/-- C(.., k = v, ..), the keywords in the parameters' order and all of them -/
def eMakeK (c : Nat) (φ : Fn) (a b : Ax) : Ex := eMake c φ fun ρ s => (a ρ s).b fun xs s => (b ρ s).b fun ys s => .ok (xs ++ ys) s
/-- one of two readings -/
def eAlt (f f' : Ex) : Ex := fun ρ s => match f ρ s with
  | .fail => f' ρ s
  | r => r
/-- a def's run: ds its arguments (n of them), the other names without a value -/
def runB (n all : Nat) (body : Sx) : Fn := fun ds s => if ds.length = n then (match body (ds.map some ++ List.replicate (all - n) none) s with
  | .ok (.ret d) s' => if (cutOk s.length s s' && d.bel s.length) = true then .ok d (s'.take s.length) else .fail
  | .ok (.nx _) s' => if cutOk s.length s s' = true then .ok .non (s'.take s.length) else .fail
  | .exc x s' => if (cutOk s.length s s' && D.bels s.length x.vs) = true then .exc x (s'.take s.length) else .fail
  | _ => .fail) else .fail
/-- a def that hands back a new cell -/
def runC (n all : Nat) (body : Sx) : Fn := fun ds s => if ds.length = n then (match body (ds.map some ++ List.replicate (all - n) none) s with
  | .ok (.ret d) s' => .ok d s'
  | _ => .fail) else .fail
/-- a list -/
def lsOf (s : S) : D → Option (List D)
  | .lst xs => some xs
  | .cell k => (match s[k]? with
    | some (.lst xs) => some xs
    | _ => none)
  | _ => none
/-- list(x), tuple(x) -/
def listD (s : S) (x : D) : Option D := (seqOf s x).map .lst
def tupleD (s : S) (x : D) : Option D := (seqOf s x).map .tup
def intsD : List D → Option (List Int)
  | [] => some []
  | .int i :: r => (intsD r).map (i :: ·)
  | _ => none
def bolsD : List D → Option (List Bool)
  | [] => some []
  | .bl i :: r => (bolsD r).map (i :: ·)
  | _ => none
def int1D (_ : S) : D → Option D
  | .int i => some (.int i)
  | .bl k => some (.int (if k then 1 else 0))
  | _ => none
def abs1D (_ : S) : D → Option D
  | .int i => some (.int (if i < 0 then -i else i))
  | _ => none
def min2D (_ : S) : D → D → Option D
  | .int i, .int j => some (.int (if j < i then j else i))
  | _, _ => none
def max2D (_ : S) : D → D → Option D
  | .int i, .int j => some (.int (if j > i then j else i))
  | _, _ => none
/-- min(a, b, c) -/
def eMin3 (a b c : Ex) : Ex := fun ρ s => (a ρ s).b fun x s => (b ρ s).b fun y s => (c ρ s).b fun z s => match x, y, z with
  | .int i, .int j, .int k => .ok (.int (if k < (if j < i then j else i) then k else (if j < i then j else i))) s
  | _, _, _ => .fail
def insI (x : Int) : List Int → List Int
  | [] => [x]
  | y :: r => if x ≤ y then x :: y :: r else y :: insI x r
def sortI : List Int → List Int
  | [] => []
  | x :: r => insI x (sortI r)
def sortD (s : S) (x : D) : Option D := (lsOf s x).bind fun xs => (intsD xs).map fun ns => .lst ((sortI ns).map .int)
def maxI : List Int → Option Int
  | [] => none
  | x :: r => some (r.foldl (fun a b => if b > a then b else a) x)
def maxD (s : S) (x : D) : Option D := (lsOf s x).bind fun xs => (intsD xs).bind fun ns => (maxI ns).map .int
/-- max(x, default=y) -/
def maxDefD (s : S) (x y : D) : Option D := (lsOf s x).bind fun xs => (intsD xs).bind fun ns => match maxI ns with
  | some m => some (.int m)
  | none => some y
def minI : List Int → Option Int
  | [] => none
  | x :: r => some (r.foldl (fun a b => if b < a then b else a) x)
def minD (s : S) (x : D) : Option D := (lsOf s x).bind fun xs => (intsD xs).bind fun ns => (minI ns).map .int
def anyD (s : S) (x : D) : Option D := (lsOf s x).bind fun xs => (bolsD xs).map fun bs => .bl (bs.any id)
def allD (s : S) (x : D) : Option D := (lsOf s x).bind fun xs => (bolsD xs).map fun bs => .bl (bs.all id)
/-- isinstance(x, T), T a built-in class by its name -/
def isTyD (t : String) (s : S) (x : D) : Option D := match x with
  | .non => some (.bl false)
  | .bl _ => some (.bl (t == "int" || t == "bool"))
  | .int _ => some (.bl (t == "int"))
  | .str _ => some (.bl (t == "str"))
  | .tup _ => some (.bl (t == "tuple"))
  | .lst _ => some (.bl (t == "list"))
  | .cell k => (match s[k]? with
    | some (.lst _) => some (.bl (t == "list"))
    | _ => none)
  | _ => none
def dfind : List D → List D → D → Option D
  | k :: ks, v :: vs, x => if k = x then some v else dfind ks vs x
  | _, _, _ => none
def drep (x y : D) : List D → List D → List D
  | k :: ks, v :: vs => (if k = x then y else v) :: drep x y ks vs
  | _, _ => []
def dput (ks vs : List D) (x y : D) : List D × List D := if x ∈ ks then (ks, drep x y ks vs) else (ks ++ [x], vs ++ [y])
def dicOf (s : S) : D → Option (List D × List D)
  | .dic ks vs => some (ks, vs)
  | .cell k => (match s[k]? with
    | some (.dic ks vs) => some (ks, vs)
    | _ => none)
  | _ => none
/-- k in d -/
def dinD (s : S) (x d : D) : Option D := if x.keyT then (dicOf s d).map fun p => .bl (dfind p.1 p.2 x).isSome else none
/-- d.get(k) -/
def dgetD (s : S) (d x : D) : Option D := if x.keyT then (dicOf s d).map fun p => (dfind p.1 p.2 x).getD .non else none
/-- d[k] -/
def ditemD (s : S) (d x : D) : Option D := if x.keyT then (dicOf s d).bind fun p => dfind p.1 p.2 x else none
/-- what a name that held a cell is worth when the cell is not written any more -/
def eFrz (a : Ex) : Ex := fun ρ s => (a ρ s).b fun x s => match x with
  | .cell k => (match s[k]? with
    | some (.lst xs) => .ok (.lst xs) (s.set k .dead)
    | some (.dic ks vs) => .ok (.dic ks vs) (s.set k .dead)
    | some (.obj c ks vs) => .ok (.obj c ks vs) (s.set k .dead)
    | _ => .fail)
  | _ => .fail
/-- a cell's list -/
def isL (s : S) : D → Bool
  | .cell k => (match s[k]? with
    | some (.lst _) => true
    | _ => false)
  | _ => false
/-- xs.pop(i), xs a cell's list -/
def ePopAt (a i : Ex) : Ex := fun ρ s => (a ρ s).b fun x s => if isL s x = true then (i ρ s).b fun y s => match x, y with
  | .cell k, .int n => (match s[k]? with
    | some (.lst xs) => (match L2.ixN xs.length n with
      | some j => (match xs[j]? with
        | some v => if D.bel 0 v = true ∧ -(2 ^ 63) ≤ n ∧ n < 2 ^ 63 then .ok v (s.set k (.lst (xs.eraseIdx j))) else .fail
        | none => .fail)
      | none => .fail)
    | _ => .fail)
  | _, _ => .fail else .fail

/-! ### what a for or a comprehension walks -/
abbrev Ix := Env → S → R (List D)
def iLst (a : Ex) : Ix := fun ρ s => (a ρ s).b fun x s => R.of (lstOf x) s
def rangeD (lo hi : Int) : List D := (List.range (hi - lo).toNat).map fun i => .int (lo + (i : Nat))
def iRng (a : Ex) : Ix := fun ρ s => (a ρ s).b fun x s => match x with
  | .int n => if -(2 ^ 62) ≤ n ∧ n ≤ sizeLine then .ok (rangeD 0 n) s else .fail
  | _ => .fail
def iRng2 (a b : Ex) : Ix := fun ρ s => (a ρ s).b fun x s => (b ρ s).b fun y s => match x, y with
  | .int m, .int n => if 0 ≤ m ∧ m ≤ sizeLine ∧ -(2 ^ 62) ≤ n ∧ n ≤ sizeLine then .ok (rangeD m n) s else .fail
  | _, _ => .fail
def enumD : Nat → List D → List D
  | _, [] => []
  | n, x :: r => .tup [.int (n : Int), x] :: enumD (n + 1) r
def iEnum (a : Ex) : Ix := fun ρ s => (a ρ s).b fun x s => match x with
  | .lst xs => .ok (enumD 0 xs) s
  | .tup xs => .ok (enumD 0 xs) s
  | _ => .fail
def chrD (x : Str) : List D := x.cps.toList.map fun c => .str ⟨#[c]⟩
def iStr (a : Ex) : Ix := fun ρ s => (a ρ s).b fun x s => match x with
  | .str z => if z.length ≤ sizeLine then .ok (chrD z) s else .fail
  | _ => .fail
def zipD : List D → List D → List D
  | x :: r, y :: q => .tup [x, y] :: zipD r q
  | _, _ => []
def iZip (a b : Ex) : Ix := fun ρ s => (a ρ s).b fun x s => (b ρ s).b fun y s => match x, y with
  | .lst xs, .lst ys => .ok (zipD xs ys) s
  | .tup xs, .tup ys => .ok (zipD xs ys) s
  | _, _ => .fail
def iItems (a : Ex) : Ix := fun ρ s => (a ρ s).b fun x s => match x with
  | .dic ks vs => .ok (zipD ks vs) s
  | _ => .fail
/-- targets -/
inductive Tg where
  | name (i : Nat) | tup (is : List Nat)
def setAll : List Nat → List D → Env → Option Env
  | [], [], ρ => some ρ
  | i :: is, d :: ds, ρ => setAll is ds (ρ.set i (some d))
  | _, _, _ => none
def Tg.set (t : Tg) (d : D) (ρ : Env) : Option Env := match t with
  | .name i => some (ρ.set i (some d))
  | .tup is => match d with
    | .tup xs => setAll is xs ρ
    | _ => none
def wipeE (ρ : Env) : List Nat → Env
  | [] => ρ
  | i :: r => (wipeE ρ r).set i none
/-- no exception leaves a comprehension -/
def R.nx {α : Type} (r : R α) : R α := match r with
  | .exc _ _ => .fail
  | r => r
@[simp] theorem R.nx_ok {α : Type} (a : α) (s : S) : (R.ok a s).nx = .ok a s := rfl
@[simp] theorem R.nx_fail {α : Type} : (R.fail : R α).nx = .fail := rfl
/-- the turns of [e for x in .. if t] -/
def compF (g : D → Env → Option Env) (t : Tx) (e : Ex) (ρ : Env) : List D → S → R (List D)
  | [], s => .ok [] s
  | x :: r, s => match g x ρ with
    | none => .fail
    | some ρ1 => (t ρ1 s).nx.b fun k s => if k = true then (e ρ1 s).nx.b fun y s => (compF g t e ρ r s).b fun ys s => .ok (y :: ys) s else compF g t e ρ r s
def tYes : Tx := fun _ s => .ok true s
def eLc (own : List Nat) (it : Ix) (g : Tg) (t : Tx) (e : Ex) : Ex := fun ρ s => (it ρ s).b fun xs s => (compF g.set t e (wipeE ρ own) xs s).b fun ys s => .ok (.lst ys) s
/-- [e for .. in d.items() if t], d the name i -/
def eLcI (own : List Nat) (i : Nat) (g : Tg) (t : Tx) (e : Ex) : Ex := fun ρ s => match ρ[i]? with
  | some (some (.dic ks vs)) => if vs.length ≤ sizeLine then (compF g.set t e (wipeE ρ own) (zipD ks vs) s).nx.b fun ys s => .ok (.lst ys) s else .fail
  | _ => .fail
/-- with two fors: the inner turns -/
def compF2 (g : D → Env → Option Env) (inner : Env → S → R (List D)) (ρ : Env) : List D → S → R (List D)
  | [], s => .ok [] s
  | x :: r, s => match g x ρ with
    | none => .fail
    | some ρ1 => (inner ρ1 s).nx.b fun ys s => (compF2 g inner ρ r s).b fun zs s => .ok (ys ++ zs) s
def eLc2 (own : List Nat) (it : Ix) (g : Tg) (own1 : List Nat) (it1 : Ix) (g1 : Tg) (e : Ex) : Ex := fun ρ s => (it ρ s).b fun xs s =>
  (compF2 g.set (fun ρ1 s => (it1 ρ1 s).b fun ys s => compF g1.set tYes e (wipeE ρ1 own1) ys s) (wipeE ρ own) xs s).b fun ys s => if ys.length ≤ sizeLine then .ok (.lst ys) s else .fail

/-! ### statements -/
def sNil : Sx := fun ρ s => .ok (.nx ρ) s
def sSeq (a b : Sx) : Sx := fun ρ s => (a ρ s).b fun f s => match f with
  | .nx ρ' => b ρ' s
  | f => .ok f s
def sSet (g : Tg) (e : Ex) : Sx := fun ρ s => (e ρ s).b fun d s => match g.set d ρ with
  | some ρ' => .ok (.nx ρ') s
  | none => .fail
def sExpr (e : Ex) : Sx := fun ρ s => (e ρ s).b fun _ s => .ok (.nx ρ) s
def sRet (e : Ex) : Sx := fun ρ s => (e ρ s).b fun d s => .ok (.ret d) s
def sRetN : Sx := fun _ s => .ok (.ret .non) s
def sIf (t : Tx) (a b : Sx) : Sx := fun ρ s => (t ρ s).b fun k s => if k = true then a ρ s else b ρ s
def sBrk : Sx := fun ρ s => .ok (.bk ρ) s
def sCt : Sx := fun ρ s => .ok (.ct ρ) s
/-- code that is never come to -/
def sNo : Sx := fun _ _ => .fail
def forF (g : D → Env → Option Env) (body : Sx) : List D → Env → S → R Fl
  | [], ρ, s => .ok (.nx ρ) s
  | x :: r, ρ, s => match g x ρ with
    | none => .fail
    | some ρ1 => (body ρ1 s).b fun f s => match f with
      | .nx ρ2 => forF g body r ρ2 s
      | .ct ρ2 => forF g body r ρ2 s
      | .bk ρ2 => .ok (.nx ρ2) s
      | .ret d => .ok (.ret d) s
def sFor (it : Ix) (g : Tg) (body : Sx) : Sx := fun ρ s => (it ρ s).b fun xs s => forF g.set body xs ρ s
/-- o.f = e, o a cell's object of the class c -/
def sFld (c : Nat) (o : Ex) (f : Nat) (e : Ex) : Sx := fun ρ s => (e ρ s).b fun y s => (o ρ s).b fun x s => match x with
  | .cell k => (match s[k]? with
    | some (.obj c' ks vs) => if c' = c ∧ ks.length < 1000 ∧ ks.length = vs.length ∧ D.bel k y = true then .ok (.nx ρ) (s.set k (.obj c (fput ks vs f y).1 (fput ks vs f y).2)) else .fail
    | _ => .fail)
  | _ => .fail
/-- o[i] = e, o a cell's list -/
def sSubL (o i e : Ex) : Sx := fun ρ s => (e ρ s).b fun y s => (o ρ s).b fun x s => (i ρ s).b fun z s => match x with
  | .cell k => (match s[k]? with
    | some (.lst xs) => (match z with
      | .int n => (match L2.ixN xs.length n with
        | some j => if D.bel 0 y = true then .ok (.nx ρ) (s.set k (.lst (xs.set j y))) else .fail
        | none => .fail)
      | _ => .fail)
    | _ => .fail)
  | _ => .fail
/-- o[i] = e, o a cell's dict -/
def sSubD (o i e : Ex) : Sx := fun ρ s => (e ρ s).b fun y s => (o ρ s).b fun x s => (i ρ s).b fun z s => match x with
  | .cell k => (match s[k]? with
    | some (.dic ks vs) => if z.keyT = true ∧ ks.length < sizeLine ∧ D.bel 0 y = true then .ok (.nx ρ) (s.set k (.dic (dput ks vs z y).1 (dput ks vs z y).2)) else .fail
    | _ => .fail)
  | _ => .fail
/-- xs.append(e), xs a cell's list -/
def sApp (o e : Ex) : Sx := fun ρ s => (o ρ s).b fun x s => if isL s x = true then (e ρ s).b fun y s => match x with
  | .cell k => (match s[k]? with
    | some (.lst xs) => if xs.length < sizeLine ∧ D.bel 0 y = true then .ok (.nx ρ) (s.set k (.lst (xs ++ [y]))) else .fail
    | _ => .fail)
  | _ => .fail else .fail
/-- super().m(..), self the first name, an instance of the class c -/
def sSup (c : Nat) (φ : Fn) (a : Ax) : Sx := fun ρ s => match ρ[0]? with
  | some (some x) => if clsOf s x = some c then (a ρ s).b fun ds s => (φ (x :: ds) s).b fun _ s => .ok (.nx ρ) s else .fail
  | _ => .fail
/-- a name's cell is not written any more: the name holds the list itself -/
def sFrz (i : Nat) : Sx := sSet (.name i) (eFrz (eVar i))

end CL
end
section
set_option linter.all false
namespace K63
open PySem CL
def F_is_urged : Fn := runB 2 2 (CL.sSeq (sRet (eAnd (e2 isnD (eVar 1) (eC .non)) (e2 inD (eVar 1) (e1 (fldD 13) (eVar 0))))) sNil)
def F_is_barred : Fn := runB 2 2 (CL.sSeq (sRet (eAnd (e1 (fldD 19) (eVar 0)) (eAnd (e2 isnD (eVar 1) (eC .non)) (eNot (tTru (eCall F_is_urged (aCons (eVar 0) (aCons (eVar 1) aNil)))))))) sNil)
def F_is_wanted : Fn := runB 3 4 (CL.sSeq (sIf (tTru (eCall F_is_barred (aCons (eVar 0) (aCons (eVar 2) aNil)))) (CL.sSeq (sRet (eC (.bl false))) sNil) sNil) (CL.sSeq (sIf (CL.tOr (CL.tNot (tTru (e1 (fldD 18) (eVar 0)))) (tTru (eCall F_is_urged (aCons (eVar 0) (aCons (eVar 2) aNil))))) (CL.sSeq (sRet (eC (.bl true))) sNil) sNil) (CL.sSeq (sRet (e1 anyD (eLc [3] (CL.iLst (e1 (fldD 18) (eVar 0))) (.name 3) CL.tYes (e2 inD (eVar 3) (eVar 1))))) sNil)))
def F_is_held : Fn := runB 3 4 (CL.sSeq (sIf (tTru (eCall F_is_barred (aCons (eVar 0) (aCons (eVar 2) aNil)))) (CL.sSeq (sRet (eC (.bl false))) sNil) sNil) (CL.sSeq (sRet (eOr (eCall F_is_urged (aCons (eVar 0) (aCons (eVar 2) aNil))) (e1 anyD (eLc [3] (CL.iLst (e1 (fldD 17) (eVar 0))) (.name 3) CL.tYes (e2 inD (eVar 3) (eVar 1)))))) sNil))
def F_Book_len : Fn := runB 1 1 (CL.sSeq (sRet (e1 lenD (e1 (fldD 4) (eVar 0)))) sNil)
def F_Book_phase : Fn := runB 2 2 (CL.sSeq (sIf (CL.tNot (tVal (eCh leD ltD (eC (.int 0)) (eVar 1) (e1 lenD (e1 (fldD 4) (eVar 0)))))) (CL.sSeq sNo sNil) sNil) (CL.sSeq (sRet (e2 ixD (e1 (fldD 4) (eVar 0)) (eVar 1))) sNil))
def F_is_proper : Fn := runB 2 7 (CL.sSeq (sSet (.tup [4, 5, 6]) (eVar 1)) (CL.sSeq (sIf (CL.tOr (CL.tNot (tVal (eCh leD ltD (eC (.int 0)) (eVar 4) (e1 (fldD 1) (eVar 0))))) (CL.tNot (tVal (eCh leD ltD (eC (.int 0)) (eVar 5) (eLenO 0 F_Book_len (eVar 0)))))) (CL.sSeq (sRet (eC (.bl false))) sNil) sNil) (CL.sSeq (sSet (.name 2) (eMeth 0 F_Book_phase (eVar 0) (aCons (eVar 5) aNil))) (CL.sSeq (sSet (.name 3) (eIf (tVal (e2 eqD (eVar 5) (eC (.int 0)))) (eC (.int 0)) (e2 subD (e1 (fldD 15) (eVar 2)) (eC (.int 1))))) (CL.sSeq (sRet (eCh leD leD (e1 negD (e1 (fldD 16) (eVar 2))) (eVar 6) (eVar 3))) sNil)))))
def F_check_lights : Fn := runB 2 2 (CL.sSeq (sIf (CL.tNot (tTru (eCall F_is_proper (aCons (eVar 0) (aCons (eVar 1) aNil))))) (CL.sSeq sNo sNil) sNil) sNil)
def F_shown : Fn := runB 2 2 (CL.sSeq (sExpr (eCall F_check_lights (aCons (eVar 0) (aCons (eVar 1) aNil)))) (CL.sSeq (sIf (tVal (e2 ltD (e2 ixD (eVar 1) (eC (.int 2))) (eC (.int 0)))) (CL.sSeq (sRet (eTup aNil)) sNil) sNil) (CL.sSeq (sRet (e1 (fldD 13) (eMeth 0 F_Book_phase (eVar 0) (aCons (e2 ixD (eVar 1) (eC (.int 1))) aNil)))) sNil)))
def F_following_phase : Fn := runB 4 5 (CL.sSeq (sFor (CL.iRng2 (e2 addD (eVar 1) (eC (.int 1))) (eLenO 0 F_Book_len (eVar 0))) (.name 4) (CL.sSeq (sIf (tTru (eCall F_is_wanted (aCons (eMeth 0 F_Book_phase (eVar 0) (aCons (eVar 4) aNil)) (aCons (eVar 2) (aCons (eVar 3) aNil))))) (CL.sSeq (sRet (eVar 4)) sNil) sNil) sNil)) (CL.sSeq (sRet (eC (.int 0))) sNil))
def F_goes_on : Fn := runB 5 9 (CL.sSeq (sSet (.tup [6, 7, 8]) (eVar 1)) (CL.sSeq (sIf (tVal (e2 eqD (eVar 7) (eC (.int 0)))) (CL.sSeq (sRet (eOr (e2 neD (eVar 6) (e2 subD (e1 (fldD 1) (eVar 0)) (eC (.int 1)))) (e2 eqD (eCall F_following_phase (aCons (eVar 0) (aCons (eC (.int 0)) (aCons (eVar 3) (aCons (eVar 4) aNil))))) (eC (.int 0))))) sNil) sNil) (CL.sSeq (sSet (.name 5) (eMeth 0 F_Book_phase (eVar 0) (aCons (eVar 7) aNil))) (CL.sSeq (sIf (tVal (e2 ltD (e2 addD (eVar 8) (eC (.int 1))) (e1 (fldD 14) (eVar 5)))) (CL.sSeq (sRet (eC (.bl true))) sNil) sNil) (CL.sSeq (sRet (eAnd (e2 ltD (e2 addD (eVar 8) (eC (.int 1))) (e1 (fldD 15) (eVar 5))) (eCall F_is_held (aCons (eVar 5) (aCons (eVar 2) (aCons (eVar 4) aNil)))))) sNil)))))
def F_Crossing_len : Fn := runB 1 1 (CL.sSeq (sRet (e1 lenD (e1 (fldD 5) (eVar 0)))) sNil)
def F_next_lights : Fn := runB 5 10 (CL.sSeq (sExpr (eCall F_check_lights (aCons (eVar 0) (aCons (eVar 1) aNil)))) (CL.sSeq (sIf (CL.tAnd (tVal (e2 isnD (eVar 4) (eC .non))) (CL.tNot (tVal (eCh leD ltD (eC (.int 0)) (eVar 4) (eLenO 1 F_Crossing_len (e1 (fldD 0) (eVar 0))))))) (CL.sSeq sNo sNil) sNil) (CL.sSeq (sSet (.tup [6, 7, 8]) (eVar 1)) (CL.sSeq (sSet (.name 5) (e2 modD (e2 addD (eVar 6) (eC (.int 1))) (e1 (fldD 1) (eVar 0)))) (CL.sSeq (sIf (tVal (e2 ltD (eVar 8) (e1 negD (eC (.int 1))))) (CL.sSeq (sRet (eTup (aCons (eVar 5) (aCons (eVar 7) (aCons (e2 addD (eVar 8) (eC (.int 1))) aNil))))) sNil) sNil) (CL.sSeq (sIf (tVal (e2 geD (eVar 8) (eC (.int 0)))) (CL.sSeq (sIf (tTru (eCall F_goes_on (aCons (eVar 0) (aCons (eVar 1) (aCons (eVar 2) (aCons (eVar 3) (aCons (eVar 4) aNil))))))) (CL.sSeq (sRet (eTup (aCons (eVar 5) (aCons (eVar 7) (aCons (eIf (tVal (e2 eqD (eVar 7) (eC (.int 0)))) (eC (.int 0)) (e2 addD (eVar 8) (eC (.int 1)))) aNil))))) sNil) sNil) (CL.sSeq (sSet (.name 9) (e1 (fldD 16) (eMeth 0 F_Book_phase (eVar 0) (aCons (eVar 7) aNil)))) (CL.sSeq (sIf (tVal (e2 gtD (eVar 9) (eC (.int 0)))) (CL.sSeq (sRet (eTup (aCons (eVar 5) (aCons (eVar 7) (aCons (e1 negD (eVar 9)) aNil))))) sNil) sNil) sNil))) sNil) (CL.sSeq (sRet (eTup (aCons (eVar 5) (aCons (eCall F_following_phase (aCons (eVar 0) (aCons (eVar 7) (aCons (eVar 3) (aCons (eVar 4) aNil))))) (aCons (eC (.int 0)) aNil))))) sNil)))))))
def F_quiet : Fn := runB 1 4 (CL.sSeq (sSet (.name 1) (eTup (aCons (e2 subD (e1 (fldD 1) (eVar 0)) (eC (.int 1))) (aCons (eC (.int 0)) (aCons (eC (.int 0)) aNil))))) (CL.sSeq (sSet (.name 2) (eLstC aNil)) (CL.sSeq (sFor (CL.iRng (e1 (fldD 1) (eVar 0))) (.name 3) (CL.sSeq (sSet (.name 1) (eCallD [.tup [], .tup [], .non] F_next_lights (aCons (eVar 0) (aCons (eVar 1) aNil)))) (CL.sSeq (sApp (eVar 2) (eVar 1)) sNil))) (CL.sSeq (sFrz 2) (CL.sSeq (sRet (eVar 2)) sNil)))))
def F_check_stream : Fn := runB 2 2 (CL.sSeq (sIf (CL.tNot (tVal (eCh leD ltD (eC (.int 0)) (eVar 1) (eLenO 1 F_Crossing_len (eVar 0))))) (CL.sSeq sNo sNil) sNil) sNil)
def F_Crossing_longest : Fn := runB 2 2 (CL.sSeq (sExpr (eCall F_check_stream (aCons (eVar 0) (aCons (eVar 1) aNil)))) (CL.sSeq (sRet (e2 ixD (e1 (fldD 8) (eVar 0)) (eVar 1))) sNil))
def F_beats_since : Fn := runB 4 6 (CL.sSeq (sSet (.name 4) (eMeth 1 F_Crossing_longest (e1 (fldD 0) (eVar 0)) (aCons (eVar 3) aNil))) (CL.sSeq (sFor (CL.iRng (e2 min2D (eVar 4) (e1 (fldD 1) (eVar 0)))) (.name 5) (CL.sSeq (sIf (tVal (e2 inD (eVar 3) (eCall F_shown (aCons (eVar 0) (aCons (e2 ixD (eVar 1) (e2 modD (e2 subD (e2 subD (eVar 2) (eC (.int 1))) (eVar 5)) (e1 (fldD 1) (eVar 0)))) aNil))))) (CL.sSeq (sRet (eVar 5)) sNil) sNil) sNil)) (CL.sSeq (sRet (eVar 4)) sNil)))
def F_Foot_foot : Fn := runB 1 1 (CL.sSeq (sRet (eC (.bl true))) sNil)
def F_Road_foot : Fn := runB 1 1 (CL.sSeq (sRet (eC (.bl false))) sNil)
def F_Rate_full : Fn := runB 1 1 (CL.sSeq (sRet (e2 subD (e2 addD (e2 mulD (e1 (fldD 20) (eVar 0)) (e1 (fldD 22) (eVar 0))) (e1 (fldD 21) (eVar 0))) (eC (.int 1)))) sNil)
def F_first_credit : Fn := runB 1 1 (CL.sSeq (sIf (CL.tOr (tTru (eAlt (eProp 2 F_Foot_foot (eVar 0)) (eProp 3 F_Road_foot (eVar 0)))) (tVal (e2 isD (e1 (fldD 11) (eVar 0)) (eC .non)))) (CL.sSeq (sRet (eC (.int 0))) sNil) sNil) (CL.sSeq (sRet (eProp 5 F_Rate_full (e1 (fldD 11) (eVar 0)))) sNil))
def F_Town_len : Fn := runB 1 1 (CL.sSeq (sRet (e1 lenD (e1 (fldD 32) (eVar 0)))) sNil)
def F_Town_lane : Fn := runB 2 2 (CL.sSeq (sIf (CL.tNot (tVal (eCh leD ltD (eC (.int 0)) (eVar 1) (e1 lenD (e1 (fldD 33) (eVar 0)))))) (CL.sSeq sNo sNil) sNil) (CL.sSeq (sRet (e2 ixD (e1 (fldD 33) (eVar 0)) (eVar 1))) sNil))
def F_first_state : Fn := runB 1 13 (CL.sSeq (sSet (.name 1) (eLstC aNil)) (CL.sSeq (sSet (.name 2) (eLstC aNil)) (CL.sSeq (sFor (CL.iZip (e1 (fldD 28) (eVar 0)) (e1 (fldD 29) (eVar 0))) (.tup [6, 7]) (CL.sSeq (sSet (.name 8) (e2 modD (e1 negD (eVar 7)) (e1 (fldD 1) (eVar 0)))) (CL.sSeq (sSet (.name 9) (eCall F_quiet (aCons (e1 (fldD 23) (eVar 6)) aNil))) (CL.sSeq (sApp (eVar 1) (eSl (e2 ixD (eVar 9) (eVar 8)) (oAt (eC (.int 1))) oNo)) (CL.sSeq (sFor (CL.iRng (e1 lenD (e1 (fldD 24) (eVar 6)))) (.name 10) (CL.sSeq (sApp (eVar 2) (eCall F_beats_since (aCons (e1 (fldD 23) (eVar 6)) (aCons (eVar 9) (aCons (eVar 8) (aCons (eVar 10) aNil)))))) sNil)) sNil))))) (CL.sSeq (sFrz 1) (CL.sSeq (sFrz 2) (CL.sSeq (sSet (.name 3) (eLenO 8 F_Town_len (eVar 0))) (CL.sSeq (sSet (.name 4) (eLc [11] (CL.iRng (eVar 3)) (.name 11) CL.tYes (eCall F_first_credit (aCons (eMeth 8 F_Town_lane (eVar 0) (aCons (eVar 11) aNil)) aNil)))) (CL.sSeq (sSet (.name 5) (eLc [12] (CL.iLst (e1 (fldD 30) (eVar 0))) (.name 12) CL.tYes (e2 mulD (eTup (aCons (eC (.int 0)) aNil)) (e1 (fldD 27) (eVar 12))))) (CL.sSeq (sRet (eTup (aCons (eC (.int 0)) (aCons (e1 tupleD (eVar 1)) (aCons (e1 tupleD (eVar 2)) (aCons (e2 mulD (eTup (aCons (eC (.int 0)) aNil)) (eVar 3)) (aCons (e2 mulD (eTup (aCons (e1 negD (eC (.int 1))) aNil)) (eVar 3)) (aCons (e2 mulD (eTup (aCons (eC (.int 0)) aNil)) (eVar 3)) (aCons (e1 tupleD (eVar 4)) (aCons (e1 tupleD (eVar 5)) aNil)))))))))) sNil)))))))))
def F_is_main : Fn := runB 1 1 (CL.sSeq (sRet (eAnd (eNot (tTru (e1 (fldD 19) (eVar 0)))) (eAnd (eNot (tTru (e1 (fldD 17) (eVar 0)))) (eAnd (eNot (tTru (e1 (fldD 18) (eVar 0)))) (e2 eqD (e1 (fldD 15) (eVar 0)) (e1 (fldD 14) (eVar 0))))))) sNil)
def F_has_stranger : Fn := runB 2 3 (CL.sSeq (sFor (CL.iLst (e2 addD (e2 addD (e1 (fldD 13) (eVar 0)) (e1 (fldD 17) (eVar 0))) (e1 (fldD 18) (eVar 0)))) (.name 2) (CL.sSeq (sIf (tVal (e2 geD (eVar 2) (eVar 1))) (CL.sSeq (sRet (eC (.bl true))) sNil) sNil) sNil)) (CL.sSeq (sRet (eC (.bl false))) sNil))
def F_beats_needed : Fn := runB 2 4 (CL.sSeq (sSet (.name 2) (e2 addD (e1 (fldD 14) (eVar 0)) (e1 (fldD 16) (eVar 0)))) (CL.sSeq (sFor (CL.iLst (eVar 1)) (.name 3) (CL.sSeq (sSet (.name 2) (e2 addD (e2 addD (eVar 2) (e1 (fldD 15) (eVar 3))) (e1 (fldD 16) (eVar 3)))) sNil)) (CL.sSeq (sRet (eVar 2)) sNil)))
def F_check_book : Fn := runB 4 6 (CL.sSeq (sIf (CL.tNot (tVal (eCh leD leD (eC (.int 2)) (eVar 1) (eC (.int 12))))) (CL.sSeq sNo sNil) sNil) (CL.sSeq (sIf (tVal (e2 gtD (e1 lenD (eVar 3)) (eC (.int 12)))) (CL.sSeq sNo sNil) sNil) (CL.sSeq (sIf (CL.tNot (tTru (eCall F_is_main (aCons (eVar 2) aNil)))) (CL.sSeq sNo sNil) sNil) (CL.sSeq (sFor (CL.iEnum (eLst (aCons (eVar 2) (aStar (eVar 3) aNil)))) (.tup [4, 5]) (CL.sSeq (sIf (tTru (eCall F_has_stranger (aCons (eVar 5) (aCons (eLenO 1 F_Crossing_len (eVar 0)) aNil)))) (CL.sSeq sNo sNil) sNil) sNil)) (CL.sSeq (sIf (tVal (e2 gtD (eCall F_beats_needed (aCons (eVar 2) (aCons (eVar 3) aNil))) (eVar 1))) (CL.sSeq sNo sNil) sNil) sNil)))))
def F_Book_init : Fn := runB 5 5 (CL.sSeq (sExpr (eCall F_check_book (aCons (eVar 1) (aCons (eVar 2) (aCons (eVar 3) (aCons (eVar 4) aNil)))))) (CL.sSeq (CL.sFld 0 (eVar 0) 0 (eVar 1)) (CL.sSeq (CL.sFld 0 (eVar 0) 1 (eVar 2)) (CL.sSeq (CL.sFld 0 (eVar 0) 2 (eVar 3)) (CL.sSeq (CL.sFld 0 (eVar 0) 3 (e1 tupleD (eVar 4))) (CL.sSeq (CL.sFld 0 (eVar 0) 4 (eTup (aCons (eVar 3) (aStar (eVar 4) aNil)))) sNil))))))
def F_is_name : Fn := runB 1 2 (CL.sSeq (sIf (CL.tNot (tVal (eCh leD leD (eC (.int 1)) (e1 lenD (eVar 0)) (eC (.int 8))))) (CL.sSeq (sRet (eC (.bl false))) sNil) sNil) (CL.sSeq (sRet (e1 allD (eLc [1] (CL.iStr (eVar 0)) (.name 1) CL.tYes (e2 inD (eVar 1) (eC (.str "abcdefghijklmnopqrstuvwxyz")))))) sNil))
def F_check_streams : Fn := runB 1 3 (CL.sSeq (sIf (CL.tNot (tVal (eCh leD leD (eC (.int 1)) (e1 lenD (eVar 0)) (eC (.int 6))))) (CL.sSeq sNo sNil) sNil) (CL.sSeq (sFor (CL.iEnum (eVar 0)) (.tup [1, 2]) (CL.sSeq (sIf (CL.tOr (CL.tNot (tTru (eCall F_is_name (aCons (eVar 2) aNil)))) (tVal (e2 inD (eVar 2) (eSl (eVar 0) oNo (oAt (eVar 1)))))) (CL.sSeq sNo sNil) sNil) sNil)) sNil))
def F_is_rival : Fn := runB 2 6 (CL.sSeq (sIf (tVal (e2 neD (e1 lenD (eVar 1)) (eC (.int 4)))) (CL.sSeq (sRet (eC (.bl false))) sNil) sNil) (CL.sSeq (sSet (.tup [2, 3, 4, 5]) (eVar 1)) (CL.sSeq (sIf (CL.tOr (tVal (e2 eqD (eVar 2) (eVar 3))) (CL.tOr (CL.tNot (tVal (eCh leD ltD (eC (.int 0)) (eVar 2) (eVar 0)))) (CL.tNot (tVal (eCh leD ltD (eC (.int 0)) (eVar 3) (eVar 0)))))) (CL.sSeq (sRet (eC (.bl false))) sNil) sNil) (CL.sSeq (sRet (eAnd (eCh leD leD (eC (.int 0)) (eVar 4) (eC (.int 9))) (eCh leD leD (eC (.int 0)) (eVar 5) (eC (.int 9))))) sNil))))
def F_rival_spans : Fn := runB 2 9 (CL.sSeq (sSet (.name 2) eDicC) (CL.sSeq (sFor (CL.iEnum (eVar 1)) (.tup [3, 4]) (CL.sSeq (sIf (CL.tOr (CL.tNot (tTru (eCall F_is_rival (aCons (eVar 0) (aCons (eVar 4) aNil))))) (tVal (e2 dinD (eTup (aCons (e2 ixD (eVar 4) (eC (.int 0))) (aCons (e2 ixD (eVar 4) (eC (.int 1))) aNil))) (eVar 2)))) (CL.sSeq sNo sNil) sNil) (CL.sSeq (sSet (.tup [5, 6, 7, 8]) (eVar 4)) (CL.sSeq (sSubD (eVar 2) (eTup (aCons (eVar 5) (aCons (eVar 6) aNil))) (eVar 7)) (CL.sSeq (sSubD (eVar 2) (eTup (aCons (eVar 6) (aCons (eVar 5) aNil))) (eVar 8)) sNil))))) (CL.sSeq (sFrz 2) (CL.sSeq (sRet (eVar 2)) sNil))))
def F_greatest_span : Fn := runB 2 4 (CL.sSeq (sRet (e2 maxDefD (eLcI [2, 3] 0 (.tup [2, 3]) (tVal (e2 eqD (e2 ixD (eVar 2) (eC (.int 0))) (eVar 1))) (eVar 3)) (eC (.int 0)))) sNil)
def F_Crossing_init : Fn := runB 3 6 (CL.sSeq (sExpr (eCall F_check_streams (aCons (eVar 1) aNil))) (CL.sSeq (sSet (.name 3) (eCall F_rival_spans (aCons (e1 lenD (eVar 1)) (aCons (eVar 2) aNil)))) (CL.sSeq (CL.sFld 1 (eVar 0) 5 (e1 tupleD (eVar 1))) (CL.sSeq (CL.sFld 1 (eVar 0) 6 (e1 tupleD (eLc [4] (CL.iLst (eVar 2)) (.name 4) CL.tYes (e1 tupleD (eVar 4))))) (CL.sSeq (CL.sFld 1 (eVar 0) 7 (eVar 3)) (CL.sSeq (CL.sFld 1 (eVar 0) 8 (e1 tupleD (eLc [5] (CL.iRng (e1 lenD (eVar 1))) (.name 5) CL.tYes (eCall F_greatest_span (aCons (eVar 3) (aCons (eVar 5) aNil)))))) sNil))))))
def F_Lane_init_at_Foot : Fn := runB 2 2 (CL.sSeq (CL.sFld 2 (eVar 0) 9 (eVar 1)) sNil)
def F_Lane_init_at_Road : Fn := runB 2 2 (CL.sSeq (CL.sFld 3 (eVar 0) 9 (eVar 1)) sNil)
def F_Foot_init : Fn := runB 2 3 (CL.sSeq (sIf (CL.tNot (tVal (eCh leD leD (eC (.int 1)) (eVar 1) (eC (.int 24))))) (CL.sSeq sNo sNil) sNil) (CL.sSeq (sSup 2 F_Lane_init_at_Foot (aCons (eVar 1) aNil)) sNil))
def F_Road_init : Fn := runB 4 5 (CL.sSeq (sIf (CL.tNot (tVal (eCh leD leD (eC (.int 0)) (eVar 1) (eC (.int 9))))) (CL.sSeq sNo sNil) sNil) (CL.sSeq (sIf (CL.tOr (CL.tNot (tVal (eCh leD leD (eC (.int 0)) (eVar 3) (eC (.int 12))))) (CL.tAnd (tVal (e2 neD (eVar 3) (eC (.int 0)))) (tVal (e2 isD (eVar 2) (eC .non))))) (CL.sSeq sNo sNil) sNil) (CL.sSeq (sSup 3 F_Lane_init_at_Road (aCons (eVar 3) aNil)) (CL.sSeq (CL.sFld 3 (eVar 0) 10 (eVar 1)) (CL.sSeq (CL.sFld 3 (eVar 0) 11 (eVar 2)) (CL.sSeq (CL.sFld 3 (eVar 0) 12 (eVar 3)) sNil))))))
def F_are_streams : Fn := runB 1 3 (CL.sSeq (sFor (CL.iEnum (eVar 0)) (.tup [1, 2]) (CL.sSeq (sIf (CL.tOr (CL.tNot (tVal (eCh leD leD (eC (.int 0)) (eVar 2) (eC (.int 5))))) (tVal (e2 inD (eVar 2) (eSl (eVar 0) oNo (oAt (eVar 1)))))) (CL.sSeq (sRet (eC (.bl false))) sNil) sNil) sNil)) (CL.sSeq (sRet (eC (.bl true))) sNil))
def F_check_phase : Fn := runB 6 6 (CL.sSeq (sIf (CL.tNot (tTru (eCall F_are_streams (aCons (eVar 0) aNil)))) (CL.sSeq sNo sNil) sNil) (CL.sSeq (sIf (CL.tNot (tVal (eCh leD leD (eC (.int 1)) (eVar 1) (eC (.int 12))))) (CL.sSeq sNo sNil) sNil) (CL.sSeq (sIf (CL.tNot (tVal (eCh leD leD (eVar 1) (eVar 2) (eC (.int 12))))) (CL.sSeq sNo sNil) sNil) (CL.sSeq (sIf (CL.tNot (tVal (eCh leD leD (eC (.int 0)) (eVar 3) (eC (.int 9))))) (CL.sSeq sNo sNil) sNil) (CL.sSeq (sIf (CL.tNot (tTru (eCall F_are_streams (aCons (eVar 4) aNil)))) (CL.sSeq sNo sNil) sNil) (CL.sSeq (sIf (CL.tNot (tTru (eCall F_are_streams (aCons (eVar 5) aNil)))) (CL.sSeq sNo sNil) sNil) sNil))))))
def F_Phase_init : Fn := runB 8 9 (CL.sSeq (sSet (.name 8) (eIf (tVal (e2 isD (eVar 3) (eC .non))) (eVar 2) (eVar 3))) (CL.sSeq (sExpr (eCall F_check_phase (aCons (eVar 1) (aCons (eVar 2) (aCons (eVar 8) (aCons (eVar 4) (aCons (eVar 5) (aCons (eVar 6) aNil)))))))) (CL.sSeq (CL.sFld 4 (eVar 0) 13 (e1 tupleD (e1 sortD (eVar 1)))) (CL.sSeq (CL.sFld 4 (eVar 0) 14 (eVar 2)) (CL.sSeq (CL.sFld 4 (eVar 0) 15 (eVar 8)) (CL.sSeq (CL.sFld 4 (eVar 0) 16 (eVar 4)) (CL.sSeq (CL.sFld 4 (eVar 0) 17 (e1 tupleD (e1 sortD (eVar 5)))) (CL.sSeq (CL.sFld 4 (eVar 0) 18 (e1 tupleD (e1 sortD (eVar 6)))) (CL.sSeq (CL.sFld 4 (eVar 0) 19 (eVar 7)) sNil)))))))))
def F_Rate_init : Fn := runB 4 4 (CL.sSeq (sIf (CL.tNot (tVal (eCh leD leD (eC (.int 1)) (eVar 1) (eC (.int 3))))) (CL.sSeq sNo sNil) sNil) (CL.sSeq (sIf (CL.tNot (tVal (eCh leD leD (eC (.int 1)) (eVar 3) (eC (.int 6))))) (CL.sSeq sNo sNil) sNil) (CL.sSeq (sIf (CL.tNot (tVal (eCh leD leD (eC (.int 1)) (eVar 2) (eVar 3)))) (CL.sSeq sNo sNil) sNil) (CL.sSeq (CL.sFld 5 (eVar 0) 20 (eVar 1)) (CL.sSeq (CL.sFld 5 (eVar 0) 21 (eVar 2)) (CL.sSeq (CL.sFld 5 (eVar 0) 22 (eVar 3)) sNil))))))
def F_bus_streams : Fn := runB 1 3 (CL.sSeq (sRet (eLc [1, 2] (CL.iEnum (eVar 0)) (.tup [1, 2]) (CL.tAnd (CL.tNot (tTru (eAlt (eProp 2 F_Foot_foot (eVar 2)) (eProp 3 F_Road_foot (eVar 2))))) (tVal (e2 neD (e1 (fldD 12) (eVar 2)) (eC (.int 0))))) (eVar 1))) sNil)
def F_Site_init : Fn := runB 3 5 (CL.sSeq (sSet (.name 3) (eLenO 1 F_Crossing_len (e1 (fldD 0) (eVar 1)))) (CL.sSeq (sIf (tVal (e2 neD (e1 lenD (eVar 2)) (eVar 3))) (CL.sSeq sNo sNil) sNil) (CL.sSeq (sSet (.name 4) (eCall F_bus_streams (aCons (eVar 2) aNil))) (CL.sSeq (sIf (tVal (e2 gtD (e1 lenD (eVar 4)) (eC (.int 1)))) (CL.sSeq sNo sNil) sNil) (CL.sSeq (CL.sFld 6 (eVar 0) 23 (eVar 1)) (CL.sSeq (CL.sFld 6 (eVar 0) 24 (e1 tupleD (eVar 2))) sNil))))))
def F_Street_init : Fn := runB 4 4 (CL.sSeq (sIf (CL.tNot (tVal (eCh leD leD (eC (.int 1)) (eVar 3) (eC (.int 6))))) (CL.sSeq sNo sNil) sNil) (CL.sSeq (CL.sFld 7 (eVar 0) 25 (e1 tupleD (eVar 1))) (CL.sSeq (CL.sFld 7 (eVar 0) 26 (e1 tupleD (eVar 2))) (CL.sSeq (CL.sFld 7 (eVar 0) 27 (eVar 3)) sNil))))
def F_check_sites : Fn := runB 1 3 (CL.sSeq (sIf (CL.tNot (tVal (eCh leD leD (eC (.int 1)) (e1 lenD (eVar 0)) (eC (.int 4))))) (CL.sSeq sNo sNil) sNil) (CL.sSeq (sFor (CL.iEnum (eVar 0)) (.tup [1, 2]) (CL.sSeq (sIf (tVal (e2 neD (e1 (fldD 1) (e1 (fldD 23) (eVar 2))) (e1 (fldD 1) (e1 (fldD 23) (e2 ixD (eVar 0) (eC (.int 0))))))) (CL.sSeq sNo sNil) sNil) sNil)) sNil))
def F_check_offsets : Fn := runB 3 4 (CL.sSeq (sFor (CL.iRng (e2 max2D (e1 lenD (eVar 0)) (eVar 1))) (.name 3) (CL.sSeq (sIf (CL.tOr (tVal (e2 geD (eVar 3) (e1 lenD (eVar 0)))) (CL.tOr (tVal (e2 geD (eVar 3) (eVar 1))) (CL.tNot (tVal (eCh leD ltD (eC (.int 0)) (e2 ixD (eVar 0) (eVar 3)) (eVar 2)))))) (CL.sSeq sNo sNil) sNil) sNil)) sNil)
def F_is_source : Fn := runB 1 1 (CL.sSeq (sRet (eOr (eAlt (eProp 2 F_Foot_foot (eVar 0)) (eProp 3 F_Road_foot (eVar 0))) (e2 isnD (e1 (fldD 11) (eVar 0)) (eC .non)))) sNil)
def F_check_sources : Fn := runB 1 4 (CL.sSeq (sSet (.name 1) (eC (.int 0))) (CL.sSeq (sFor (CL.iLst (eVar 0)) (.name 2) (CL.sSeq (sFor (CL.iLst (e1 (fldD 24) (eVar 2))) (.name 3) (CL.sSeq (sIf (tTru (eCall F_is_source (aCons (eVar 3) aNil))) (CL.sSeq (sSet (.name 1) (e2 addD (eVar 1) (eC (.int 1)))) sNil) sNil) sNil)) sNil)) (CL.sSeq (sIf (tVal (e2 gtD (eVar 1) (eC (.int 6)))) (CL.sSeq sNo sNil) sNil) sNil)))
def F_road_at : Fn := runB 2 5 (CL.sSeq (sSet (.tup [3, 4]) (eVar 1)) (CL.sSeq (sIf (CL.tNot (tVal (eCh leD ltD (eC (.int 0)) (eVar 3) (e1 lenD (eVar 0))))) (CL.sSeq (sRet (eC .non)) sNil) sNil) (CL.sSeq (sSet (.name 2) (e1 (fldD 24) (e2 ixD (eVar 0) (eVar 3)))) (CL.sSeq (sIf (CL.tOr (CL.tNot (tVal (eCh leD ltD (eC (.int 0)) (eVar 4) (e1 lenD (eVar 2))))) (tTru (eAlt (eProp 2 F_Foot_foot (e2 ixD (eVar 2) (eVar 4))) (eProp 3 F_Road_foot (e2 ixD (eVar 2) (eVar 4)))))) (CL.sSeq (sRet (eC .non)) sNil) sNil) (CL.sSeq (sRet (e2 ixD (eVar 2) (eVar 4))) sNil)))))
def F_fits : Fn := runB 3 5 (CL.sSeq (sSet (.name 3) (eCall F_road_at (aCons (eVar 0) (aCons (e1 (fldD 26) (eVar 1)) aNil)))) (CL.sSeq (sIf (CL.tOr (tVal (e2 isD (eCall F_road_at (aCons (eVar 0) (aCons (e1 (fldD 25) (eVar 1)) aNil))) (eC .non))) (CL.tOr (tVal (e2 isD (eVar 3) (eC .non))) (tVal (e2 isnD (e1 (fldD 11) (eVar 3)) (eC .non))))) (CL.sSeq (sRet (eC (.bl false))) sNil) sNil) (CL.sSeq (sFor (CL.iLst (eVar 2)) (.name 4) (CL.sSeq (sIf (CL.tOr (tVal (e2 eqD (e1 (fldD 25) (eVar 4)) (e1 (fldD 25) (eVar 1)))) (tVal (e2 eqD (e1 (fldD 26) (eVar 4)) (e1 (fldD 26) (eVar 1))))) (CL.sSeq (sRet (eC (.bl false))) sNil) sNil) sNil)) (CL.sSeq (sRet (eC (.bl true))) sNil))))
def F_check_streets : Fn := runB 2 4 (CL.sSeq (sIf (tVal (e2 gtD (e1 lenD (eVar 1)) (eC (.int 6)))) (CL.sSeq sNo sNil) sNil) (CL.sSeq (sFor (CL.iEnum (eVar 1)) (.tup [2, 3]) (CL.sSeq (sIf (CL.tNot (tTru (eCall F_fits (aCons (eVar 0) (aCons (eVar 3) (aCons (eSl (eVar 1) oNo (oAt (eVar 2))) aNil)))))) (CL.sSeq sNo sNil) sNil) sNil)) sNil))
def F_check_town : Fn := runB 3 3 (CL.sSeq (sExpr (eCall F_check_sites (aCons (eVar 0) aNil))) (CL.sSeq (sExpr (eCall F_check_offsets (aCons (eVar 1) (aCons (e1 lenD (eVar 0)) (aCons (e1 (fldD 1) (e1 (fldD 23) (e2 ixD (eVar 0) (eC (.int 0))))) aNil))))) (CL.sSeq (sExpr (eCall F_check_sources (aCons (eVar 0) aNil))) (CL.sSeq (sExpr (eCall F_check_streets (aCons (eVar 0) (aCons (eVar 2) aNil)))) sNil))))
def F_first_numbers : Fn := runB 1 4 (CL.sSeq (sSet (.name 1) (eLstC aNil)) (CL.sSeq (sSet (.name 2) (eC (.int 0))) (CL.sSeq (sFor (CL.iLst (eVar 0)) (.name 3) (CL.sSeq (sApp (eVar 1) (eVar 2)) (CL.sSeq (sSet (.name 2) (e2 addD (eVar 2) (e1 lenD (e1 (fldD 24) (eVar 3))))) sNil))) (CL.sSeq (sFrz 1) (CL.sSeq (sRet (eVar 1)) sNil)))))
def F_pairs_of : Fn := runB 1 4 (CL.sSeq (sRet (eLc2 [2, 3, 1] (CL.iEnum (eVar 0)) (.tup [2, 3]) [1] (CL.iRng (e1 lenD (e1 (fldD 24) (eVar 3)))) (.name 1) (eTup (aCons (eVar 2) (aCons (eVar 1) aNil))))) sNil)
def F_Town_init : Fn := runB 4 6 (CL.sSeq (sExpr (eCall F_check_town (aCons (eVar 1) (aCons (eVar 2) (aCons (eVar 3) aNil))))) (CL.sSeq (CL.sFld 8 (eVar 0) 1 (e1 (fldD 1) (e1 (fldD 23) (e2 ixD (eVar 1) (eC (.int 0)))))) (CL.sSeq (CL.sFld 8 (eVar 0) 28 (e1 tupleD (eVar 1))) (CL.sSeq (CL.sFld 8 (eVar 0) 29 (e1 tupleD (eVar 2))) (CL.sSeq (CL.sFld 8 (eVar 0) 30 (e1 tupleD (eVar 3))) (CL.sSeq (CL.sFld 8 (eVar 0) 31 (e1 tupleD (eCall F_first_numbers (aCons (eVar 1) aNil)))) (CL.sSeq (CL.sFld 8 (eVar 0) 32 (e1 tupleD (eCall F_pairs_of (aCons (eVar 1) aNil)))) (CL.sSeq (CL.sFld 8 (eVar 0) 33 (e1 tupleD (eLc2 [4, 5] (CL.iLst (eVar 1)) (.name 4) [5] (CL.iLst (e1 (fldD 24) (eVar 4))) (.name 5) (eVar 5)))) sNil))))))))
def F_Town_at : Fn := runB 2 2 (CL.sSeq (sRet (eMake 8 F_Town_init (aCons (e1 (fldD 28) (eVar 0)) (aCons (eVar 1) (aCons (e1 (fldD 30) (eVar 0)) aNil))))) sNil)
def F_Town_turned : Fn := runB 2 3 (CL.sSeq (sRet (eMeth 8 F_Town_at (eVar 0) (aCons (eLc [2] (CL.iLst (e1 (fldD 29) (eVar 0))) (.name 2) CL.tYes (e2 modD (e2 addD (eVar 2) (eVar 1)) (e1 (fldD 1) (eVar 0)))) aNil))) sNil)
def F_law_cell : Fn := runB 2 2 (CL.sSeq (sIf (tVal (e2 ltD (eVar 1) (e1 lenD (eVar 0)))) (CL.sSeq (sRet (e1 abs1D (e2 ixD (eVar 0) (eVar 1)))) sNil) sNil) (CL.sSeq (sRet (eC (.int 0))) sNil))
def F_law_hand : Fn := runC 2 3 (CL.sSeq (sSet (.name 2) (eCall F_law_cell (aCons (eVar 0) (aCons (eVar 1) aNil)))) (CL.sSeq (sRet (eLstC (aCons (eVar 2) (aCons (e1 int1D (e2 geD (eVar 2) (e2 powD (eC (.int 10)) (eC (.int 18))))) (aCons (eC (.int 0)) (aCons (e2 addD (e2 modD (e1 int1D (eVar 2)) (eC (.int 2147483629))) (e2 mulD (eC (.int 7)) (eVar 1))) aNil)))))) sNil))
def F_law_take : Fn := runB 2 4 (CL.sSeq (sIf (CL.tAnd (tVal (e2 eqD (e2 ixD (eVar 0) (eC (.int 1))) (eC (.int 1)))) (tVal (e2 gtD (e2 ixD (eVar 0) (eC (.int 0))) (eC (.int 0))))) (CL.sSeq (sSet (.name 3) (e2 modD (e1 int1D (e2 ixD (eVar 0) (eC (.int 0)))) (eVar 1))) (CL.sSeq (sSubL (eVar 0) (eC (.int 0)) (e2 fdivD (e2 ixD (eVar 0) (eC (.int 0))) (eVar 1))) (CL.sSeq (sRet (eVar 3)) sNil))) sNil) (CL.sSeq (sSubL (eVar 0) (eC (.int 2)) (e2 addD (e2 ixD (eVar 0) (eC (.int 2))) (eC (.int 1)))) (CL.sSeq (sSet (.name 2) (e2 modD (e1 int1D (e2 addD (e2 addD (e2 mulD (e2 ixD (eVar 0) (eC (.int 3))) (eC (.int 48271))) (e2 mulD (e2 ixD (eVar 0) (eC (.int 2))) (eC (.int 69621)))) (eC (.int 12289)))) (eC (.int 2147483647)))) (CL.sSeq (sSet (.name 2) (e2 modD (e1 int1D (e2 addD (e2 addD (e2 mulD (eVar 2) (eVar 2)) (e2 mulD (e2 ixD (eVar 0) (eC (.int 2))) (eC (.int 3571)))) (eC (.int 40692)))) (eC (.int 2147483399)))) (CL.sSeq (sSet (.name 2) (e2 modD (e1 int1D (e2 addD (e2 mulD (eVar 2) (eVar 2)) (e2 fdivD (eVar 2) (eC (.int 97))))) (eC (.int 2147483629)))) (CL.sSeq (sRet (e2 modD (e1 int1D (e2 fdivD (eVar 2) (eC (.int 11)))) (eVar 1))) sNil))))))
def F_law_is_int : Fn := runB 1 1 (CL.sSeq (sRet (eAnd (e1 (isTyD "int") (eVar 0)) (eNot (tTru (e1 (isTyD "bool") (eVar 0)))))) sNil)
def F_law_same : Nat → Fn
  | 0 => fun _ _ => .fail
  | m + 1 => runB 2 3 (CL.sSeq (sIf (tVal (e2 isD (eVar 1) (eC .non))) (CL.sSeq (sRet (e2 isD (eVar 0) (eC .non))) sNil) sNil) (CL.sSeq (sIf (tTru (e1 (isTyD "bool") (eVar 1))) (CL.sSeq (sRet (eAnd (e1 (isTyD "bool") (eVar 0)) (e2 eqD (eVar 0) (eVar 1)))) sNil) sNil) (CL.sSeq (sIf (tTru (e1 (isTyD "int") (eVar 1))) (CL.sSeq (sRet (eAnd (eCall F_law_is_int (aCons (eVar 0) aNil)) (e2 eqD (eVar 0) (eVar 1)))) sNil) sNil) (CL.sSeq (sIf (tTru (e1 (isTyD "str") (eVar 1))) (CL.sSeq (sRet (eAnd (e1 (isTyD "str") (eVar 0)) (e2 eqD (eVar 0) (eVar 1)))) sNil) sNil) (CL.sSeq (sIf (CL.tAnd (tTru (e1 (isTyD "tuple") (eVar 1))) (CL.tNot (tTru (e1 (isTyD "tuple") (eVar 0))))) (CL.sSeq (sRet (eC (.bl false))) sNil) sNil) (CL.sSeq (sIf (CL.tAnd (tTru (e1 (isTyD "list") (eVar 1))) (CL.tNot (tTru (e1 (isTyD "list") (eVar 0))))) (CL.sSeq (sRet (eC (.bl false))) sNil) sNil) (CL.sSeq (sIf (tVal (e2 neD (e1 lenD (eVar 0)) (e1 lenD (eVar 1)))) (CL.sSeq (sRet (eC (.bl false))) sNil) sNil) (CL.sSeq (sFor (CL.iRng (e1 lenD (eVar 1))) (.name 2) (CL.sSeq (sIf (CL.tNot (tTru (eCall (F_law_same m) (aCons (e2 ixD (eVar 0) (eVar 2)) (aCons (e2 ixD (eVar 1) (eVar 2)) aNil))))) (CL.sSeq (sRet (eC (.bl false))) sNil) sNil) sNil)) (CL.sSeq (sRet (eC (.bl true))) sNil)))))))))
theorem runBR_len (m : Nat) : ∀ (ds : List D) (s : S), ds.length ≠ 2 → F_law_same m ds s = .fail := fun ds s h => match m with | 0 => rfl | _ + 1 => if_neg h
def F_law_streams : Fn := runB 2 3 (CL.sSeq (sRet (eLc [2] (CL.iRng (eVar 1)) (.name 2) (tVal (e2 eqD (eCall F_law_take (aCons (eVar 0) (aCons (eC (.int 2)) aNil))) (eC (.int 1)))) (eVar 2))) sNil)
def F_law_phase : Fn := runB 4 12 (CL.sSeq (sSet (.name 4) (e2 min2D (eVar 2) (eC (.int 2)))) (CL.sSeq (sIf (tVal (e2 eqD (eCall F_law_take (aCons (eVar 0) (aCons (eC (.int 4)) aNil))) (eC (.int 0)))) (CL.sSeq (sSet (.name 4) (eVar 2)) sNil) sNil) (CL.sSeq (sSet (.name 5) (eCall F_law_streams (aCons (eVar 0) (aCons (eVar 1) aNil)))) (CL.sSeq (sSet (.name 6) (e2 addD (eC (.int 1)) (eCall F_law_take (aCons (eVar 0) (aCons (eVar 4) aNil))))) (CL.sSeq (sSet (.name 7) (eVar 6)) (CL.sSeq (sSet (.name 8) (eLst aNil)) (CL.sSeq (sSet (.name 9) (eLst aNil)) (CL.sSeq (sSet (.name 10) (eC (.bl false))) (CL.sSeq (sIf (tTru (eVar 3)) (CL.sSeq (sSet (.name 7) (e2 addD (eVar 6) (eCall F_law_take (aCons (eVar 0) (aCons (e2 addD (eC (.int 1)) (e2 min2D (eVar 4) (e2 subD (eVar 2) (eVar 6)))) aNil))))) (CL.sSeq (sIf (tVal (e2 eqD (eCall F_law_take (aCons (eVar 0) (aCons (eC (.int 2)) aNil))) (eC (.int 1)))) (CL.sSeq (sSet (.name 8) (eCall F_law_streams (aCons (eVar 0) (aCons (eVar 1) aNil)))) sNil) sNil) (CL.sSeq (sIf (tVal (e2 eqD (eCall F_law_take (aCons (eVar 0) (aCons (eC (.int 3)) aNil))) (eC (.int 0)))) (CL.sSeq (sSet (.name 9) (eCall F_law_streams (aCons (eVar 0) (aCons (eVar 1) aNil)))) sNil) sNil) (CL.sSeq (sSet (.name 10) (e2 eqD (eCall F_law_take (aCons (eVar 0) (aCons (eC (.int 4)) aNil))) (eC (.int 0)))) sNil)))) sNil) (CL.sSeq (sSet (.name 11) (eCall F_law_take (aCons (eVar 0) (aCons (e2 addD (eC (.int 1)) (eMin3 (eC (.int 9)) (eVar 4) (e2 subD (eVar 2) (eVar 7)))) aNil)))) (CL.sSeq (sRet (eTup (aCons (e1 tupleD (eVar 5)) (aCons (eVar 6) (aCons (eVar 7) (aCons (eVar 11) (aCons (e1 tupleD (eVar 8)) (aCons (e1 tupleD (eVar 9)) (aCons (eVar 10) aNil))))))))) sNil)))))))))))
def F_law_phases : Fn := runB 3 7 (CL.sSeq (sSet (.name 3) (eLstC (aCons (eCall F_law_phase (aCons (eVar 0) (aCons (eVar 1) (aCons (eVar 2) (aCons (eC (.bl false)) aNil))))) aNil))) (CL.sSeq (sSet (.name 4) (e2 subD (e2 subD (eVar 2) (e2 ixD (e2 ixD (eVar 3) (eC (.int 0))) (eC (.int 1)))) (e2 ixD (e2 ixD (eVar 3) (eC (.int 0))) (eC (.int 3))))) (CL.sSeq (sFor (CL.iRng (eC (.int 11))) (.name 5) (CL.sSeq (sIf (CL.tAnd (tVal (e2 gtD (eVar 4) (eC (.int 0)))) (tVal (e2 gtD (eCall F_law_take (aCons (eVar 0) (aCons (eC (.int 5)) aNil))) (eC (.int 0))))) (CL.sSeq (sSet (.name 6) (eCall F_law_phase (aCons (eVar 0) (aCons (eVar 1) (aCons (eVar 4) (aCons (eC (.bl true)) aNil)))))) (CL.sSeq (sApp (eVar 3) (eVar 6)) (CL.sSeq (sSet (.name 4) (e2 subD (e2 subD (eVar 4) (e2 ixD (eVar 6) (eC (.int 2)))) (e2 ixD (eVar 6) (eC (.int 3))))) sNil))) sNil) sNil)) (CL.sSeq (sFrz 3) (CL.sSeq (sRet (eVar 3)) sNil)))))
def F_law_rivals : Fn := runB 3 11 (CL.sSeq (sSet (.name 3) (eLstC aNil)) (CL.sSeq (sFor (CL.iRng (eVar 1)) (.name 4) (CL.sSeq (sFor (CL.iRng2 (e2 addD (eVar 4) (eC (.int 1))) (eVar 1)) (.name 5) (CL.sSeq (sSet (.name 6) (eCall F_law_take (aCons (eVar 0) (aCons (eC (.int 8)) aNil)))) (CL.sSeq (sSet (.name 7) (e2 eqD (e1 lenD (eLc [10] (CL.iLst (eVar 2)) (.name 10) (CL.tAnd (tVal (e2 inD (eVar 4) (e2 ixD (eVar 10) (eC (.int 0))))) (tVal (e2 inD (eVar 5) (e2 ixD (eVar 10) (eC (.int 0)))))) (eVar 10))) (eC (.int 0)))) (CL.sSeq (sSet (.name 8) (eTup (aCons (eC (.int 0)) (aCons (eC (.int 0)) aNil)))) (CL.sSeq (sIf (tVal (e2 ltD (eVar 6) (eC (.int 3)))) (CL.sSeq (sSet (.name 8) (eTup (aCons (eCall F_law_take (aCons (eVar 0) (aCons (eC (.int 10)) aNil))) (aCons (eCall F_law_take (aCons (eVar 0) (aCons (eC (.int 10)) aNil))) aNil)))) sNil) sNil) (CL.sSeq (sIf (tVal (e2 eqD (eVar 6) (eC (.int 3)))) (CL.sSeq (sSet (.name 8) (eTup (aCons (eCall F_law_take (aCons (eVar 0) (aCons (eC (.int 3)) aNil))) (aCons (eCall F_law_take (aCons (eVar 0) (aCons (eC (.int 3)) aNil))) aNil)))) sNil) sNil) (CL.sSeq (sIf (CL.tOr (tVal (e2 ltD (eVar 6) (eC (.int 4)))) (CL.tAnd (tVal (e2 ltD (eVar 6) (eC (.int 6)))) (tTru (eVar 7)))) (CL.sSeq (sSet (.name 9) (eTup (aCons (eVar 4) (aCons (eVar 5) aNil)))) (CL.sSeq (sIf (tVal (e2 eqD (eCall F_law_take (aCons (eVar 0) (aCons (eC (.int 2)) aNil))) (eC (.int 1)))) (CL.sSeq (sSet (.name 9) (eTup (aCons (eVar 5) (aCons (eVar 4) aNil)))) sNil) sNil) (CL.sSeq (sApp (eVar 3) (e2 addD (eVar 9) (eVar 8))) sNil))) sNil) sNil))))))) sNil)) (CL.sSeq (sFrz 3) (CL.sSeq (sRet (eVar 3)) sNil))))
def F_law_lane : Fn := runB 4 8 (CL.sSeq (sSet (.name 4) (eCall F_law_take (aCons (eVar 0) (aCons (eC (.int 8)) aNil)))) (CL.sSeq (sIf (CL.tAnd (tTru (eVar 2)) (tVal (e2 gtD (eCall F_law_take (aCons (eVar 0) (aCons (eC (.int 4)) aNil))) (eC (.int 0))))) (CL.sSeq (sSet (.name 4) (eC (.int 3))) sNil) sNil) (CL.sSeq (sIf (CL.tAnd (tVal (e2 ltD (eVar 4) (eC (.int 2)))) (tVal (e2 gtD (eVar 1) (eC (.int 0))))) (CL.sSeq (sRet (eTup (aCons (eC (.str "foot")) (aCons (e2 addD (eC (.int 1)) (eCall F_law_take (aCons (eVar 0) (aCons (eC (.int 24)) aNil)))) aNil)))) sNil) sNil) (CL.sSeq (sSet (.name 5) (eCall F_law_take (aCons (eVar 0) (aCons (eC (.int 10)) aNil)))) (CL.sSeq (sIf (CL.tOr (tVal (e2 gtD (eVar 4) (eC (.int 4)))) (tVal (e2 eqD (eVar 1) (eC (.int 0))))) (CL.sSeq (sRet (eTup (aCons (eC (.str "road")) (aCons (eVar 5) (aCons (eC .non) (aCons (eC (.int 0)) aNil)))))) sNil) sNil) (CL.sSeq (sSet (.name 6) (e2 addD (eC (.int 1)) (eCall F_law_take (aCons (eVar 0) (aCons (eC (.int 6)) aNil))))) (CL.sSeq (sSet (.name 7) (eTup (aCons (e2 addD (eC (.int 1)) (eCall F_law_take (aCons (eVar 0) (aCons (eC (.int 3)) aNil)))) (aCons (e2 addD (eC (.int 1)) (eCall F_law_take (aCons (eVar 0) (aCons (eVar 6) aNil)))) (aCons (eVar 6) aNil))))) (CL.sSeq (sIf (CL.tAnd (tTru (eVar 3)) (tVal (e2 eqD (eCall F_law_take (aCons (eVar 0) (aCons (eC (.int 3)) aNil))) (eC (.int 0))))) (CL.sSeq (sRet (eTup (aCons (eC (.str "road")) (aCons (eVar 5) (aCons (eVar 7) (aCons (e2 addD (eC (.int 1)) (eCall F_law_take (aCons (eVar 0) (aCons (eC (.int 12)) aNil)))) aNil)))))) sNil) sNil) (CL.sSeq (sRet (eTup (aCons (eC (.str "road")) (aCons (eVar 5) (aCons (eVar 7) (aCons (eC (.int 0)) aNil)))))) sNil)))))))))
def F_law_springs : Fn := runB 1 2 (CL.sSeq (sRet (e1 lenD (eLc [1] (CL.iLst (eVar 0)) (.name 1) (CL.tOr (tVal (e2 eqD (e2 ixD (eVar 1) (eC (.int 0))) (eC (.str "foot")))) (tVal (e2 isnD (e2 ixD (eVar 1) (eC (.int 2))) (eC .non)))) (eVar 1)))) sNil)
def F_law_site : Fn := runB 4 11 (CL.sSeq (sSet (.name 4) (e2 addD (eC (.int 1)) (eCall F_law_take (aCons (eVar 0) (aCons (eC (.int 3)) aNil))))) (CL.sSeq (sIf (tVal (e2 eqD (eCall F_law_take (aCons (eVar 0) (aCons (eC (.int 8)) aNil))) (eC (.int 0)))) (CL.sSeq (sSet (.name 4) (e2 addD (eC (.int 1)) (eCall F_law_take (aCons (eVar 0) (aCons (eC (.int 6)) aNil))))) sNil) sNil) (CL.sSeq (sSet (.name 5) (eCall F_law_phases (aCons (eVar 0) (aCons (eVar 4) (aCons (eVar 1) aNil))))) (CL.sSeq (sSet (.name 6) (eCall F_law_rivals (aCons (eVar 0) (aCons (eVar 4) (aCons (eVar 5) aNil))))) (CL.sSeq (sSet (.name 7) (eLstC aNil)) (CL.sSeq (sSet (.name 8) (eC (.bl true))) (CL.sSeq (sFor (CL.iRng (eVar 4)) (.name 9) (CL.sSeq (sSet (.name 10) (eCall F_law_lane (aCons (eVar 0) (aCons (e2 subD (eVar 3) (eLend 0 F_law_springs (aCons (eVar 7) aNil))) (aCons (e2 eqD (e2 addD (eVar 2) (eVar 9)) (eC (.int 0))) (aCons (eVar 8) aNil)))))) (CL.sSeq (sIf (CL.tAnd (tVal (e2 eqD (e2 ixD (eVar 10) (eC (.int 0))) (eC (.str "road")))) (tVal (e2 gtD (e2 ixD (eVar 10) (eC (.int 3))) (eC (.int 0))))) (CL.sSeq (sSet (.name 8) (eC (.bl false))) sNil) sNil) (CL.sSeq (sApp (eVar 7) (eVar 10)) sNil)))) (CL.sSeq (sFrz 7) (CL.sSeq (sRet (eTup (aCons (eSl (eLst (aCons (eC (.str "a")) (aCons (eC (.str "b")) (aCons (eC (.str "ba")) (aCons (eC (.str "c")) (aCons (eC (.str "abc")) (aCons (eC (.str "zz")) aNil))))))) oNo (oAt (eVar 4))) (aCons (eVar 6) (aCons (eVar 5) (aCons (eVar 7) aNil)))))) sNil)))))))))
def F_law_streets : Fn := runB 2 11 (CL.sSeq (sSet (.name 2) (eLstC aNil)) (CL.sSeq (sSet (.name 3) (eLstC aNil)) (CL.sSeq (sFor (CL.iRng (e1 lenD (eVar 1))) (.name 4) (CL.sSeq (sSet (.name 7) (e2 ixD (e2 ixD (eVar 1) (eVar 4)) (eC (.int 3)))) (CL.sSeq (sFor (CL.iRng (e1 lenD (eVar 7))) (.name 8) (CL.sSeq (sIf (tVal (e2 eqD (e2 ixD (e2 ixD (eVar 7) (eVar 8)) (eC (.int 0))) (eC (.str "road")))) (CL.sSeq (sApp (eVar 2) (eTup (aCons (eVar 4) (aCons (eVar 8) aNil)))) (CL.sSeq (sIf (tVal (e2 isD (e2 ixD (e2 ixD (eVar 7) (eVar 8)) (eC (.int 2))) (eC .non))) (CL.sSeq (sApp (eVar 3) (eTup (aCons (eVar 4) (aCons (eVar 8) aNil)))) sNil) sNil) sNil)) sNil) sNil)) sNil))) (CL.sSeq (sSet (.name 5) (eLstC aNil)) (CL.sSeq (sFor (CL.iRng (eCall F_law_take (aCons (eVar 0) (aCons (eC (.int 7)) aNil)))) (.name 6) (CL.sSeq (sIf (CL.tAnd (tVal (e2 gtD (e1 lenD (eVar 2)) (eC (.int 0)))) (tVal (e2 gtD (e1 lenD (eVar 3)) (eC (.int 0))))) (CL.sSeq (sSet (.name 9) (ePopAt (eVar 2) (eCall F_law_take (aCons (eVar 0) (aCons (e1 lenD (eVar 2)) aNil))))) (CL.sSeq (sSet (.name 10) (ePopAt (eVar 3) (eCall F_law_take (aCons (eVar 0) (aCons (e1 lenD (eVar 3)) aNil))))) (CL.sSeq (sApp (eVar 5) (eTup (aCons (eVar 9) (aCons (eVar 10) (aCons (e2 addD (eC (.int 1)) (eCall F_law_take (aCons (eVar 0) (aCons (eC (.int 6)) aNil)))) aNil))))) sNil))) sNil) sNil)) (CL.sSeq (sFrz 2) (CL.sSeq (sFrz 3) (CL.sSeq (sFrz 5) (CL.sSeq (sRet (eVar 5)) sNil)))))))))
def F_law_town : Fn := runB 1 8 (CL.sSeq (sSet (.name 1) (e2 addD (eC (.int 2)) (eCall F_law_take (aCons (eVar 0) (aCons (eC (.int 4)) aNil))))) (CL.sSeq (sIf (tVal (e2 eqD (eCall F_law_take (aCons (eVar 0) (aCons (eC (.int 5)) aNil))) (eC (.int 0)))) (CL.sSeq (sSet (.name 1) (e2 addD (eC (.int 2)) (eCall F_law_take (aCons (eVar 0) (aCons (eC (.int 11)) aNil))))) sNil) sNil) (CL.sSeq (sSet (.name 2) (e2 addD (eC (.int 1)) (eCall F_law_take (aCons (eVar 0) (aCons (eC (.int 2)) aNil))))) (CL.sSeq (sIf (tVal (e2 eqD (eCall F_law_take (aCons (eVar 0) (aCons (eC (.int 6)) aNil))) (eC (.int 0)))) (CL.sSeq (sSet (.name 2) (e2 addD (eC (.int 1)) (eCall F_law_take (aCons (eVar 0) (aCons (eC (.int 4)) aNil))))) sNil) sNil) (CL.sSeq (sSet (.name 3) (eLstC aNil)) (CL.sSeq (sSet (.name 4) (eC (.int 6))) (CL.sSeq (sFor (CL.iRng (eVar 2)) (.name 5) (CL.sSeq (sSet (.name 7) (eCall F_law_site (aCons (eVar 0) (aCons (eVar 1) (aCons (eVar 5) (aCons (eVar 4) aNil)))))) (CL.sSeq (sSet (.name 4) (e2 subD (eVar 4) (eCall F_law_springs (aCons (e2 ixD (eVar 7) (eC (.int 3))) aNil)))) (CL.sSeq (sApp (eVar 3) (eVar 7)) sNil)))) (CL.sSeq (sFrz 3) (CL.sSeq (sSet (.name 6) (eLc [7] (CL.iLst (eVar 3)) (.name 7) CL.tYes (eCall F_law_take (aCons (eVar 0) (aCons (eVar 1) aNil))))) (CL.sSeq (sRet (eTup (aCons (eVar 1) (aCons (eVar 3) (aCons (eVar 6) (aCons (eCall F_law_streets (aCons (eVar 0) (aCons (eVar 3) aNil))) aNil)))))) sNil))))))))))
def F_law_make_rate : Fn := runB 1 1 (CL.sSeq (sIf (tVal (e2 isD (eVar 0) (eC .non))) (CL.sSeq (sRet (eC .non)) sNil) sNil) (CL.sSeq (sRet (eMake 5 F_Rate_init (aCons (e2 ixD (eVar 0) (eC (.int 0))) (aCons (e2 ixD (eVar 0) (eC (.int 1))) (aCons (e2 ixD (eVar 0) (eC (.int 2))) aNil))))) sNil))
def F_law_make_lane : Fn := runB 1 1 (CL.sSeq (sIf (tVal (e2 eqD (e2 ixD (eVar 0) (eC (.int 0))) (eC (.str "foot")))) (CL.sSeq (sRet (eMake 2 F_Foot_init (aCons (e2 ixD (eVar 0) (eC (.int 1))) aNil))) sNil) sNil) (CL.sSeq (sRet (eMakeK 3 F_Road_init (aCons (e2 ixD (eVar 0) (eC (.int 1))) aNil) (aCons (eCall F_law_make_rate (aCons (e2 ixD (eVar 0) (eC (.int 2))) aNil)) (aCons (e2 ixD (eVar 0) (eC (.int 3))) aNil)))) sNil))
def F_law_make_phase : Fn := runB 1 1 (CL.sSeq (sIf (tTru (e2 ixD (eVar 0) (eC (.int 6)))) (CL.sSeq (sRet (eMakeK 4 F_Phase_init (aCons (e1 listD (e2 ixD (eVar 0) (eC (.int 0)))) aNil) (aCons (e2 ixD (eVar 0) (eC (.int 1))) (aCons (e2 ixD (eVar 0) (eC (.int 2))) (aCons (e2 ixD (eVar 0) (eC (.int 3))) (aCons (e1 listD (e2 ixD (eVar 0) (eC (.int 4)))) (aCons (e1 listD (e2 ixD (eVar 0) (eC (.int 5)))) (aCons (eC (.bl true)) aNil)))))))) sNil) sNil) (CL.sSeq (sRet (eMakeK 4 F_Phase_init (aCons (e1 listD (e2 ixD (eVar 0) (eC (.int 0)))) aNil) (aCons (e2 ixD (eVar 0) (eC (.int 1))) (aCons (e2 ixD (eVar 0) (eC (.int 2))) (aCons (e2 ixD (eVar 0) (eC (.int 3))) (aCons (e1 listD (e2 ixD (eVar 0) (eC (.int 4)))) (aCons (e1 listD (e2 ixD (eVar 0) (eC (.int 5)))) (aCons (eC (.bl false)) aNil)))))))) sNil))
def F_law_make_book : Fn := runB 2 4 (CL.sSeq (sSet (.name 2) (eLc [3] (CL.iLst (e2 ixD (eVar 0) (eC (.int 2)))) (.name 3) CL.tYes (eCall F_law_make_phase (aCons (eVar 3) aNil)))) (CL.sSeq (sRet (eMake 0 F_Book_init (aCons (eMake 1 F_Crossing_init (aCons (e1 listD (e2 ixD (eVar 0) (eC (.int 0)))) (aCons (e1 listD (e2 ixD (eVar 0) (eC (.int 1)))) aNil))) (aCons (eVar 1) (aCons (e2 ixD (eVar 2) (eC (.int 0))) (aCons (eSl (eVar 2) (oAt (eC (.int 1))) oNo) aNil)))))) sNil))
def F_law_make_site : Fn := runB 2 4 (CL.sSeq (sSet (.name 2) (eLc [3] (CL.iLst (e2 ixD (eVar 0) (eC (.int 3)))) (.name 3) CL.tYes (eCall F_law_make_lane (aCons (eVar 3) aNil)))) (CL.sSeq (sRet (eMake 6 F_Site_init (aCons (eCall F_law_make_book (aCons (eVar 0) (aCons (eVar 1) aNil))) (aCons (eVar 2) aNil)))) sNil))
def F_law_make_town : Fn := runB 1 5 (CL.sSeq (sSet (.name 1) (eLc [3] (CL.iLst (e2 ixD (eVar 0) (eC (.int 1)))) (.name 3) CL.tYes (eCall F_law_make_site (aCons (eVar 3) (aCons (e2 ixD (eVar 0) (eC (.int 0))) aNil))))) (CL.sSeq (sSet (.name 2) (eLc [4] (CL.iLst (e2 ixD (eVar 0) (eC (.int 3)))) (.name 4) CL.tYes (eMake 7 F_Street_init (aCons (e2 ixD (eVar 4) (eC (.int 0))) (aCons (e2 ixD (eVar 4) (eC (.int 1))) (aCons (e2 ixD (eVar 4) (eC (.int 2))) aNil)))))) (CL.sSeq (sRet (eMake 8 F_Town_init (aCons (eVar 1) (aCons (e1 listD (e2 ixD (eVar 0) (eC (.int 2)))) (aCons (eVar 2) aNil))))) sNil)))
def F_law_following : Fn := runB 3 4 (CL.sSeq (sFor (CL.iRng2 (e2 addD (eVar 2) (eC (.int 1))) (e1 lenD (eVar 1))) (.name 3) (CL.sSeq (sIf (tVal (e2 eqD (e1 lenD (e2 ixD (e2 ixD (eVar 1) (eVar 3)) (eC (.int 5)))) (eC (.int 0)))) (CL.sSeq (sRet (eVar 3)) sNil) sNil) sNil)) (CL.sSeq (sRet (eC (.int 0))) sNil))
def F_law_still : Fn := runB 3 9 (CL.sSeq (sSet (.name 3) (eLstC aNil)) (CL.sSeq (sSet (.name 4) (eC (.int 0))) (CL.sSeq (sSet (.name 5) (eC (.int 1))) (CL.sSeq (sSet (.name 6) (eC (.int 0))) (CL.sSeq (sFor (CL.iRng (e2 addD (e2 addD (eVar 2) (eC (.int 1))) (e2 mulD (eC (.int 9)) (eVar 0)))) (.name 7) (CL.sSeq (sSet (.name 8) (eC (.bl false))) (CL.sSeq (sIf (tVal (e2 gtD (eVar 6) (eC (.int 0)))) (CL.sSeq (sSet (.name 6) (e2 subD (eVar 6) (eC (.int 1)))) (CL.sSeq (sSet (.name 8) (e2 eqD (eVar 6) (eC (.int 0)))) sNil)) (CL.sSeq (sIf (CL.tAnd (tVal (e2 eqD (eVar 4) (eC (.int 0)))) (CL.tOr (tVal (e2 neD (e2 modD (e1 int1D (eVar 7)) (eVar 0)) (eC (.int 0)))) (tVal (e2 eqD (eCall F_law_following (aCons (eVar 0) (aCons (eVar 1) (aCons (eC (.int 0)) aNil)))) (eC (.int 0)))))) (CL.sSeq (sSet (.name 5) (eC (.int 1))) sNil) (CL.sSeq (sIf (CL.tAnd (tVal (e2 gtD (eVar 4) (eC (.int 0)))) (tVal (e2 ltD (eVar 5) (e2 ixD (e2 ixD (eVar 1) (eVar 4)) (eC (.int 1)))))) (CL.sSeq (sSet (.name 5) (e2 addD (eVar 5) (eC (.int 1)))) sNil) (CL.sSeq (sSet (.name 6) (e2 ixD (e2 ixD (eVar 1) (eVar 4)) (eC (.int 3)))) (CL.sSeq (sSet (.name 8) (e2 eqD (eVar 6) (eC (.int 0)))) sNil))) sNil)) sNil)) (CL.sSeq (sIf (tTru (eVar 8)) (CL.sSeq (sSet (.name 4) (eCall F_law_following (aCons (eVar 0) (aCons (eVar 1) (aCons (eVar 4) aNil))))) (CL.sSeq (sSet (.name 5) (eC (.int 1))) sNil)) sNil) (CL.sSeq (sIf (tVal (e2 gtD (eVar 6) (eC (.int 0)))) (CL.sSeq (sApp (eVar 3) (eTup (aCons (eVar 4) (aCons (e2 subD (eC (.int 0)) (eVar 6)) aNil)))) sNil) (CL.sSeq (sApp (eVar 3) (eTup (aCons (eVar 4) (aCons (e2 subD (eVar 5) (eC (.int 1))) aNil)))) sNil)) sNil))))) (CL.sSeq (sFrz 3) (CL.sSeq (sRet (eVar 3)) sNil)))))))
def F_law_streams_shown : Fn := runB 2 2 (CL.sSeq (sIf (tVal (e2 ltD (e2 ixD (eVar 1) (eC (.int 1))) (eC (.int 0)))) (CL.sSeq (sRet (eTup aNil)) sNil) sNil) (CL.sSeq (sRet (e2 ixD (e2 ixD (eVar 0) (e2 ixD (eVar 1) (eC (.int 0)))) (eC (.int 0)))) sNil))
def F_law_reach : Fn := runB 2 4 (CL.sSeq (sSet (.name 2) (e2 addD (eLc [3] (CL.iLst (eVar 0)) (.name 3) (tVal (e2 eqD (e2 ixD (eVar 3) (eC (.int 0))) (eVar 1))) (e2 ixD (eVar 3) (eC (.int 2)))) (eLc [3] (CL.iLst (eVar 0)) (.name 3) (tVal (e2 eqD (e2 ixD (eVar 3) (eC (.int 1))) (eVar 1))) (e2 ixD (eVar 3) (eC (.int 3)))))) (CL.sSeq (sRet (e1 maxD (e2 addD (eLst (aCons (eC (.int 0)) aNil)) (eVar 2)))) sNil))
def F_law_since : Fn := runB 4 6 (CL.sSeq (sSet (.name 4) (eCall F_law_reach (aCons (eVar 0) (aCons (eVar 3) aNil)))) (CL.sSeq (sFor (CL.iRng (eVar 4)) (.name 5) (CL.sSeq (sIf (tVal (e2 inD (eVar 3) (eCall F_law_streams_shown (aCons (eVar 1) (aCons (e2 ixD (eVar 2) (e2 subD (e2 subD (e1 lenD (eVar 2)) (eC (.int 2))) (eVar 5))) aNil))))) (CL.sSeq (sRet (eVar 5)) sNil) sNil) sNil)) (CL.sSeq (sRet (eVar 4)) sNil)))
def F_law_begin : Fn := runB 1 14 (CL.sSeq (sSet (.name 1) (eLstC aNil)) (CL.sSeq (sSet (.name 2) (eLstC aNil)) (CL.sSeq (sSet (.name 3) (eLstC aNil)) (CL.sSeq (sFor (CL.iRng (e1 lenD (e2 ixD (eVar 0) (eC (.int 1))))) (.name 4) (CL.sSeq (sSet (.name 9) (e2 ixD (e2 ixD (eVar 0) (eC (.int 1))) (eVar 4))) (CL.sSeq (sSet (.name 10) (eCall F_law_still (aCons (e2 ixD (eVar 0) (eC (.int 0))) (aCons (e2 ixD (eVar 9) (eC (.int 2))) (aCons (e2 modD (e1 int1D (e2 subD (eC (.int 0)) (e2 ixD (e2 ixD (eVar 0) (eC (.int 2))) (eVar 4)))) (e2 ixD (eVar 0) (eC (.int 0)))) aNil))))) (CL.sSeq (sApp (eVar 1) (e2 ixD (eVar 10) (e2 subD (e1 lenD (eVar 10)) (eC (.int 1))))) (CL.sSeq (sFor (CL.iRng (e1 lenD (e2 ixD (eVar 9) (eC (.int 0))))) (.name 11) (CL.sSeq (sSet (.name 12) (e2 ixD (e2 ixD (eVar 9) (eC (.int 3))) (eVar 11))) (CL.sSeq (sApp (eVar 2) (eCall F_law_since (aCons (e2 ixD (eVar 9) (eC (.int 1))) (aCons (e2 ixD (eVar 9) (eC (.int 2))) (aCons (eVar 10) (aCons (eVar 11) aNil)))))) (CL.sSeq (sIf (CL.tAnd (tVal (e2 eqD (e2 ixD (eVar 12) (eC (.int 0))) (eC (.str "road")))) (tVal (e2 isnD (e2 ixD (eVar 12) (eC (.int 2))) (eC .non)))) (CL.sSeq (sApp (eVar 3) (e2 subD (e2 addD (e2 mulD (e2 ixD (e2 ixD (eVar 12) (eC (.int 2))) (eC (.int 0))) (e2 ixD (e2 ixD (eVar 12) (eC (.int 2))) (eC (.int 2)))) (e2 ixD (e2 ixD (eVar 12) (eC (.int 2))) (eC (.int 1)))) (eC (.int 1)))) sNil) (CL.sSeq (sApp (eVar 3) (eC (.int 0))) sNil)) sNil)))) sNil))))) (CL.sSeq (sFrz 1) (CL.sSeq (sFrz 2) (CL.sSeq (sFrz 3) (CL.sSeq (sSet (.name 5) (eLc [12] (CL.iLst (eVar 2)) (.name 12) CL.tYes (eC (.int 0)))) (CL.sSeq (sSet (.name 6) (eLc [12] (CL.iLst (eVar 2)) (.name 12) CL.tYes (e1 negD (eC (.int 1))))) (CL.sSeq (sSet (.name 7) (eLc [13] (CL.iLst (e2 ixD (eVar 0) (eC (.int 3)))) (.name 13) CL.tYes (e1 tupleD (eLc [4] (CL.iRng (e2 ixD (eVar 13) (eC (.int 2)))) (.name 4) CL.tYes (eC (.int 0)))))) (CL.sSeq (sSet (.name 8) (eTup (aCons (eC (.int 0)) (aCons (e1 tupleD (eVar 1)) (aCons (e1 tupleD (eVar 2)) (aCons (e1 tupleD (eVar 5)) (aCons (e1 tupleD (eVar 6)) (aCons (e1 tupleD (eVar 5)) (aCons (e1 tupleD (eVar 3)) aNil))))))))) (CL.sSeq (sRet (e2 addD (eVar 8) (eTup (aCons (e1 tupleD (eVar 7)) aNil)))) sNil))))))))))))
def F_law_quiet_agrees : Fn := runB 3 6 (CL.sSeq (sFor (CL.iRng (e1 lenD (e2 ixD (eVar 1) (eC (.int 1))))) (.name 3) (CL.sSeq (sSet (.name 4) (e2 modD (e1 int1D (e2 subD (eC (.int 0)) (e2 ixD (e2 ixD (eVar 1) (eC (.int 2))) (eVar 3)))) (e2 ixD (eVar 1) (eC (.int 0))))) (CL.sSeq (sSet (.name 5) (eCall F_quiet (aCons (e1 (fldD 23) (e2 ixD (e1 (fldD 28) (eVar 0)) (eVar 3))) aNil))) (CL.sSeq (sIf (CL.tOr (CL.tNot (tTru (e1 (isTyD "list") (eVar 5)))) (tVal (e2 neD (e1 lenD (eVar 5)) (e2 ixD (eVar 1) (eC (.int 0)))))) (CL.sSeq (sRet (eC (.bl false))) sNil) sNil) (CL.sSeq (sIf (CL.tNot (tTru (eCall (F_law_same 5) (aCons (e2 ixD (eVar 5) (eVar 4)) (aCons (e2 addD (eTup (aCons (eVar 4) aNil)) (e2 ixD (e2 ixD (eVar 2) (eC (.int 1))) (eVar 3))) aNil))))) (CL.sSeq (sRet (eC (.bl false))) sNil) sNil) sNil))))) (CL.sSeq (sRet (eC (.bl true))) sNil))
def F_law : Fn := runB 1 7 (CL.sSeq (sSet (.name 1) (eCall F_law_town (aCons (eCall F_law_hand (aCons (eVar 0) (aCons (eC (.int 0)) aNil))) aNil))) (CL.sSeq (sSet (.name 2) (eCall F_law_make_town (aCons (eVar 1) aNil))) (CL.sSeq (sSet (.name 3) (eCall F_law_begin (aCons (eVar 1) aNil))) (CL.sSeq (sIf (CL.tOr (CL.tNot (tTru (eCall (F_law_same 5) (aCons (eCall F_first_state (aCons (eVar 2) aNil)) (aCons (eVar 3) aNil))))) (CL.tNot (tTru (eCall F_law_quiet_agrees (aCons (eVar 2) (aCons (eVar 1) (aCons (eVar 3) aNil))))))) (CL.sSeq (sRet (eC (.bl false))) sNil) sNil) (CL.sSeq (sSet (.name 4) (e2 subD (eCall F_law_take (aCons (eCall F_law_hand (aCons (eVar 0) (aCons (eC (.int 1)) aNil))) (aCons (eC (.int 25)) aNil))) (eC (.int 12)))) (CL.sSeq (sSet (.name 5) (eTup (aCons (e2 ixD (eVar 1) (eC (.int 0))) (aCons (e2 ixD (eVar 1) (eC (.int 1))) (aCons (eLc [6] (CL.iLst (e2 ixD (eVar 1) (eC (.int 2)))) (.name 6) CL.tYes (e2 modD (e1 int1D (e2 addD (eVar 6) (eVar 4))) (e2 ixD (eVar 1) (eC (.int 0))))) (aCons (e2 ixD (eVar 1) (eC (.int 3))) aNil)))))) (CL.sSeq (sIf (CL.tNot (tTru (eCall (F_law_same 5) (aCons (eCall F_first_state (aCons (eMeth 8 F_Town_turned (eVar 2) (aCons (eVar 4) aNil)) aNil)) (aCons (eCall F_law_begin (aCons (eVar 5) aNil)) aNil))))) (CL.sSeq (sRet (eC (.bl false))) sNil) sNil) (CL.sSeq (sRet (eCall (F_law_same 5) (aCons (eCall F_first_state (aCons (eVar 2) aNil)) (aCons (eVar 3) aNil)))) sNil))))))))
end K63
end
section
set_option Elab.async false
set_option linter.all false
/-! P1: a small calculus for the functional terms: `W r Q`: r ends well, and Q holds of what it hands back. -/
namespace CL.CP
open PySem
/-- connectives that simp reads from the left only: what leans on an instance is not rewritten -/
abbrev Kp {β : Sort _} (_ : β) : Type := Unit
def Sm {α : Type} (o : Option α) (P : α → Prop) (_qP : Kp P := ()) : Prop := ∃ a, o = some a ∧ P a
def Bo (x : D) (A B : Prop) (_qA : Kp A := ()) (_qB : Kp B := ()) : Prop := (x = .bl true ∧ A) ∨ (x = .bl false ∧ B)
def Bl (x : D) (P : Bool → Prop) (_qP : Kp P := ()) : Prop := ∃ k, x = .bl k ∧ P k
def If (k : Bool) (A B : Prop) (_qA : Kp A := ()) (_qB : Kp B := ()) : Prop := (k = true → A) ∧ (k = false → B)
def In (x : D) (P : Int → Prop) (_qP : Kp P := ()) : Prop := ∃ n, x = .int n ∧ P n
def Ce (x : D) (P : Nat → Prop) (_qP : Kp P := ()) : Prop := ∃ k, x = .cell k ∧ P k
def An (p : Prop) (A : Prop) (_qA : Kp A := ()) : Prop := p ∧ A
def Nx (f : Fl) (P : List (Option D) → Prop) (A : Prop) (_qP : Kp P := ()) (_qA : Kp A := ()) : Prop := match f with
  | .nx ρ => P ρ
  | _ => A
@[simp] theorem Sm_some {α : Type} {a : α} {P : α → Prop} : Sm (some a) P ↔ P a := by simp [Sm]
@[simp] theorem Sm_none {α : Type} {P : α → Prop} : Sm none P ↔ False := by simp [Sm]
@[simp] theorem Bo_t {A B : Prop} : Bo (.bl true) A B ↔ A := by simp [Bo]
@[simp] theorem Bo_f {A B : Prop} : Bo (.bl false) A B ↔ B := by simp [Bo]
theorem Bo_if {k : Bool} {A B : Prop} : Bo (.bl k) A B ↔ If k A B := by cases k <;> simp [Bo, If]
@[simp] theorem Bl_bl {k : Bool} {P : Bool → Prop} : Bl (.bl k) P ↔ P k := by simp [Bl]
@[simp] theorem If_t {A B : Prop} : If true A B ↔ A := by simp [If]
@[simp] theorem If_f {A B : Prop} : If false A B ↔ B := by simp [If]
@[simp] theorem In_int {n : Int} {P : Int → Prop} : In (.int n) P ↔ P n := by simp [In]
@[simp] theorem Ce_cell {n : Nat} {P : Nat → Prop} : Ce (.cell n) P ↔ P n := by simp [Ce]
@[simp] theorem An_t {A : Prop} : An True A ↔ A := by simp [An]
@[simp] theorem Nx_nx {ρ : List (Option D)} {P : List (Option D) → Prop} {A : Prop} : Nx (.nx ρ) P A ↔ P ρ := by unfold Nx; exact Iff.rfl
@[simp] theorem Nx_ret {d : D} {P : List (Option D) → Prop} {A : Prop} : Nx (.ret d) P A ↔ A := by unfold Nx; exact Iff.rfl
@[simp] theorem Nx_bk {ρ : List (Option D)} {P : List (Option D) → Prop} {A : Prop} : Nx (.bk ρ) P A ↔ A := by unfold Nx; exact Iff.rfl
@[simp] theorem Nx_ct {ρ : List (Option D)} {P : List (Option D) → Prop} {A : Prop} : Nx (.ct ρ) P A ↔ A := by unfold Nx; exact Iff.rfl
/-- names -/
@[irreducible] def look (ρ : List (Option D)) (i : Nat) : Option D := (ρ[i]?).getD none
@[simp] theorem look_zero {x : Option D} {l : List (Option D)} : look (x :: l) 0 = x := by unfold look; rfl
@[simp] theorem look_succ {x : Option D} {l : List (Option D)} {n : Nat} : look (x :: l) (n + 1) = look l n := by unfold look; rfl
@[irreducible] def put (ρ : List (Option D)) (i : Nat) (d : D) : List (Option D) := ρ.set i (some d)
@[simp] theorem put_zero {x : Option D} {l : List (Option D)} {d : D} : put (x :: l) 0 d = some d :: l := by unfold put; rfl
@[simp] theorem put_succ {x : Option D} {l : List (Option D)} {n : Nat} {d : D} : put (x :: l) (n + 1) d = x :: put l n d := by unfold put; rfl
@[irreducible] def envOf (ds : List D) (k : Nat) : List (Option D) := ds.map some ++ List.replicate k none
@[simp] theorem env_cons {d : D} {ds : List D} {k : Nat} : envOf (d :: ds) k = some d :: envOf ds k := by unfold envOf; rfl
@[simp] theorem env_succ {k : Nat} : envOf [] (k + 1) = none :: envOf [] k := by unfold envOf; rfl
@[simp] theorem env_nil : envOf [] 0 = [] := by unfold envOf; rfl
def W {α : Type} (r : R α) (Q : α → S → Prop) (_qQ : Kp Q := ()) : Prop := ∃ a s, r = .ok a s ∧ Q a s
section
variable {α β : Type} {Q : α → S → Prop} {ρ : Env} {s : S}
theorem W.mono {r : R α} {Q' : α → S → Prop} (h : W r Q) (m : ∀ a s, Q a s → Q' a s) : W r Q' := by
  obtain ⟨a, s, e, q⟩ := h
  exact ⟨a, s, e, m a s q⟩
theorem W_iff {r : R α} {Q' : α → S → Prop} (m : ∀ a s, Q a s ↔ Q' a s) : W r Q ↔ W r Q' := ⟨fun h => h.mono fun a s => (m a s).1, fun h => h.mono fun a s => (m a s).2⟩
theorem W.eq {r : R α} (h : W r Q) : ∃ a s, r = .ok a s ∧ Q a s := h
@[simp] theorem W_ok {a : α} : W (.ok a s) Q ↔ Q a s := ⟨fun ⟨_, _, e, q⟩ => by cases e; exact q, fun q => ⟨_, _, rfl, q⟩⟩
@[simp] theorem W_fail : W (.fail : R α) Q ↔ False := ⟨fun ⟨_, _, e, _⟩ => (by cases e), False.elim⟩
@[simp] theorem W_exc {x : Xc} : W (.exc x s : R α) Q ↔ False := ⟨fun ⟨_, _, e, _⟩ => (by cases e), False.elim⟩
@[simp] theorem W_b {r : R β} {g : β → S → R α} : W (r.b g) Q ↔ W r fun b s => W (g b s) Q := by
  cases r <;> simp
@[simp] theorem W_nx {r : R α} : W r.nx Q ↔ W r Q := by cases r <;> simp [R.nx]
@[simp] theorem W_of {o : Option α} : W (R.of o s) Q ↔ Sm o fun a => Q a s := by cases o <;> simp
end
section
variable {Q : D → S → Prop} {P : Bool → S → Prop} {L : List D → S → Prop} {O : Option Int → S → Prop} {U : Fl → S → Prop} {ρ : Env} {s : S} {a b c : Ex} {t u : Tx}
@[simp] theorem W_eVar {i : Nat} : W (eVar i ρ s) Q ↔ Sm (look ρ i) fun d => Q d s := by
  unfold eVar look
  cases e : ρ[i]? with
  | none => simp
  | some o => cases o <;> simp
@[simp] theorem W_eC {d : D} : W (eC d ρ s) Q ↔ Q d s := by simp [eC]
@[simp] theorem W_eNo : W (eNo ρ s) Q ↔ False := by simp [eNo]
@[simp] theorem W_e1 {op : S → D → Option D} : W (e1 op a ρ s) Q ↔ W (a ρ s) fun x s => Sm (op s x) fun z => Q z s := by unfold e1; rw [W_b]; exact W_iff fun x s => W_of
@[simp] theorem W_e2 {op : S → D → D → Option D} : W (e2 op a b ρ s) Q ↔ W (a ρ s) fun x s => W (b ρ s) fun y s => Sm (op s x y) fun z => Q z s := by unfold e2; rw [W_b]; exact W_iff fun x s => W_b.trans (W_iff fun y s => W_of)
@[simp] theorem W_eCh {op op' : S → D → D → Option D} : W (eCh op op' a b c ρ s) Q ↔ W (a ρ s) fun x s => W (b ρ s) fun y s => Sm (op s x y) fun k => Bo k (W (c ρ s) fun z s => Sm (op' s y z) fun w => Q w s) (Q (.bl false) s) := by
  unfold eCh
  rw [W_b]
  refine W_iff fun x s => W_b.trans (W_iff fun y s => ?_)
  cases e : op s x y with
  | none => simp
  | some k => cases k with
    | bl q =>
      cases q
      · simp
      · simp only [W_b, Sm_some, Bo_t]
        exact W_iff fun z s => W_of
    | _ => exact ⟨fun h => by simp at h, fun h => by obtain ⟨k, hk, h⟩ := h; cases hk; rcases h with ⟨h, _⟩ | ⟨h, _⟩ <;> cases h⟩
@[simp] theorem W_eAnd : W (eAnd a b ρ s) Q ↔ W (a ρ s) fun x s => Bo x (W (b ρ s) Q) (Q (.bl false) s) := by
  unfold eAnd
  simp only [W_b]
  constructor <;> refine fun h => h.mono fun x s h => ?_
  · revert h; split <;> simp
  · rcases h with ⟨rfl, h⟩ | ⟨rfl, h⟩ <;> simpa using h
@[simp] theorem W_eOr : W (eOr a b ρ s) Q ↔ W (a ρ s) fun x s => Bo x (Q (.bl true) s) (W (b ρ s) Q) := by
  unfold eOr
  simp only [W_b]
  constructor <;> refine fun h => h.mono fun x s h => ?_
  · revert h; split <;> simp
  · rcases h with ⟨rfl, h⟩ | ⟨rfl, h⟩ <;> simpa using h
@[simp] theorem W_eNot : W (eNot t ρ s) Q ↔ W (t ρ s) fun k s => Q (.bl (!k)) s := by unfold eNot; rw [W_b]; exact W_iff fun _ _ => W_ok
@[simp] theorem W_eIf : W (eIf t a b ρ s) Q ↔ W (t ρ s) fun k s => If k (W (a ρ s) Q) (W (b ρ s) Q) := by
  simp only [eIf, W_b]
  constructor <;> refine fun h => h.mono fun k s h => ?_ <;> cases k <;> simpa using h
@[simp] theorem W_tVal : W (tVal a ρ s) P ↔ W (a ρ s) fun x s => Bl x fun k => P k s := by
  simp only [tVal, W_b]
  constructor <;> refine fun h => h.mono fun x s h => ?_
  · revert h; split <;> simp
  · obtain ⟨k, rfl, h⟩ := h; simpa using h
@[simp] theorem W_tTru : W (tTru a ρ s) P ↔ W (a ρ s) fun x s => Sm (truD s x) fun k => P k s := by unfold tTru; rw [W_b]; exact W_iff fun x s => W_of
@[simp] theorem W_tAnd : W (tAnd t u ρ s) P ↔ W (t ρ s) fun k s => If k (W (u ρ s) P) (P false s) := by
  simp only [tAnd, W_b]
  constructor <;> refine fun h => h.mono fun k s h => ?_ <;> cases k <;> simpa using h
@[simp] theorem W_tOr : W (tOr t u ρ s) P ↔ W (t ρ s) fun k s => If k (P true s) (W (u ρ s) P) := by
  simp only [tOr, W_b]
  constructor <;> refine fun h => h.mono fun k s h => ?_ <;> cases k <;> simpa using h
@[simp] theorem W_tNot : W (tNot t ρ s) P ↔ W (t ρ s) fun k s => P (!k) s := by unfold tNot; rw [W_b]; exact W_iff fun _ _ => W_ok
@[simp] theorem W_tYes : W (tYes ρ s) P ↔ P true s := by simp [tYes]
variable {x : Ax} {o o' : Ox}
@[simp] theorem W_aNil : W (aNil ρ s) L ↔ L [] s := by simp [aNil]
@[simp] theorem W_aCons : W (aCons a x ρ s) L ↔ W (a ρ s) fun d s => W (x ρ s) fun ds s => L (d :: ds) s := by unfold aCons; rw [W_b]; exact W_iff fun d s => W_b.trans (W_iff fun ds s => W_ok)
@[simp] theorem W_aStar : W (aStar a x ρ s) L ↔ W (a ρ s) fun d s => Sm (lstOf d) fun ys => W (x ρ s) fun ds s => L (ys ++ ds) s := by
  unfold aStar
  rw [W_b]
  refine W_iff fun d s => ?_
  cases e : lstOf d with
  | none => simp
  | some ys =>
    simp only [Sm_some]
    exact W_b.trans (W_iff fun _ _ => W_ok)
@[simp] theorem W_eTup : W (eTup x ρ s) Q ↔ W (x ρ s) fun xs s => An (xs.length ≤ sizeLine) (Q (.tup xs) s) := by
  simp only [eTup, W_b]
  constructor <;> refine fun h => h.mono fun d s h => ?_
  · revert h; split <;> simp_all
  · rw [if_pos h.1]; simpa using h.2
@[simp] theorem W_eLst : W (eLst x ρ s) Q ↔ W (x ρ s) fun xs s => An (xs.length ≤ sizeLine) (Q (.lst xs) s) := by
  simp only [eLst, W_b]
  constructor <;> refine fun h => h.mono fun d s h => ?_
  · revert h; split <;> simp_all
  · rw [if_pos h.1]; simpa using h.2
@[simp] theorem W_eLstC : W (eLstC x ρ s) Q ↔ W (x ρ s) fun xs s => An (xs.length ≤ sizeLine ∧ D.bels 0 xs = true) (Q (.cell s.length) (s ++ [.lst xs])) := by
  simp only [eLstC, W_b]
  constructor <;> refine fun h => h.mono fun d s h => ?_
  · revert h; split <;> simp_all
  · rw [if_pos h.1]; simpa using h.2
@[simp] theorem W_eDicC : W (eDicC ρ s) Q ↔ Q (.cell s.length) (s ++ [.dic [] []]) := by simp [eDicC]
@[simp] theorem W_oNo : W (oNo ρ s) O ↔ O none s := by simp [oNo]
@[simp] theorem W_oAt : W (oAt a ρ s) O ↔ W (a ρ s) fun y s => In y fun i => O (some i) s := by
  simp only [oAt, W_b]
  constructor <;> refine fun h => h.mono fun d s h => ?_
  · revert h; split <;> simp_all
  · obtain ⟨i, rfl, h⟩ := h; simpa using h
@[simp] theorem W_eSl : W (eSl a o o' ρ s) Q ↔ W (a ρ s) fun x s => W (o ρ s) fun l s => W (o' ρ s) fun h s => Sm (slD s x l h) fun z => Q z s := by unfold eSl; rw [W_b]; exact W_iff fun x s => W_b.trans (W_iff fun l s => W_b.trans (W_iff fun h s => W_of))
@[simp] theorem W_eCall {φ : Fn} : W (eCall φ x ρ s) Q ↔ W (x ρ s) fun ds s => W (φ ds s) Q := by unfold eCall; rw [W_b]
@[simp] theorem W_eCallD {φ : Fn} {dd : List D} : W (eCallD dd φ x ρ s) Q ↔ W (x ρ s) fun ds s => W (φ (ds ++ dd) s) Q := by unfold eCallD; rw [W_b]
@[simp] theorem W_eMeth {c : Nat} {φ : Fn} : W (eMeth c φ a x ρ s) Q ↔ W (a ρ s) fun d s => An (clsOf s d = some c) (W (x ρ s) fun ds s => W (φ (d :: ds) s) Q) := by
  simp only [eMeth, W_b]
  constructor <;> refine fun h => h.mono fun d s h => ?_
  · revert h; split <;> simp_all
  · rw [if_pos h.1]; simpa using h.2
@[simp] theorem W_eProp {c : Nat} {φ : Fn} : W (eProp c φ a ρ s) Q ↔ W (a ρ s) fun d s => An (clsOf s d = some c) (W (φ [d] s) Q) := by
  simp only [eProp, W_b]
  constructor <;> refine fun h => h.mono fun d s h => ?_
  · revert h; split <;> simp_all
  · rw [if_pos h.1]; exact h.2
@[simp] theorem W_eLenO {c : Nat} {φ : Fn} : W (eLenO c φ a ρ s) Q ↔ W (a ρ s) fun d s => An (clsOf s d = some c) (W (φ [d] s) fun y s => In y fun n => An (0 ≤ n ∧ n < 2 ^ 63) (Q (.int n) s)) := by
  simp only [eLenO, W_b]
  constructor <;> refine fun h => h.mono fun d s h => ?_
  · revert h
    split
    · rename_i hc
      simp only [W_b]
      refine fun h => ⟨hc, h.mono fun y s h => ?_⟩
      revert h
      split
      · split <;> simp_all
      · simp
    · simp
  · rw [if_pos h.1]
    simp only [W_b]
    refine h.2.mono fun y s h => ?_
    obtain ⟨n, rfl, h1, h2⟩ := h
    simp only [if_pos h1, W_ok]
    exact h2
theorem W_eAlt1 {f f' : Ex} (h : W (f ρ s) Q) : W (eAlt f f' ρ s) Q := by
  obtain ⟨a, s', e, q⟩ := h
  unfold eAlt
  rw [e]
  exact ⟨a, s', rfl, q⟩
theorem W_eAlt2 {f f' : Ex} (h0 : f ρ s = .fail) (h : W (f' ρ s) Q) : W (eAlt f f' ρ s) Q := by
  unfold eAlt
  rw [h0]
  exact h
variable {I J : Ix} {B B' : Sx} {g : Tg}
@[simp] theorem W_iLst : W (iLst a ρ s) L ↔ W (a ρ s) fun x s => Sm (lstOf x) fun xs => L xs s := by unfold iLst; rw [W_b]; exact W_iff fun x s => W_of
@[simp] theorem W_iRng : W (iRng a ρ s) L ↔ W (a ρ s) fun x s => In x fun n => An (-(2 ^ 62) ≤ n ∧ n ≤ (sizeLine : Int)) (L (rangeD 0 n) s) := by
  simp only [iRng, W_b]
  constructor <;> refine fun h => h.mono fun d s h => ?_
  · revert h
    split
    · split <;> simp_all
    · simp
  · obtain ⟨n, rfl, h1, h2⟩ := h
    simp only [if_pos h1, W_ok]
    exact h2
@[simp] theorem W_iRng2 : W (iRng2 a b ρ s) L ↔ W (a ρ s) fun x s => W (b ρ s) fun y s => In x fun m => In y fun n => An (0 ≤ m ∧ m ≤ (sizeLine : Int) ∧ -(2 ^ 62) ≤ n ∧ n ≤ (sizeLine : Int)) (L (rangeD m n) s) := by
  unfold iRng2
  rw [W_b]
  refine W_iff fun x s => W_b.trans (W_iff fun y s => ?_)
  constructor
  · split
    · split
      · rename_i m n hc
        intro h
        exact ⟨m, rfl, n, rfl, hc, W_ok.mp h⟩
      · intro h; exact (W_fail.mp h).elim
    · intro h; exact (W_fail.mp h).elim
  · rintro ⟨m, rfl, n, rfl, h1, h2⟩
    simp only [if_pos h1, W_ok]
    exact h2
@[simp] theorem W_sNil : W (sNil ρ s) U ↔ U (.nx ρ) s := by simp [sNil]
@[simp] theorem W_sSeq : W (CL.sSeq B B' ρ s) U ↔ W (B ρ s) fun f s => Nx f (fun ρ' => W (B' ρ' s) U) (U f s) := by
  simp only [CL.sSeq, W_b]
  constructor <;> refine fun h => h.mono fun f s h => ?_ <;> cases f <;> simpa using h
@[simp] theorem W_sSet : W (sSet g a ρ s) U ↔ W (a ρ s) fun d s => Sm (g.set d ρ) fun ρ' => U (.nx ρ') s := by
  simp only [sSet, W_b]
  constructor <;> refine fun h => h.mono fun d s h => ?_
  · revert h; split <;> simp_all
  · obtain ⟨ρ', e, h⟩ := h; rw [e]; simpa using h
@[simp] theorem W_sExpr : W (sExpr a ρ s) U ↔ W (a ρ s) fun _ s => U (.nx ρ) s := by unfold sExpr; rw [W_b]; exact W_iff fun _ _ => W_ok
@[simp] theorem W_sRet : W (sRet a ρ s) U ↔ W (a ρ s) fun d s => U (.ret d) s := by unfold sRet; rw [W_b]; exact W_iff fun _ _ => W_ok
@[simp] theorem W_sIf : W (sIf t B B' ρ s) U ↔ W (t ρ s) fun k s => If k (W (B ρ s) U) (W (B' ρ s) U) := by
  simp only [sIf, W_b]
  constructor <;> refine fun h => h.mono fun k s h => ?_ <;> cases k <;> simpa using h
@[simp] theorem W_sNo : W (sNo ρ s) U ↔ False := by simp [sNo]
@[simp] theorem W_sFor : W (sFor I g B ρ s) U ↔ W (I ρ s) fun xs s => W (forF g.set B xs ρ s) U := by unfold sFor; rw [W_b]
@[simp] theorem W_eLc {own : List Nat} : W (eLc own I g t a ρ s) Q ↔ W (I ρ s) fun xs s => W (compF g.set t a (wipeE ρ own) xs s) fun ys s => Q (.lst ys) s := by unfold eLc; rw [W_b]; exact W_iff fun _ _ => W_b.trans (W_iff fun _ _ => W_ok)
@[simp] theorem Tg_name {i : Nat} {d : D} : Tg.set (.name i) d ρ = some (put ρ i d) := by unfold put; rfl
@[simp] theorem Tg_tup0 {d : List D} {is : List Nat} : Tg.set (.tup is) (.tup d) ρ = setAll is d ρ := rfl
@[simp] theorem setAll_nil : setAll [] [] ρ = some ρ := rfl
@[simp] theorem setAll_cons {i : Nat} {is : List Nat} {d : D} {ds : List D} : setAll (i :: is) (d :: ds) ρ = setAll is ds (put ρ i d) := by unfold put; rfl
theorem W_runB {n all : Nat} {ds : List D} : W (runB n all B ds s) Q ↔ ds.length = n ∧ W (B (ds.map some ++ List.replicate (all - n) none) s) fun f s' => match f with
    | .ret d => (cutOk s.length s s' && d.bel s.length) = true ∧ Q d (s'.take s.length)
    | .nx _ => cutOk s.length s s' = true ∧ Q .non (s'.take s.length)
    | _ => False := by
  unfold runB
  split
  · rename_i hl
    cases e : B (ds.map some ++ List.replicate (all - n) none) s with
    | fail => simp
    | ok f s' =>
      cases f <;> simp only [W_ok, hl, true_and, W_fail]
      all_goals split <;> simp_all
    | exc x s' =>
      simp only [W_exc, and_false, iff_false]
      split <;> simp
  · simp_all
theorem W_runC {n all : Nat} {ds : List D} : W (runC n all B ds s) Q ↔ ds.length = n ∧ W (B (ds.map some ++ List.replicate (all - n) none) s) fun f s' => match f with
    | .ret d => Q d s'
    | _ => False := by
  unfold runC
  split
  · rename_i hl
    cases e : B (ds.map some ++ List.replicate (all - n) none) s with
    | fail => simp
    | ok f s' => cases f <;> simp [hl]
    | exc x s' => simp
  · simp_all
/-- nothing in the cells leans on another cell -/
def Clo (s : S) : Prop := ∀ c ∈ s, ∀ n, Ct.bel n c = true
theorem Clo.cut {s s' : S} (h : Clo s') (hl : s.length ≤ s'.length) : cutOk s.length s s' = true := by
  unfold cutOk
  simp only [Bool.and_eq_true, decide_eq_true_eq, Bool.or_eq_true, List.all_eq_true]
  exact ⟨hl, .inr fun c hc => h c (List.mem_of_mem_take hc) _⟩
theorem cut_self {s : S} {t : S} : cutOk s.length s (s ++ t) = true := by
  unfold cutOk
  simp
theorem cut_self0 {s : S} : cutOk s.length s s = true := by simpa using cut_self (s := s) (t := [])
end
end CL.CP
end
section
set_option Elab.async false
set_option linter.all false
/-! P2: cells, loops, comprehensions; what operations give on plain data. -/
namespace CL.CP
open PySem
def Ls (c : Ct) (P : List D → Prop) (_qP : Kp P := ()) : Prop := ∃ xs, c = .lst xs ∧ P xs
@[simp] theorem Ls_lst {xs : List D} {P : List D → Prop} : Ls (.lst xs) P ↔ P xs := by simp [Ls]
/-- what a cell is worth once it is not written any more -/
def Ct.d : Ct → Option D
  | .dead => none
  | .lst xs => some (.lst xs)
  | .dic ks vs => some (.dic ks vs)
  | .obj c ks vs => some (.obj c ks vs)
section
variable {Q : D → S → Prop} {P : Bool → S → Prop} {L : List D → S → Prop} {U : Fl → S → Prop} {ρ : Env} {s : S} {a b c : Ex} {t u : Tx}
@[simp] theorem W_sApp : W (sApp a b ρ s) U ↔ W (a ρ s) fun x s => An (isL s x = true) (W (b ρ s) fun y s => Ce x fun k => Sm s[k]? fun c => Ls c fun xs => An (xs.length < sizeLine ∧ D.bel 0 y = true) (U (.nx ρ) (s.set k (.lst (xs ++ [y]))))) := by
  simp only [sApp, W_b]
  constructor <;> refine fun h => h.mono fun x s h => ?_
  · revert h
    split
    · rename_i hi
      simp only [W_b]
      refine fun h => ⟨hi, h.mono fun y s h => ?_⟩
      revert h
      split
      · split
        · split
          · rename_i k _ xs e hc
            simp only [W_ok]
            exact fun h => ⟨k, rfl, _, e, xs, rfl, hc, h⟩
          · simp
        · simp
      · simp
    · simp
  · rw [if_pos h.1, W_b]
    refine h.2.mono fun y s h => ?_
    obtain ⟨k, rfl, _, e, xs, rfl, hc, h⟩ := h
    simp only [e, if_pos hc, W_ok]
    exact h
@[simp] theorem W_sSubL : W (sSubL a b c ρ s) U ↔ W (c ρ s) fun y s => W (a ρ s) fun x s => W (b ρ s) fun z s => Ce x fun k => Sm s[k]? fun c => Ls c fun xs => In z fun n => Sm (L2.ixN xs.length n) fun j => An (D.bel 0 y = true) (U (.nx ρ) (s.set k (.lst (xs.set j y)))) := by
  unfold sSubL
  rw [W_b]
  refine W_iff fun y s => W_b.trans (W_iff fun x s => W_b.trans (W_iff fun z s => ?_))
  constructor
  · intro h
    revert h
    split
    · split
      · split
        · split
          · split
            · rename_i k _ xs e _ n _ j ej hb
              intro h
              exact ⟨k, rfl, _, e, xs, rfl, n, rfl, j, ej, hb, W_ok.mp h⟩
            · intro h; exact (W_fail.mp h).elim
          · intro h; exact (W_fail.mp h).elim
        · intro h; exact (W_fail.mp h).elim
      · intro h; exact (W_fail.mp h).elim
    · intro h; exact (W_fail.mp h).elim
  · rintro ⟨k, rfl, _, e, xs, rfl, n, rfl, j, ej, hb, h⟩
    simp only [e, ej, if_pos hb, W_ok]
    exact h
@[simp] theorem W_eFrz : W (eFrz a ρ s) Q ↔ W (a ρ s) fun x s => Ce x fun k => Sm s[k]? fun c => Sm (Ct.d c) fun d => Q d (s.set k .dead) := by
  simp only [eFrz, W_b]
  constructor <;> refine fun h => h.mono fun x s h => ?_
  · revert h
    split
    · rename_i k
      split
      · rename_i xs e
        simp only [W_ok]
        exact fun h => ⟨k, rfl, _, e, _, rfl, h⟩
      · rename_i ks vs e
        simp only [W_ok]
        exact fun h => ⟨k, rfl, _, e, _, rfl, h⟩
      · rename_i c ks vs e
        simp only [W_ok]
        exact fun h => ⟨k, rfl, _, e, _, rfl, h⟩
      · simp
    · simp
  · obtain ⟨k, rfl, c, e, d, e2, h⟩ := h
    cases c <;> simp [Ct.d] at e2 <;> subst e2 <;> simpa only [e, W_ok] using h
@[simp] theorem W_sFrz {i : Nat} : W (sFrz i ρ s) U ↔ Sm (look ρ i) fun d => Ce d fun k => Sm s[k]? fun c => Sm (Ct.d c) fun d => U (.nx (put ρ i d)) (s.set k .dead) := by
  unfold sFrz
  rw [W_sSet, W_eFrz, W_eVar]
  constructor
  · rintro ⟨d, h1, k, h2, c, h3, d', h4, ρ', h5, h⟩
    rw [Tg_name] at h5
    cases h5
    exact ⟨d, h1, k, h2, c, h3, d', h4, h⟩
  · rintro ⟨d, h1, k, h2, c, h3, d', h4, h⟩
    exact ⟨d, h1, k, h2, c, h3, d', h4, _, Tg_name, h⟩
theorem W_eLend {i : Nat} {φ : Fn} {x : Ax} (h : W (x ρ s) fun ds s => ∃ k xs, ds[i]? = some (.cell k) ∧ s[k]? = some (.lst xs) ∧ ∃ d, φ (ds.set i (.lst xs)) (s.map fun _ => Ct.dead) = .ok d (s.map fun _ => Ct.dead) ∧ d.pure = true ∧ Q d s) : W (eLend i φ x ρ s) Q := by
  simp only [eLend, W_b]
  refine h.mono fun ds s h => ?_
  obtain ⟨k, xs, e1, e2, d, e3, hp, q⟩ := h
  simp only [e1, e2, e3]
  simpa [hp] using q
/-! loops -/
theorem W_forF {g : D → Env → Option Env} {B : Sx} (I : List D → Env → S → Prop)
    (step : ∀ x r ρ s, I (x :: r) ρ s → ∃ ρ1, g x ρ = some ρ1 ∧ W (B ρ1 s) fun f s' => match f with
      | .nx ρ2 => I r ρ2 s'
      | .ct ρ2 => I r ρ2 s'
      | .bk ρ2 => U (.nx ρ2) s'
      | .ret d => U (.ret d) s')
    (fin : ∀ ρ s, I [] ρ s → U (.nx ρ) s) : ∀ (xs : List D) (ρ : Env) (s : S), I xs ρ s → W (forF g B xs ρ s) U
  | [], ρ, s, h => by simpa [forF] using fin ρ s h
  | x :: r, ρ, s, h => by
    obtain ⟨ρ1, e, hw⟩ := step x r ρ s h
    simp only [forF, e, W_b]
    refine hw.mono fun f s' h' => ?_
    cases f with
    | nx ρ2 => exact W_forF I step fin r ρ2 s' h'
    | ct ρ2 => exact W_forF I step fin r ρ2 s' h'
    | bk ρ2 => simpa using h'
    | ret d => simpa using h'
/-- a comprehension that changes nothing -/
theorem compF_map {α : Type} {g : D → Env → Option Env} (enc : α → D) (f : α → D) (p : α → Bool) : ∀ (xs : List α),
    (∀ x ∈ xs, ∃ ρ1, g (enc x) ρ = some ρ1 ∧ W (t ρ1 s) (fun k s' => k = p x ∧ s' = s) ∧ (p x = true → W (a ρ1 s) fun d s' => d = f x ∧ s' = s)) →
    W (compF g t a ρ (xs.map enc) s) fun ys s' => ys = (xs.filter p).map f ∧ s' = s
  | [], _ => W_ok.mpr ⟨rfl, rfl⟩
  | x :: r, h => by
    obtain ⟨ρ1, e, ht, he⟩ := h x (List.mem_cons_self ..)
    have ih := compF_map enc f p r fun y hy => h y (List.mem_cons_of_mem _ hy)
    simp only [List.map_cons, compF, e, W_b, W_nx]
    refine ht.mono fun k s' hk => ?_
    obtain ⟨rfl, rfl⟩ := hk
    cases hp : p x with
    | false =>
      rw [List.filter_cons_of_neg (by simp [hp])]
      exact ih
    | true =>
      simp only [if_true, W_b, W_nx]
      refine (he hp).mono fun d s' hd => ?_
      obtain ⟨rfl, rfl⟩ := hd
      refine W_b.mpr (ih.mono fun ys s' hy => ?_)
      obtain ⟨rfl, rfl⟩ := hy
      rw [List.filter_cons_of_pos hp]
      exact W_ok.mpr ⟨rfl, rfl⟩
/-- .. that changes the state on its way -/
theorem W_compF {g : D → Env → Option Env} (I : List D → List D → S → Prop)
    (step : ∀ x r ys s, I (x :: r) ys s → ∃ ρ1, g x ρ = some ρ1 ∧ W (t ρ1 s) fun k s => if k = true then W (a ρ1 s) fun y s => I r (ys ++ [y]) s else I r ys s)
    : ∀ (xs ys : List D) (s : S), I xs ys s → W (compF g t a ρ xs s) fun zs s' => I [] (ys ++ zs) s'
  | [], ys, s, h => by simpa [compF] using h
  | x :: r, ys, s, h => by
    obtain ⟨ρ1, e, ht⟩ := step x r ys s h
    simp only [compF, e, W_b, W_nx]
    refine ht.mono fun k s' hk => ?_
    cases k with
    | false => exact W_compF I step r ys s' (by simpa using hk)
    | true =>
      simp only [if_true] at hk
      simp only [if_true, W_b, W_nx]
      refine hk.mono fun y s'' hy => ?_
      refine W_b.mpr ((W_compF I step r (ys ++ [y]) s'' hy).mono fun zs s3 hz => W_ok.mpr ?_)
      simpa [List.append_assoc] using hz
end
/-! operations -/
section
variable {s : S} {i j n : Int} {p q : Bool} {xs ys : List D} {d : D}
@[simp] theorem o_add : addD s (.int i) (.int j) = some (.int (i + j)) := rfl
@[simp] theorem o_sub : subD s (.int i) (.int j) = some (.int (i - j)) := rfl
@[simp] theorem o_neg : negD s (.int i) = some (.int (-i)) := rfl
@[simp] theorem o_int1 : int1D s (.int i) = some (.int i) := rfl
@[simp] theorem o_int1b : int1D s (.bl p) = some (.int (if p then 1 else 0)) := rfl
@[simp] theorem o_abs : abs1D s (.int i) = some (.int (if i < 0 then -i else i)) := rfl
@[simp] theorem o_lt : ltD s (.int i) (.int j) = some (.bl (decide (i < j))) := rfl
@[simp] theorem o_le : leD s (.int i) (.int j) = some (.bl (decide (i ≤ j))) := rfl
@[simp] theorem o_gt : gtD s (.int i) (.int j) = some (.bl (decide (j < i))) := rfl
@[simp] theorem o_ge : geD s (.int i) (.int j) = some (.bl (decide (j ≤ i))) := rfl
@[simp] theorem o_min : min2D s (.int i) (.int j) = some (.int (if j < i then j else i)) := rfl
@[simp] theorem o_eq : eqD s (.int i) (.int j) = some (.bl (decide (i = j))) := by simp [eqD, eqB, scalD]
@[simp] theorem o_ne : neD s (.int i) (.int j) = some (.bl (!decide (i = j))) := by simp [neD, eqB, scalD]
@[simp] theorem o_eqs {x y : Str} : eqD s (.str x) (.str y) = some (.bl (decide (x = y))) := by simp [eqD, eqB, scalD]
@[simp] theorem o_is : isD s d .non = some (.bl (decide (d = .non))) := by simp [isD]
@[simp] theorem o_isn : isnD s d .non = some (.bl (!decide (d = .non))) := by simp [isnD]
theorem o_mod (h : 0 < j) : modD s (.int i) (.int j) = some (.int (i % j)) := by simp [modD, h]
theorem o_fdiv (h : 0 < j) (h' : j < 1073741824) : fdivD s (.int i) (.int j) = some (.int (i / j)) := by simp [fdivD, h, h']
theorem o_mulr (h : -(2 ^ 64) < j ∧ j < 2 ^ 64) : mulD s (.int i) (.int j) = some (.int (i * j)) := by simp only [mulD]; rw [if_pos (.inr h)]
theorem o_mull (h : -(2 ^ 64) < i ∧ i < 2 ^ 64) : mulD s (.int i) (.int j) = some (.int (i * j)) := by simp only [mulD]; rw [if_pos (.inl h)]
@[simp] theorem t_bl : truD s (.bl p) = some p := rfl
@[simp] theorem t_int : truD s (.int i) = some (i != 0) := rfl
@[simp] theorem t_tup : truD s (.tup xs) = some (!xs.isEmpty) := rfl
@[simp] theorem t_lst : truD s (.lst xs) = some (!xs.isEmpty) := rfl
@[simp] theorem t_non : truD s .non = some false := rfl
@[simp] theorem l_tup : lstOf (.tup xs) = some xs := rfl
@[simp] theorem l_lst : lstOf (.lst xs) = some xs := rfl
@[simp] theorem o_ixt : ixD s (.tup xs) (.int n) = L2.atI xs n := rfl
@[simp] theorem o_ixl : ixD s (.lst xs) (.int n) = L2.atI xs n := rfl
theorem o_ixc {k : Nat} (h : s[k]? = some (.lst xs)) : ixD s (.cell k) (.int n) = L2.atI xs n := by simp [ixD, seqOf, h]
@[simp] theorem o_lent : lenD s (.tup xs) = some (.int xs.length) := rfl
@[simp] theorem o_lenl : lenD s (.lst xs) = some (.int xs.length) := rfl
theorem o_lenc {k : Nat} (h : s[k]? = some (.lst xs)) : lenD s (.cell k) = some (.int xs.length) := by simp [lenD, seqOf, h]
@[simp] theorem o_tupt : tupleD s (.tup xs) = some (.tup xs) := rfl
@[simp] theorem o_tupl : tupleD s (.lst xs) = some (.tup xs) := rfl
@[simp] theorem o_list : listD s (.tup xs) = some (.lst xs) := rfl
@[simp] theorem o_lstl : listD s (.lst xs) = some (.lst xs) := rfl
end
/-- what is asked behind a def's run -/
def Post (s : S) (Q : D → S → Prop) : Fl → S → Prop
  | .ret d, s' => (cutOk s.length s s' && d.bel s.length) = true ∧ Q d (s'.take s.length)
  | .nx _, s' => cutOk s.length s s' = true ∧ Q .non (s'.take s.length)
  | _, _ => False
theorem runB_of {n all : Nat} {B : Sx} {ds : List D} {s : S} {Q : D → S → Prop} (hl : ds.length = n) (h : W (B (envOf ds (all - n)) s) (Post s Q)) : W (runB n all B ds s) Q := by
  unfold envOf at h
  rw [W_runB]
  refine ⟨hl, h.mono fun f s' h => ?_⟩
  cases f <;> exact h
/-- back in the state of the entry -/
theorem Post_ret0 {s : S} {Q : D → S → Prop} {d : D} (hb : d.bel s.length = true) (q : Q d s) : Post s Q (.ret d) s := by
  refine ⟨?_, ?_⟩
  · rw [hb, cut_self0]; rfl
  · simpa using q
theorem Post_nx0 {s : S} {Q : D → S → Prop} {ρ : Env} (q : Q .non s) : Post s Q (.nx ρ) s := by
  refine ⟨cut_self0, ?_⟩
  simpa using q
/-- cells made on the way fall away -/
theorem Post_retA {s t : S} {Q : D → S → Prop} {d : D} (hb : d.bel s.length = true) (q : Q d s) : Post s Q (.ret d) (s ++ t) := by
  refine ⟨?_, ?_⟩
  · rw [hb, cut_self]; rfl
  · simpa using q
/-- a state with other cells in it -/
theorem Post_retC {s s' : S} {Q : D → S → Prop} {d : D} (hb : d.bel s.length = true) (hc : Clo s') (hl : s.length ≤ s'.length) (q : Q d (s'.take s.length)) : Post s Q (.ret d) s' := by
  refine ⟨?_, q⟩
  rw [hb, hc.cut hl]; rfl
theorem set_new {α : Type} (r : List α) (c d : α) : (r ++ [c]).set r.length d = r ++ [d] := by
  induction r with
  | nil => rfl
  | cons a r ih => simp [ih]
theorem take_new {α : Type} (r : List α) (c : List α) : (r ++ c).take r.length = r := by simp
end CL.CP
end
section
set_option Elab.async false
set_option linter.all false
/-! P3: the hand: what `take` gives. -/
namespace K63.P
open PySem CL CL.CP
/-- a hand -/
structure Hd where
  a : Int
  b : Int
  c : Int
  d : Int
def Hd.ct (h : Hd) : Ct := .lst [.int h.a, .int h.b, .int h.c, .int h.d]
@[simp] theorem Hd.bel (h : Hd) (n : Nat) : Ct.bel n h.ct = true := by simp [Hd.ct, Ct.bel, D.bels, D.bel]
theorem clo_nil : Clo [] := fun _ h => by cases h
@[simp] theorem clo_cons {c : Ct} {s : S} : Clo (c :: s) ↔ (∀ n, Ct.bel n c = true) ∧ Clo s := by
  constructor
  · exact fun h => ⟨h c (List.mem_cons_self ..), fun x hx => h x (List.mem_cons_of_mem _ hx)⟩
  · rintro ⟨h, h'⟩ x hx n
    rcases List.mem_cons.mp hx with rfl | hx
    · exact h n
    · exact h' x hx n
@[simp] theorem clo_nil' : Clo [] ↔ True := ⟨fun _ => trivial, fun _ => clo_nil⟩
@[simp] theorem clo_app {s t : S} : Clo (s ++ t) ↔ Clo s ∧ Clo t := by
  unfold Clo
  simp only [List.mem_append]
  exact ⟨fun h => ⟨fun c hc => h c (.inl hc), fun c hc => h c (.inr hc)⟩, fun h c hc => hc.elim (h.1 c) (h.2 c)⟩
theorem get_mid {α : Type} (l r : List α) (c : α) : (l ++ c :: r)[l.length]? = some c := by simp
theorem set_mid {α : Type} (l r : List α) (c d : α) : (l ++ c :: r).set l.length d = l ++ d :: r := by
  induction l with
  | nil => rfl
  | cons a l ih => simp [ih]
theorem cut_clo {s s' : S} (h : Clo s') (hl : s.length = s'.length) {d : D} (hd : d.bel s.length = true) : (cutOk s.length s s' && d.bel s.length) = true := by rw [h.cut (by omega), hd]; rfl
theorem take_mid (l r : S) (h : Hd) {m : Int} (hc : Clo (l ++ h.ct :: r)) (h1 : 1 ≤ m) (h2 : m < 1073741824) :
    W (F_law_take [.cell l.length, .int m] (l ++ h.ct :: r)) fun d s' => ∃ n h', d = .int n ∧ 0 ≤ n ∧ n < m ∧ s' = l ++ Hd.ct h' :: r := by
  have m0 : 0 < m := by omega
  refine runB_of rfl ?_
  have ix : ∀ (xs : List D) (n : Int), ixD (l ++ Ct.lst xs :: r) (.cell l.length) (.int n) = L2.atI xs n := fun xs n => o_ixc (get_mid ..)
  have a0 : ∀ a b c d : Int, L2.atI [D.int a, .int b, .int c, .int d] 0 = some (.int a) := fun _ _ _ _ => rfl
  have a1 : ∀ a b c d : Int, L2.atI [D.int a, .int b, .int c, .int d] 1 = some (.int b) := fun _ _ _ _ => rfl
  have a2 : ∀ a b c d : Int, L2.atI [D.int a, .int b, .int c, .int d] 2 = some (.int c) := fun _ _ _ _ => rfl
  have a3 : ∀ a b c d : Int, L2.atI [D.int a, .int b, .int c, .int d] 3 = some (.int d) := fun _ _ _ _ => rfl
  have cl : ∀ h : Hd, Clo (l ++ h.ct :: r) := fun h => by simpa using ⟨(clo_app.mp hc).1, (clo_cons.mp (clo_app.mp hc).2).2⟩
  have sz : ∀ (s : S) (x : Int), mulD s (.int (x % 2147483647)) (.int (x % 2147483647)) = some (.int (x % 2147483647 * (x % 2147483647))) := fun s x => o_mull ⟨by omega, by omega⟩
  have sz2 : ∀ (s : S) (x : Int), mulD s (.int (x % 2147483399)) (.int (x % 2147483399)) = some (.int (x % 2147483399 * (x % 2147483399))) := fun s x => o_mull ⟨by omega, by omega⟩
  have fin : ∀ (n : Int) (h' : Hd), Post (l ++ h.ct :: r) (fun d s' => ∃ n h', d = .int n ∧ 0 ≤ n ∧ n < m ∧ s' = l ++ Hd.ct h' :: r) (.ret (.int (n % m))) (l ++ h'.ct :: r) := fun n h' =>
    Post_retC rfl (cl h') (by simp) ⟨n % m, h', rfl, Int.emod_nonneg _ (by omega), Int.emod_lt_of_pos _ m0, List.take_of_length_le (by simp)⟩
  revert fin
  generalize Post (l ++ h.ct :: r) (fun d s' => ∃ n h', d = .int n ∧ 0 ≤ n ∧ n < m ∧ s' = l ++ Hd.ct h' :: r) = U
  obtain ⟨a, b, c, d⟩ := h
  intro fin
  have i0 : L2.ixN 4 0 = some 0 := rfl
  have i2 : L2.ixN 4 2 = some 2 := rfl
  by_cases hb : b = 1 ∧ 0 < a
  · simp [Hd.ct, ix, a0, a1, hb, o_mod m0, o_fdiv m0 h2, i0, i2, get_mid, set_mid, D.bel]
    exact fin a ⟨_, _, _, _⟩
  · have hb' : b = 1 → ¬ 0 < a := fun p q => hb ⟨p, q⟩
    by_cases h1 : b = 1
    · have h0 := hb' h1
      simp [Hd.ct, ix, a0, a1, a2, a3, h1, h0, o_mod m0, o_mod, o_fdiv, i0, i2, get_mid, set_mid, D.bel, o_mulr, o_mull, sz, sz2]
      exact fin _ ⟨_, _, _, _⟩
    · simp [Hd.ct, ix, a0, a1, a2, a3, h1, o_mod m0, o_mod, o_fdiv, i0, i2, get_mid, set_mid, D.bel, o_mulr, o_mull, sz, sz2]
      exact fin _ ⟨_, _, _, _⟩
end K63.P
end
section
set_option Elab.async false
set_option linter.all false
/-! P4: loops over a range; the streams and phases that a hand draws. -/
namespace CL.CP
open PySem
section
variable {Q : D → S → Prop} {P : Bool → S → Prop} {L : List D → S → Prop} {U : Fl → S → Prop} {ρ : List (Option D)} {s : S} {a b c : Ex} {t u : Tx}
theorem rangeD_nil {lo hi : Int} (h : hi ≤ lo) : rangeD lo hi = [] := by
  unfold rangeD
  rw [show (hi - lo).toNat = 0 by omega]
  rfl
theorem rangeD_cons {lo hi : Int} (h : lo < hi) : rangeD lo hi = .int lo :: rangeD (lo + 1) hi := by
  unfold rangeD
  obtain ⟨n, e⟩ : ∃ n, (hi - lo).toNat = n + 1 := ⟨(hi - lo).toNat - 1, by omega⟩
  rw [e, show (hi - (lo + 1)).toNat = n by omega, List.range_succ_eq_map]
  simp only [List.map_cons, List.map_map, List.cons.injEq]
  refine ⟨by simp, List.map_congr_left fun i _ => ?_⟩
  simp only [Function.comp, D.int.injEq]
  omega
theorem W_forR {g : D → List (Option D) → Option (List (Option D))} {B : Sx} (I : Int → List (Option D) → S → Prop) (hi : Int)
    (step : ∀ k ρ s, k < hi → I k ρ s → ∃ ρ1, g (.int k) ρ = some ρ1 ∧ W (B ρ1 s) fun f s' => match f with
      | .nx ρ2 => I (k + 1) ρ2 s'
      | .ct ρ2 => I (k + 1) ρ2 s'
      | .bk ρ2 => U (.nx ρ2) s'
      | .ret d => U (.ret d) s')
    (fin : ∀ ρ s, I hi ρ s → U (.nx ρ) s) : ∀ (n : Nat) (lo : Int) (ρ : List (Option D)) (s : S), lo ≤ hi → (hi - lo).toNat = n → I lo ρ s → W (forF g B (rangeD lo hi) ρ s) U
  | 0, lo, ρ, s, hl, hn, h => by
    obtain rfl : lo = hi := by omega
    rw [rangeD_nil (by omega)]
    simpa [forF] using fin ρ s h
  | n + 1, lo, ρ, s, hl, hn, h => by
    obtain ⟨ρ1, e, hw⟩ := step lo ρ s (by omega) h
    rw [rangeD_cons (by omega)]
    simp only [forF, e, W_b]
    refine hw.mono fun f s' h' => ?_
    cases f with
    | nx ρ2 => exact W_forR I hi step fin n (lo + 1) ρ2 s' (by omega) (by omega) h'
    | ct ρ2 => exact W_forR I hi step fin n (lo + 1) ρ2 s' (by omega) (by omega) h'
    | bk ρ2 => simpa using h'
    | ret d => simpa using h'
theorem W_compR {g : D → List (Option D) → Option (List (Option D))} (I : Int → List D → S → Prop) (hi : Int)
    (step : ∀ k ys s, k < hi → I k ys s → ∃ ρ1, g (.int k) ρ = some ρ1 ∧ W (t ρ1 s) fun q s => If q (W (a ρ1 s) fun y s => I (k + 1) (ys ++ [y]) s) (I (k + 1) ys s))
    : ∀ (n : Nat) (lo : Int) (ys : List D) (s : S), lo ≤ hi → (hi - lo).toNat = n → I lo ys s → W (compF g t a ρ (rangeD lo hi) s) fun zs s' => I hi (ys ++ zs) s'
  | 0, lo, ys, s, hl, hn, h => by
    obtain rfl : lo = hi := by omega
    rw [rangeD_nil (by omega)]
    simpa [compF] using h
  | n + 1, lo, ys, s, hl, hn, h => by
    obtain ⟨ρ1, e, ht⟩ := step lo ys s (by omega) h
    rw [rangeD_cons (by omega)]
    simp only [compF, e, W_b, W_nx]
    refine ht.mono fun k s' hk => ?_
    cases k with
    | false => exact W_compR I hi step n (lo + 1) ys s' (by omega) (by omega) (by simpa using hk)
    | true =>
      simp only [If_t] at hk
      simp only [if_true, W_b, W_nx]
      refine hk.mono fun y s'' hy => ?_
      refine W_b.mpr ((W_compR I hi step n (lo + 1) (ys ++ [y]) s'' (by omega) (by omega) hy).mono fun zs s3 hz => W_ok.mpr ?_)
      simpa [List.append_assoc] using hz
end
/-- iDs as data -/
def iDs (xs : List Int) : List D := xs.map .int
@[simp] theorem iDs_bel (n : Nat) : ∀ xs : List Int, D.bels n (iDs xs) = true
  | [] => rfl
  | x :: r => by simpa [iDs, D.bels, D.bel] using iDs_bel n r
@[simp] theorem iDs_len (xs : List Int) : (iDs xs).length = xs.length := by simp [iDs]
theorem iDs_app (xs ys : List Int) : iDs (xs ++ ys) = iDs xs ++ iDs ys := by simp [iDs]
end CL.CP
namespace K63.P
open PySem CL CL.CP
def isStr (n : Int) (xs : List Int) : Prop := xs.Pairwise (· < ·) ∧ ∀ x ∈ xs, 0 ≤ x ∧ x < n
/-- the hand moves on, the other cells stay; P of the answer -/
def Dr (r : S) (P : D → Prop) (d : D) (s : S) : Prop := P d ∧ ∃ h, s = Hd.ct h :: r
def isInt (m : Int) (d : D) : Prop := ∃ n, d = .int n ∧ 0 ≤ n ∧ n < m
theorem take0 (r : S) (h : Hd) {m : Int} (hr : Clo r) (h1 : 1 ≤ m) (h2 : m < 1073741824) :
    W (F_law_take [.cell 0, .int m] (h.ct :: r)) (Dr r (isInt m)) := by
  refine (take_mid [] r h (m := m) (show Clo ([] ++ h.ct :: r) by simpa using hr) h1 h2).mono ?_
  rintro d s ⟨n, h', rfl, a, b, rfl⟩
  exact ⟨⟨n, rfl, a, b⟩, h', rfl⟩
theorem post0 {r : S} {h h' : Hd} {P : D → Prop} {d : D} (hr : Clo r) (hb : d.bel (h.ct :: r).length = true) (q : P d) : Post (h.ct :: r) (Dr r P) (.ret d) (h'.ct :: r) :=
  Post_retC hb (by simpa using hr) (by simp) ⟨q, h', by simp⟩
def isStrs (n : Int) (d : D) : Prop := ∃ xs, d = .lst (iDs xs) ∧ isStr n xs
def StrI (r : S) (k : Int) (ys : List D) (s : S) : Prop := ∃ xs h', ys = iDs xs ∧ isStr k xs ∧ s = Hd.ct h' :: r ∧ 0 ≤ k
theorem streams_ok (r : S) (h : Hd) (hr : Clo r) (n : Int) (h0 : 0 ≤ n) (h1 : n ≤ 1000) :
    W (F_law_streams [.cell 0, .int n] (h.ct :: r)) (Dr r (isStrs n)) := by
  refine runB_of rfl ?_
  have hsz : n ≤ (sizeLine : Int) := by have : (1000 : Int) ≤ sizeLine := by decide
                                        omega
  simp [wipeE]
  refine ⟨⟨by omega, hsz⟩, ?_⟩
  refine (W_compR (I := StrI r) n ?_ n.toNat 0 [] _ h0 (by omega) ⟨[], h, rfl, ⟨List.Pairwise.nil, by simp⟩, rfl, by omega⟩).mono ?_
  · rintro k ys s hk ⟨xs, h', rfl, ⟨hp, hx⟩, rfl, hk0⟩
    refine ⟨_, Tg_name, ?_⟩
    simp
    refine (take0 r h' hr (by omega) (by omega)).mono ?_
    rintro d s ⟨⟨m, rfl, hm0, hm2⟩, h2, rfl⟩
    simp
    refine ⟨fun _ => ?_, fun _ => ?_⟩
    · simp
      refine ⟨xs ++ [k], h2, by simp [iDs], ⟨?_, ?_⟩, rfl, by omega⟩
      · refine List.pairwise_append.mpr ⟨hp, by simp, fun a ha b hb => ?_⟩
        have := (hx a ha).2
        simp at hb
        omega
      · intro x hx'
        rcases List.mem_append.mp hx' with h' | h'
        · have := hx x h'; omega
        · simp at h'; omega
    · exact ⟨xs, h2, rfl, ⟨hp, fun x hx' => by have := hx x hx'; omega⟩, rfl, by omega⟩
  · rintro zs s ⟨xs, h', e, hs, rfl, _⟩
    simp only [List.nil_append] at e
    subst e
    simp
    exact post0 hr (by simp [D.bel]) ⟨xs, rfl, hs⟩
end K63.P
end
section
set_option Elab.async false
set_option linter.all false
/-! P5: the phases that a hand draws. -/
namespace CL.CP
open PySem
theorem W_join {B B' : Sx} {ρ : List (Option D)} {s : S} {U : Fl → S → Prop} (J : List (Option D) → S → Prop) (h1 : W (B ρ s) fun f s => Nx f (fun ρ' => J ρ' s) False) (h2 : ∀ ρ' s, J ρ' s → W (B' ρ' s) U) : W (CL.sSeq B B' ρ s) U := by
  rw [W_sSeq]
  refine h1.mono fun f s h => ?_
  cases f with
  | nx ρ' => exact h2 ρ' s h
  | _ => exact h.elim
@[simp] theorem o_min3 {ρ : List (Option D)} {s : S} {a b c : Ex} {Q : D → S → Prop} : W (eMin3 a b c ρ s) Q ↔ W (a ρ s) fun x s => W (b ρ s) fun y s => W (c ρ s) fun z s => In x fun i => In y fun j => In z fun k => Q (.int (if k < (if j < i then j else i) then k else (if j < i then j else i))) s := by
  unfold eMin3
  rw [W_b]
  refine W_iff fun x s => W_b.trans (W_iff fun y s => W_b.trans (W_iff fun z s => ?_))
  constructor
  · split
    · intro h
      exact ⟨_, rfl, _, rfl, _, rfl, W_ok.mp h⟩
    · intro h; exact (W_fail.mp h).elim
  · rintro ⟨i, rfl, j, rfl, k, rfl, h⟩
    exact W_ok.mpr h
end CL.CP
namespace K63.P
open PySem CL CL.CP
structure Ph where
  green : List Int
  lo : Int
  up : Int
  calm : Int
  grips : List Int
  calls : List Int
  gives : Bool
def Ph.law (p : Ph) : D := .tup [.tup (iDs p.green), .int p.lo, .int p.up, .int p.calm, .tup (iDs p.grips), .tup (iDs p.calls), .bl p.gives]
@[simp] theorem Ph.law_bel (p : Ph) (n : Nat) : p.law.bel n = true := by simp [Ph.law, D.bel, D.bels]
structure Ph.ok (count room : Int) (side : Bool) (p : Ph) : Prop where
  green : isStr count p.green
  grips : isStr count p.grips
  calls : isStr count p.calls
  lo : 1 ≤ p.lo
  lu : p.lo ≤ p.up
  calm : 0 ≤ p.calm ∧ p.calm ≤ 9
  fit : p.up + p.calm ≤ room
  main : side = false → p.up = p.lo ∧ p.grips = [] ∧ p.calls = [] ∧ p.gives = false
theorem isStr_nil (n : Int) : isStr n [] := ⟨List.Pairwise.nil, by simp⟩
def J1 (r : S) (count room : Int) (side : Bool) (ρ : List (Option D)) (s : S) : Prop := ∃ reach h', 1 ≤ reach ∧ reach ≤ room ∧ ρ = [some (.cell 0), some (.int count), some (.int room), some (.bl side), some (.int reach), none, none, none, none, none, none, none] ∧ s = Hd.ct h' :: r
def J2 (r : S) (count room : Int) (side : Bool) (green : List Int) (lo reach : Int) (ρ : List (Option D)) (s : S) : Prop := ∃ up grips calls gives h', lo ≤ up ∧ up ≤ room ∧ isStr count grips ∧ isStr count calls ∧ (side = false → up = lo ∧ grips = [] ∧ calls = [] ∧ gives = false) ∧
  ρ = [some (.cell 0), some (.int count), some (.int room), some (.bl side), some (.int reach), some (.lst (iDs green)), some (.int lo), some (.int up), some (.lst (iDs grips)), some (.lst (iDs calls)), some (.bl gives), none] ∧ s = Hd.ct h' :: r
def J3 (r : S) (count room : Int) (green : List Int) (lo reach up : Int) (ρ : List (Option D)) (s : S) : Prop := ∃ grips h', isStr count grips ∧
  ρ = [some (.cell 0), some (.int count), some (.int room), some (.bl true), some (.int reach), some (.lst (iDs green)), some (.int lo), some (.int up), some (.lst (iDs grips)), some (.lst (iDs [])), some (.bl false), none] ∧ s = Hd.ct h' :: r
def J4 (r : S) (count room : Int) (green : List Int) (lo reach up : Int) (ρ : List (Option D)) (s : S) : Prop := ∃ grips calls h', isStr count grips ∧ isStr count calls ∧
  ρ = [some (.cell 0), some (.int count), some (.int room), some (.bl true), some (.int reach), some (.lst (iDs green)), some (.int lo), some (.int up), some (.lst (iDs grips)), some (.lst (iDs calls)), some (.bl false), none] ∧ s = Hd.ct h' :: r
def isPh (count room : Int) (side : Bool) (d : D) : Prop := ∃ p : Ph, d = p.law ∧ p.ok count room side
theorem phase_ok (r : S) (h : Hd) (hr : Clo r) (n room : Int) (side : Bool) (h0 : 0 ≤ n) (h1 : n ≤ 1000) (hr1 : 1 ≤ room) (hr2 : room ≤ 1000) :
    W (F_law_phase [.cell 0, .int n, .int room, .bl side] (h.ct :: r)) (Dr r (isPh n room side)) := by
  refine runB_of rfl ?_
  have sz : ∀ k : Nat, k ≤ 10 → k ≤ sizeLine := fun k hk => Nat.le_trans hk (by decide)
  rw [W_sSeq]
  simp [-W_sSeq]
  refine W_join (J1 r n room side) ?_ ?_
  · simp
    refine (take0 r h hr (by omega) (by omega)).mono ?_
    rintro d s ⟨⟨m, rfl, hm0, hm2⟩, h2, rfl⟩
    simp
    refine ⟨fun _ => ?_, fun _ => ?_⟩
    · try simp
      exact ⟨room, h2, by omega, by omega, rfl, rfl⟩
    · try simp
      exact ⟨_, h2, by split <;> omega, by split <;> omega, rfl, rfl⟩
  · rintro ρ s ⟨reach, h2, hr3, hr4, rfl, rfl⟩
    simp
    refine (streams_ok r h2 hr n h0 h1).mono ?_
    rintro d s ⟨⟨green, rfl, hg⟩, h3, rfl⟩
    simp
    refine (take0 r h3 hr (by omega) (by omega)).mono ?_
    rintro d s ⟨⟨m, rfl, hm0, hm2⟩, h4, rfl⟩
    simp [-W_sSeq]
    rw [W_sSeq]; simp [-W_sSeq]
    rw [W_sSeq]; simp [-W_sSeq]
    rw [W_sSeq]; simp [-W_sSeq]
    rw [W_sSeq]; simp [-W_sSeq]
    refine W_join (J2 r n room side green (1 + m) reach) ?_ ?_
    · cases side
      · simp
        exact ⟨1 + m, [], [], false, h4, by omega, by omega, isStr_nil n, isStr_nil n, fun _ => ⟨rfl, rfl, rfl, rfl⟩, rfl, rfl⟩
      · simp
        refine (take0 r h4 hr (by split <;> omega) (by split <;> omega)).mono ?_
        rintro d s ⟨⟨x, rfl, hx0, hx2⟩, h5, rfl⟩
        have hup : 1 + m + x ≤ room := by split at hx2 <;> omega
        simp [-W_sSeq]
        refine W_join (J3 r n room green (1 + m) reach (1 + m + x)) ?_ ?_
        · simp
          refine (take0 r h5 hr (by omega) (by omega)).mono ?_
          rintro d s ⟨⟨y, rfl, hy0, hy2⟩, h6, rfl⟩
          simp
          refine ⟨fun _ => ?_, fun _ => ?_⟩
          · try simp
            refine (streams_ok r h6 hr n h0 h1).mono ?_
            rintro d s ⟨⟨gr, rfl, hgr⟩, h7, rfl⟩
            simp
            exact ⟨gr, h7, hgr, rfl, rfl⟩
          · try simp
            exact ⟨[], h6, isStr_nil n, rfl, rfl⟩
        · rintro ρ s ⟨gr, h6, hgr, rfl, rfl⟩
          refine W_join (J4 r n room green (1 + m) reach (1 + m + x)) ?_ ?_
          · simp
            refine (take0 r h6 hr (by omega) (by omega)).mono ?_
            rintro d s ⟨⟨y, rfl, hy0, hy2⟩, h7, rfl⟩
            simp
            refine ⟨fun _ => ?_, fun _ => ?_⟩
            · try simp
              refine (streams_ok r h7 hr n h0 h1).mono ?_
              rintro d s ⟨⟨cs, rfl, hcs⟩, h8, rfl⟩
              simp
              exact ⟨gr, cs, h8, hgr, hcs, rfl, rfl⟩
            · try simp
              exact ⟨gr, [], h7, hgr, isStr_nil n, rfl, rfl⟩
          · rintro ρ s ⟨gr, cs, h7, hgr, hcs, rfl, rfl⟩
            simp
            refine (take0 r h7 hr (by omega) (by omega)).mono ?_
            rintro d s ⟨⟨y, rfl, hy0, hy2⟩, h8, rfl⟩
            simp
            exact ⟨1 + m + x, gr, cs, decide (y = 0), h8, by omega, hup, hgr, hcs, fun e => (by cases e), rfl, rfl⟩
    · rintro ρ s ⟨up, gr, cs, gi, h5, hu1, hu2, hgr, hcs, hmain, rfl, rfl⟩
      simp
      refine (take0 r h5 hr (by split <;> split <;> omega) (by split <;> split <;> omega)).mono ?_
      rintro d s ⟨⟨x, rfl, hx0, hx2⟩, h6, rfl⟩
      have hc : x ≤ 9 ∧ up + x ≤ room := by
        split at hx2 <;> split at hx2 <;> omega
      simp [sz]
      refine post0 hr (by simp [D.bel, D.bels]) ⟨⟨green, 1 + m, up, x, gr, cs, gi⟩, rfl, ⟨hg, hgr, hcs, ?_, hu1, ⟨hx0, hc.1⟩, hc.2, hmain⟩⟩
      show 1 ≤ 1 + m
      omega
end K63.P
end
section
set_option Elab.async false
set_option linter.all false
/-! P6: all phases of a site. -/
namespace K63.P
open PySem CL CL.CP
def need : List Ph → Int
  | [] => 0
  | p :: r => p.up + p.calm + need r
theorem need_app (a : List Ph) (p : Ph) : need (a ++ [p]) = need a + (p.up + p.calm) := by
  induction a with
  | nil => simp [need]
  | cons x a ih => simp only [List.cons_append, need, ih]; omega
theorem Ph.ok.mono {c room room' : Int} {side : Bool} {p : Ph} (h : p.ok c room side) (hr : room ≤ room') : p.ok c room' side := { h with fit := by have := h.fit; omega }
theorem need_nn {c room : Int} : ∀ (ps : List Ph), (∀ q ∈ ps, q.ok c room true) → 0 ≤ need ps
  | [], _ => by simp [need]
  | p :: r, h => by
    have ih := need_nn r fun q hq => h q (List.mem_cons_of_mem _ hq)
    have hp := h p (List.mem_cons_self ..)
    have := hp.lo
    have := hp.lu
    have := hp.calm.1
    simp only [need]
    omega
structure Phs (count length : Int) (m : Ph) (rest : List Ph) : Prop where
  main : m.ok count length false
  side : ∀ q ∈ rest, q.ok count length true
  fit : m.lo + m.calm + need rest ≤ length
def lawPhs (m : Ph) (rest : List Ph) : List D := (m :: rest).map Ph.law
@[simp] theorem lawPhs_bel (n : Nat) : ∀ (ps : List Ph), D.bels n (ps.map Ph.law) = true
  | [] => rfl
  | p :: r => by simp [D.bels, lawPhs_bel n r]
@[simp] theorem lawPhs_bel' (n : Nat) (m : Ph) (rest : List Ph) : D.bels n (lawPhs m rest) = true := lawPhs_bel n _
def isPhs (count length : Int) (d : D) : Prop := ∃ m rest, d = .lst (lawPhs m rest) ∧ Phs count length m rest ∧ rest.length ≤ 11
def PhI (r : S) (count length : Int) (k : Int) (ρ : List (Option D)) (s : S) : Prop := ∃ m rest room x y h, Phs count length m rest ∧ room = length - (m.lo + m.calm + need rest) ∧ (rest.length : Int) ≤ k ∧ 0 ≤ k ∧
  ρ = [some (.cell 0), some (.int count), some (.int length), some (.cell (r.length + 1)), some (.int room), x, y] ∧ s = Hd.ct h :: (r ++ [.lst (lawPhs m rest)])
theorem ixNew (h : Hd) (r : S) (xs : List D) (n : Int) : ixD (h.ct :: (r ++ [Ct.lst xs])) (.cell (r.length + 1)) (.int n) = L2.atI xs n := o_ixc (by simp)
theorem at0 {x : D} {xs : List D} : L2.atI (x :: xs) 0 = some x := by
  simp [L2.atI, L2.ixN]
theorem law1 {s : S} {p : Ph} : ixD s p.law (.int 1) = some (.int p.lo) := by unfold Ph.law; rfl
theorem law2 {s : S} {p : Ph} : ixD s p.law (.int 2) = some (.int p.up) := by unfold Ph.law; rfl
theorem law3 {s : S} {p : Ph} : ixD s p.law (.int 3) = some (.int p.calm) := by unfold Ph.law; rfl
theorem phases_ok (r : S) (h : Hd) (hr : Clo r) (n len : Int) (h0 : 0 ≤ n) (h1 : n ≤ 1000) (hr1 : 1 ≤ len) (hr2 : len ≤ 1000) :
    W (F_law_phases [.cell 0, .int n, .int len] (h.ct :: r)) (Dr r (isPhs n len)) := by
  refine runB_of rfl ?_
  have sz : (1000 : Nat) ≤ sizeLine := by decide
  have szi : (1000 : Int) ≤ sizeLine := by decide
  rw [W_sSeq]
  simp [-W_sSeq]
  refine (phase_ok r h hr n len false h0 h1 hr1 hr2).mono ?_
  rintro d s ⟨⟨m, rfl, hm⟩, h2, rfl⟩
  have one : 1 ≤ sizeLine := by omega
  simp [-W_sSeq, D.bels, one]
  rw [W_sSeq]
  simp [-W_sSeq, ixNew, at0, law1, law3]
  rw [W_sSeq]
  have e11 : (11 : Int) ≤ sizeLine := by omega
  simp [-W_sSeq, e11]
  refine W_forR (PhI r n len) 11 ?_ ?_ 11 0 _ _ (by omega) rfl ⟨m, [], _, none, none, h2, ⟨hm, (fun q hq => by cases hq), by have := hm.fit; have := (hm.main rfl).1; simp only [need]; omega⟩, (by simp only [need]; omega), (by simp), by omega, rfl, rfl⟩
  · rintro k ρ s hk ⟨m, rest, room, x, y, h3, hp, hroom, hlen, hk0, rfl, rfl⟩
    refine ⟨_, Tg_name, ?_⟩
    have hf := hp.fit
    have hlo := hp.main.lo
    have hcm := hp.main.calm.1
    have hnn := need_nn rest hp.side
    simp [-W_sSeq]
    rw [W_sSeq]
    simp [-W_sSeq]
    have stay : ∀ h4 : Hd, PhI r n len (k + 1) [some (.cell 0), some (.int n), some (.int len), some (.cell (r.length + 1)), some (.int room), some (.int k), y] (h4.ct :: (r ++ [.lst (lawPhs m rest)])) := fun h4 =>
      ⟨m, rest, room, _, _, h4, hp, hroom, by omega, by omega, rfl, rfl⟩
    have hr' : Clo (r ++ [Ct.lst (lawPhs m rest)]) := by
      simp only [clo_app, clo_cons, clo_nil', and_true]
      exact ⟨hr, fun n => by simp [Ct.bel]⟩
    refine ⟨fun hpos => ?_, fun _ => ?_⟩
    · simp only [decide_eq_true_eq] at hpos
      simp [-W_sSeq]
      refine (take0 _ h3 hr' (by omega) (by omega)).mono ?_
      rintro d s ⟨⟨z, rfl, hz0, hz2⟩, h4, rfl⟩
      simp [-W_sSeq]
      refine ⟨fun _ => ?_, fun _ => ?_⟩
      · rw [W_sSeq]
        simp [-W_sSeq]
        refine (phase_ok _ h4 hr' n room true h0 h1 (by omega) (by omega)).mono ?_
        rintro d s ⟨⟨q, rfl, hq⟩, h5, rfl⟩
        have hqf := hq.fit
        have hq0 := hq.calm.1
        have hql := hq.lo
        have hqu := hq.lu
        simp [-W_sSeq]
        rw [W_sSeq]
        simp [-W_sSeq, isL]
        have hl2 : (lawPhs m rest).length < sizeLine := by simp only [lawPhs, List.length_map, List.length_cons]; omega
        simp [-W_sSeq, hl2, set_new]
        rw [W_sSeq]
        simp [-W_sSeq, law2, law3]
        refine ⟨m, rest ++ [q], _, _, _, h5, ⟨hp.main, fun a ha => ?_, ?_⟩, ?_, ?_, by omega, rfl, ?_⟩
        · rcases List.mem_append.mp ha with ha | ha
          · exact hp.side a ha
          · simp at ha; subst ha; exact hq.mono (by omega)
        · rw [need_app]; omega
        · rw [need_app]; omega
        · simp; omega
        · simp [lawPhs]
      · simp
        exact stay h4
    · simp
      exact stay h3
  · rintro ρ s ⟨m, rest, room, x, y, h3, hp, hroom, hlen, hk0, rfl, rfl⟩
    simp [-W_sSeq]
    rw [W_sSeq]
    simp [-W_sSeq, Ct.d, set_new]
    rw [W_sSeq]
    simp
    refine Post_retC (by simp [D.bel]) ?_ (by simp) ⟨⟨m, rest, rfl, hp, by omega⟩, h3, by simp⟩
    simp only [clo_cons, clo_app, clo_nil', and_true]
    exact ⟨fun n => h3.bel n, hr, fun _ => rfl⟩
end K63.P
end
section
set_option Elab.async false
set_option linter.all false
/-! P7: the lanes of a site. -/
namespace K63.P
open PySem CL CL.CP
inductive Ln where
  | foot (bound : Int)
  | road (room : Int) (pace : Option (Int × Int × Int)) (bus : Int)
def Ln.law : Ln → D
  | .foot b => .tup [.str "foot", .int b]
  | .road r none b => .tup [.str "road", .int r, .non, .int b]
  | .road r (some (x, y, z)) b => .tup [.str "road", .int r, .tup [.int x, .int y, .int z], .int b]
@[simp] theorem Ln.law_bel (p : Ln) (n : Nat) : p.law.bel n = true := by
  rcases p with b | ⟨r, _ | ⟨x, y, z⟩, b⟩ <;> simp [Ln.law, D.bel, D.bels]
/-- foot or with a pace: a source -/
def Ln.src : Ln → Bool
  | .foot _ => true
  | .road _ p _ => p.isSome
def Ln.bus : Ln → Bool
  | .foot _ => false
  | .road _ _ b => decide (0 < b)
structure Ln.ok (springs : Int) (coach : Bool) (p : Ln) : Prop where
  foot : ∀ b, p = .foot b → 1 ≤ b ∧ b ≤ 24
  road : ∀ r q b, p = .road r q b → 0 ≤ r ∧ r ≤ 9 ∧ 0 ≤ b ∧ b ≤ 12 ∧ (q = none → b = 0)
  pace : ∀ r x y z b, p = .road r (some (x, y, z)) b → 1 ≤ x ∧ x ≤ 3 ∧ 1 ≤ z ∧ z ≤ 6 ∧ 1 ≤ y ∧ y ≤ z
  src : p.src = true → 0 < springs
  bus : p.bus = true → coach = true
def isLn (springs : Int) (coach : Bool) (d : D) : Prop := ∃ p : Ln, d = p.law ∧ p.ok springs coach
def JL1 (r : S) (sp : Int) (first coach : Bool) (ρ : List (Option D)) (s : S) : Prop := ∃ way h, 0 ≤ way ∧ ρ = [some (.cell 0), some (.int sp), some (.bl first), some (.bl coach), some (.int way), none, none, none] ∧ s = Hd.ct h :: r
theorem lane_ok (r : S) (h : Hd) (hr : Clo r) (sp : Int) (first coach : Bool) (hs : 0 ≤ sp) :
    W (F_law_lane [.cell 0, .int sp, .bl first, .bl coach] (h.ct :: r)) (Dr r (isLn sp coach)) := by
  refine runB_of rfl ?_
  have sz : ∀ k : Nat, k ≤ 10 → k ≤ sizeLine := fun k hk => Nat.le_trans hk (by decide)
  rw [W_sSeq]
  simp [-W_sSeq]
  refine (take0 r h hr (by omega) (by omega)).mono ?_
  rintro d s ⟨⟨way, rfl, hw0, hw2⟩, h2, rfl⟩
  simp [-W_sSeq]
  refine W_join (JL1 r sp first coach) ?_ ?_
  · simp [-W_sSeq]
    cases first
    · simp
      exact ⟨way, h2, hw0, rfl, rfl⟩
    · simp [-W_sSeq]
      refine (take0 r h2 hr (by omega) (by omega)).mono ?_
      rintro d s ⟨⟨z, rfl, hz0, hz2⟩, h3, rfl⟩
      simp [-W_sSeq]
      refine ⟨fun _ => ?_, fun _ => ?_⟩
      · simp
        exact ⟨3, h3, by omega, rfl, rfl⟩
      · simp
        exact ⟨way, h3, hw0, rfl, rfl⟩
  · rintro ρ s ⟨way, h3, hw0, rfl, rfl⟩
    by_cases hf : way < 2 ∧ 0 < sp
    · obtain ⟨hf1, hf2⟩ := hf
      simp [hf1, hf2]
      refine (take0 r h3 hr (by omega) (by omega)).mono ?_
      rintro d s ⟨⟨b, rfl, hb0, hb2⟩, h4, rfl⟩
      simp [sz]
      refine post0 hr (by simp [D.bel, D.bels]) ⟨.foot (1 + b), rfl, ?_⟩
      exact { foot := fun x e => (by cases e; omega), road := fun _ _ _ e => (by cases e), pace := fun _ _ _ _ _ e => (by cases e), src := fun _ => hf2, bus := fun e => (by cases e) }
    · refine W_join (fun ρ' s' => ρ' = [some (.cell 0), some (.int sp), some (.bl first), some (.bl coach), some (.int way), none, none, none] ∧ s' = Hd.ct h3 :: r) ?_ ?_
      · by_cases h1 : way < 2
        · have h2 : ¬ 0 < sp := fun h => hf ⟨h1, h⟩
          simp [h1, h2]
        · simp [h1]
      · rintro _ _ ⟨rfl, rfl⟩
        simp
        refine (take0 r h3 hr (by omega) (by omega)).mono ?_
        rintro d s ⟨⟨rm, rfl, hm0, hm2⟩, h4, rfl⟩
        by_cases hg : 4 < way ∨ sp = 0
        · have hp : ∀ U : Fl → S → Prop, U (.ret (Ln.law (.road rm none 0))) (Hd.ct h4 :: r) → U (.ret (Ln.law (.road rm none 0))) (Hd.ct h4 :: r) := fun U h => h
          have fin : Post (h.ct :: r) (Dr r (isLn sp coach)) (.ret (Ln.law (.road rm none 0))) (h4.ct :: r) := post0 hr (by simp) ⟨_, rfl, { foot := fun x e => (by cases e), road := fun _ _ _ e => (by cases e; exact ⟨hm0, by omega, by omega, by omega, fun _ => rfl⟩), pace := fun _ _ _ _ _ e => (by cases e), src := fun e => (by cases e), bus := fun e => (by cases e) }⟩
          by_cases h4 : 4 < way
          · simp [h4, sz]
            exact fin
          · have h5 : sp = 0 := hg.resolve_left h4
            simp [h4, h5, sz]
            subst h5
            exact fin
        · have hg1 : ¬ 4 < way := fun h => hg (.inl h)
          have hg2 : ¬ sp = 0 := fun h => hg (.inr h)
          simp [hg1, hg2]
          refine (take0 r h4 hr (by omega) (by omega)).mono ?_
          rintro d s ⟨⟨dn, rfl, hd0, hd2⟩, h5, rfl⟩
          simp
          refine (take0 r h5 hr (by omega) (by omega)).mono ?_
          rintro d s ⟨⟨bu, rfl, hb0, hb2⟩, h6, rfl⟩
          simp
          refine (take0 r h6 hr (by omega) (by omega)).mono ?_
          rintro d s ⟨⟨nu, rfl, hn0, hn2⟩, h7, rfl⟩
          have fin : ∀ (b : Int) (h8 : Hd), 0 ≤ b → b ≤ 12 → (0 < b → coach = true) → Post (h.ct :: r) (Dr r (isLn sp coach)) (.ret (Ln.law (.road rm (some (1 + bu, 1 + nu, 1 + dn)) b))) (h8.ct :: r) := fun b h8 b0 b1 bc => post0 hr (by simp) ⟨_, rfl, { foot := fun x e => (by cases e), road := fun _ _ _ e => (by cases e; exact ⟨hm0, by omega, b0, b1, fun e => (by cases e)⟩), pace := fun _ _ _ _ _ e => (by cases e; omega), src := fun _ => by omega, bus := fun e => bc (by simpa [Ln.bus] using e) }⟩
          cases coach
          · simp [sz]
            exact fin 0 h7 (by omega) (by omega) (by omega)
          · simp [sz]
            refine (take0 r h7 hr (by omega) (by omega)).mono ?_
            rintro d s ⟨⟨z, rfl, hz0, hz2⟩, h8, rfl⟩
            simp
            refine ⟨fun _ => ?_, fun _ => ?_⟩
            · simp
              refine (take0 r h8 hr (by omega) (by omega)).mono ?_
              rintro d s ⟨⟨b, rfl, hb0, hb2⟩, h9, rfl⟩
              simp [sz]
              exact fin (1 + b) h9 (by omega) (by omega) (fun _ => rfl)
            · simp [sz]
              exact fin 0 h8 (by omega) (by omega) (by omega)
end K63.P
end
section
set_option Elab.async false
set_option linter.all false
/-! P8: the rivals that a hand draws. -/
namespace CL.CP
open PySem
theorem o_inT {s : S} {a : Int} {xs : List Int} : inD s (.int a) (.tup (iDs xs)) = some (.bl (decide (a ∈ xs))) := by
  have h : (iDs xs).all D.key1 = true := by simp [iDs, D.key1]
  have e : (D.int a ∈ iDs xs) ↔ a ∈ xs := by simp [iDs]
  simp only [inD, h, D.key1, Bool.and_self, if_true, e]
theorem o_inL {s : S} {a : Int} {xs : List Int} : inD s (.int a) (.lst (iDs xs)) = some (.bl (decide (a ∈ xs))) := by
  have h : (iDs xs).all D.key1 = true := by simp [iDs, D.key1]
  have e : (D.int a ∈ iDs xs) ↔ a ∈ xs := by simp [iDs]
  simp only [inD, h, D.key1, Bool.and_self, if_true, e]
theorem isL_new {c : Ct} {r : S} {xs : List D} : isL (c :: (r ++ [Ct.lst xs])) (.cell (r.length + 1)) = true := by simp [isL]
theorem clo_lst {xs : List D} (h : ∀ n, D.bels n xs = true) : ∀ n, Ct.bel n (.lst xs) = true := h
end CL.CP
namespace K63.P
open PySem CL CL.CP
/-- a pair of rivals -/
structure Rv where
  a : Int
  b : Int
  f : Int
  k : Int
def Rv.law (r : Rv) : D := .tup [.int r.a, .int r.b, .int r.f, .int r.k]
@[simp] theorem Rv.law_bel (p : Rv) (n : Nat) : p.law.bel n = true := by simp [Rv.law, D.bel, D.bels]
@[simp] theorem rvs_bel (n : Nat) : ∀ (ps : List Rv), D.bels n (ps.map Rv.law) = true
  | [] => rfl
  | p :: r => by simp [D.bels, rvs_bel n r]
structure Rv.ok (n : Int) (r : Rv) : Prop where
  ne : r.a ≠ r.b
  ha : 0 ≤ r.a ∧ r.a < n
  hb : 0 ≤ r.b ∧ r.b < n
  hf : 0 ≤ r.f ∧ r.f ≤ 9
  hk : 0 ≤ r.k ∧ r.k ≤ 9
/-- other streams -/
def Rv.apart (r q : Rv) : Prop := ¬ (q.a = r.a ∧ q.b = r.b) ∧ ¬ (q.a = r.b ∧ q.b = r.a)
def RvsOk (n : Int) (rs : List Rv) : Prop := (∀ r ∈ rs, r.ok n) ∧ rs.Pairwise Rv.apart
/-- its streams in order are ahead of (A, B) -/
def Rv.lt (A B : Int) (r : Rv) : Prop := (r.a < r.b ∧ (r.a < A ∨ (r.a = A ∧ r.b < B))) ∨ (r.b < r.a ∧ (r.b < A ∨ (r.b = A ∧ r.a < B)))
def isRvs (n : Int) (d : D) : Prop := ∃ rs : List Rv, d = .lst (rs.map Rv.law) ∧ RvsOk n rs ∧ rs.length ≤ 10000
theorem RvsOk.snoc {n A B : Int} {rs : List Rv} {q : Rv} (h : RvsOk n rs) (hl : ∀ r ∈ rs, r.lt A B) (hq : q.ok n) (e : (q.a = A ∧ q.b = B) ∨ (q.a = B ∧ q.b = A)) (hAB : A < B) : RvsOk n (rs ++ [q]) := by
  refine ⟨fun r hr => ?_, List.pairwise_append.mpr ⟨h.2, by simp, fun r hr x hx => ?_⟩⟩
  · rcases List.mem_append.mp hr with hr | hr
    · exact h.1 r hr
    · simp at hr; subst hr; exact hq
  · simp at hx
    subst hx
    have := hl r hr
    unfold Rv.lt at this
    unfold Rv.apart
    omega
theorem Rv.lt.up {A B : Int} {r : Rv} (h : r.lt A B) : r.lt A (B + 1) := by unfold Rv.lt at *; omega
theorem Rv.lt.upA {A B : Int} {r : Rv} (h : r.lt A B) : r.lt (A + 1) (A + 2) := by unfold Rv.lt at *; omega
def RvI (r : S) (n : Int) (phs : D) (A : Int) (ρ : List (Option D)) (s : S) : Prop := ∃ rs x4 x5 x6 x7 x8 x9 h, RvsOk n rs ∧ (∀ q ∈ rs, q.lt A (A + 1)) ∧ 0 ≤ A ∧
  (rs.length : Int) ≤ A * 1000 ∧
  ρ = [some (.cell 0), some (.int n), some phs, some (.cell (r.length + 1)), x4, x5, x6, x7, x8, x9, none] ∧ s = Hd.ct h :: (r ++ [.lst (rs.map Rv.law)])
def RvJ (r : S) (n : Int) (phs : D) (A B : Int) (ρ : List (Option D)) (s : S) : Prop := ∃ rs x5 x6 x7 x8 x9 h, RvsOk n rs ∧ (∀ q ∈ rs, q.lt A B) ∧ A < B ∧
  (rs.length : Int) ≤ A * 1000 + B ∧
  ρ = [some (.cell 0), some (.int n), some phs, some (.cell (r.length + 1)), some (.int A), x5, x6, x7, x8, x9, none] ∧ s = Hd.ct h :: (r ++ [.lst (rs.map Rv.law)])
def RvS (r : S) (n : Int) (phs : D) (A B way : Int) (rs : List Rv) (ρ : List (Option D)) (s : S) : Prop := ∃ x y ap x9 h, 0 ≤ x ∧ x ≤ 9 ∧ 0 ≤ y ∧ y ≤ 9 ∧
  ρ = [some (.cell 0), some (.int n), some phs, some (.cell (r.length + 1)), some (.int A), some (.int B), some (.int way), some (.bl ap), some (.tup [.int x, .int y]), x9, none] ∧ s = Hd.ct h :: (r ++ [.lst (rs.map Rv.law)])
def RvP (r : S) (n : Int) (phs : D) (A B way : Int) (ap : Bool) (x y : Int) (rs : List Rv) (ρ : List (Option D)) (s : S) : Prop := ∃ p q h, ((p = A ∧ q = B) ∨ (p = B ∧ q = A)) ∧
  ρ = [some (.cell 0), some (.int n), some phs, some (.cell (r.length + 1)), some (.int A), some (.int B), some (.int way), some (.bl ap), some (.tup [.int x, .int y]), some (.tup [.int p, .int q]), none] ∧ s = Hd.ct h :: (r ++ [.lst (rs.map Rv.law)])
theorem law0 {s : S} {p : Ph} : ixD s p.law (.int 0) = some (.tup (iDs p.green)) := by unfold Ph.law; rfl
theorem rivals_ok (r : S) (h : Hd) (hr : Clo r) (n : Int) (phs : List Ph) (h0 : 0 ≤ n) (h1 : n ≤ 6) (hp : phs.length ≤ 100) :
    W (F_law_rivals [.cell 0, .int n, .lst (phs.map Ph.law)] (h.ct :: r)) (Dr r (isRvs n)) := by
  refine runB_of rfl ?_
  have sz : ∀ k : Nat, k ≤ 100 → k ≤ sizeLine := fun k hk => Nat.le_trans hk (by decide)
  have szi : (100000 : Int) ≤ sizeLine := by decide
  have szn : (100000 : Nat) ≤ sizeLine := by decide
  generalize hU : Post (h.ct :: r) (Dr r (isRvs n)) = U
  rw [W_sSeq]
  simp [-W_sSeq, D.bels]
  rw [W_sSeq]
  simp [-W_sSeq, sz]
  refine ⟨⟨by omega, by omega⟩, ?_⟩
  refine W_forR (RvI r n (.lst (phs.map Ph.law))) n ?_ ?_ n.toNat 0 _ _ h0 (by omega) ⟨[], none, none, none, none, none, none, h, ⟨by simp, List.Pairwise.nil⟩, by simp, by omega, by simp, rfl, rfl⟩
  · rintro A ρ s hA ⟨rs, x4, x5, x6, x7, x8, x9, h2, hok, hlt, hA0, hlen, rfl, rfl⟩
    refine ⟨_, Tg_name, ?_⟩
    simp [-W_sSeq]
    rw [W_sSeq]
    simp [-W_sSeq]
    refine ⟨⟨by omega, by omega, by omega, by omega⟩, ?_⟩
    refine W_forR (RvJ r n (.lst (phs.map Ph.law)) A) n ?_ ?_ (n - (A + 1)).toNat (A + 1) _ _ (by omega) rfl ⟨rs, x5, x6, x7, x8, x9, h2, hok, hlt, by omega, by omega, rfl, rfl⟩
    · rintro B ρ s hB ⟨rs, x5, x6, x7, x8, x9, h3, hok, hlt, hAB, hlen, rfl, rfl⟩
      refine ⟨_, Tg_name, ?_⟩
      have hr' : Clo (r ++ [Ct.lst (rs.map Rv.law)]) := by
        simp only [clo_app, clo_cons, clo_nil', and_true]
        exact ⟨hr, fun n => by simp [Ct.bel]⟩
      simp [-W_sSeq]
      rw [W_sSeq]
      simp [-W_sSeq]
      refine (take0 _ h3 hr' (by omega) (by omega)).mono ?_
      rintro d s ⟨⟨way, rfl, hw0, hw2⟩, h4, rfl⟩
      simp [-W_sSeq]
      rw [W_sSeq]
      simp [-W_sSeq, wipeE]
      refine (compF_map Ph.law Ph.law (fun p => decide (A ∈ p.green) && decide (B ∈ p.green)) phs ?_).mono ?_
      · intro p hp
        refine ⟨_, Tg_name, ?_, ?_⟩
        · simp [law0, o_inT]
          by_cases ha : A ∈ p.green <;> simp [ha, law0, o_inT]
        · intro _
          simp
      rintro ys s ⟨rfl, rfl⟩
      simp [-W_sSeq]
      rw [W_sSeq]
      simp [-W_sSeq, sz]
      refine W_join (RvS r n (.lst (phs.map Ph.law)) A B way rs) ?_ ?_
      · simp
        refine ⟨fun _ => ?_, fun _ => ?_⟩
        · simp
          refine (take0 _ h4 hr' (by omega) (by omega)).mono ?_
          rintro d s ⟨⟨x, rfl, hx0, hx2⟩, h5, rfl⟩
          simp
          refine (take0 _ h5 hr' (by omega) (by omega)).mono ?_
          rintro d s ⟨⟨y, rfl, hy0, hy2⟩, h6, rfl⟩
          simp [sz]
          exact ⟨x, y, _, _, h6, by omega, by omega, by omega, by omega, rfl, rfl⟩
        · simp
          exact ⟨0, 0, _, _, h4, by omega, by omega, by omega, by omega, rfl, rfl⟩
      · rintro ρ s ⟨x, y, ap, x9, h5, hx0, hx1, hy0, hy1, rfl, rfl⟩
        refine W_join (RvS r n (.lst (phs.map Ph.law)) A B way rs) ?_ ?_
        · simp
          refine ⟨fun _ => ?_, fun _ => ?_⟩
          · simp
            refine (take0 _ h5 hr' (by omega) (by omega)).mono ?_
            rintro d s ⟨⟨x, rfl, hx0, hx2⟩, h6, rfl⟩
            simp
            refine (take0 _ h6 hr' (by omega) (by omega)).mono ?_
            rintro d s ⟨⟨y, rfl, hy0, hy2⟩, h7, rfl⟩
            simp [sz]
            exact ⟨x, y, _, _, h7, by omega, by omega, by omega, by omega, rfl, rfl⟩
          · simp
            exact ⟨x, y, _, _, h5, by omega, by omega, by omega, by omega, rfl, rfl⟩
        · rintro ρ s ⟨x, y, ap, x9, h6, hx0, hx1, hy0, hy1, rfl, rfl⟩
          have stay : ∀ (h9 : Hd) (x9 : Option D), RvJ r n (.lst (phs.map Ph.law)) A (B + 1) [some (.cell 0), some (.int n), some (.lst (phs.map Ph.law)), some (.cell (r.length + 1)), some (.int A), some (.int B), some (.int way), some (.bl ap), some (.tup [.int x, .int y]), x9, none] (h9.ct :: (r ++ [.lst (rs.map Rv.law)])) := fun h9 x9 =>
            ⟨rs, _, _, _, _, _, h9, hok, fun q hq => (hlt q hq).up, by omega, by omega, rfl, rfl⟩
          have go : W (CL.sSeq (sSet (.name 9) (eTup (aCons (eVar 4) (aCons (eVar 5) aNil)))) (CL.sSeq (sIf (tVal (e2 eqD (eCall F_law_take (aCons (eVar 0) (aCons (eC (.int 2)) aNil))) (eC (.int 1)))) (CL.sSeq (sSet (.name 9) (eTup (aCons (eVar 5) (aCons (eVar 4) aNil)))) sNil) sNil) (CL.sSeq (sApp (eVar 3) (e2 addD (eVar 9) (eVar 8))) sNil)) [some (.cell 0), some (.int n), some (.lst (phs.map Ph.law)), some (.cell (r.length + 1)), some (.int A), some (.int B), some (.int way), some (.bl ap), some (.tup [.int x, .int y]), x9, none] (h6.ct :: (r ++ [.lst (rs.map Rv.law)])))
              (fun f s => Nx f (fun ρ' => RvJ r n (.lst (phs.map Ph.law)) A (B + 1) ρ' s) False) := by
            rw [W_sSeq]
            simp [-W_sSeq, sz]
            refine W_join (RvP r n (.lst (phs.map Ph.law)) A B way ap x y rs) ?_ ?_
            · simp
              refine (take0 _ h6 hr' (by omega) (by omega)).mono ?_
              rintro d s ⟨⟨z, rfl, hz0, hz2⟩, h7, rfl⟩
              simp
              refine ⟨fun _ => ?_, fun _ => ?_⟩
              · simp [sz]
                exact ⟨B, A, h7, by simp, rfl, rfl⟩
              · simp
                exact ⟨A, B, h7, by simp, rfl, rfl⟩
            · rintro ρ s ⟨p, q, h7, hpq, rfl, rfl⟩
              have hl2 : rs.length < sizeLine := by omega
              simp [isL, addD, sz, D.bel, D.bels, set_new, hl2]
              refine ⟨rs ++ [⟨p, q, x, y⟩], _, _, _, _, _, h7, RvsOk.snoc hok hlt ⟨?_, ?_, ?_, ⟨hx0, hx1⟩, ⟨hy0, hy1⟩⟩ hpq hAB, ?_, by omega, ?_, rfl, ?_⟩
              · show p ≠ q
                omega
              · show 0 ≤ p ∧ p < n
                omega
              · show 0 ≤ q ∧ q < n
                omega
              · intro z hz
                rcases List.mem_append.mp hz with hz | hz
                · exact (hlt z hz).up
                · simp at hz
                  subst hz
                  unfold Rv.lt
                  show (p < q ∧ _) ∨ _
                  simp
                  omega
              · simp; omega
              · simp [Rv.law]
          have wk : ∀ {f : Fl} {s : S}, Nx f (fun ρ' => RvJ r n (.lst (phs.map Ph.law)) A (B + 1) ρ' s) False → (match f with
              | .nx ρ2 => RvJ r n (.lst (phs.map Ph.law)) A (B + 1) ρ2 s
              | _ => False) := by
            intro f s h
            cases f <;> exact h
          by_cases hc : way < 4 ∨ (way < 6 ∧ ap = true)
          · rw [W_sSeq, W_sIf]
            have ht : ∀ (P : Bool → S → Prop), P true (h6.ct :: (r ++ [.lst (rs.map Rv.law)])) → W ((CL.tOr (tVal (e2 ltD (eVar 6) (eC (.int 4)))) (CL.tAnd (tVal (e2 ltD (eVar 6) (eC (.int 6)))) (tTru (eVar 7)))) [some (.cell 0), some (.int n), some (.lst (phs.map Ph.law)), some (.cell (r.length + 1)), some (.int A), some (.int B), some (.int way), some (.bl ap), some (.tup [.int x, .int y]), x9, none] (h6.ct :: (r ++ [.lst (rs.map Rv.law)]))) P := by
              intro P hP
              by_cases h1 : way < 4
              · simp [h1, hP]
              · obtain ⟨h2, rfl⟩ := hc.resolve_left h1
                simp [h1, h2, hP]
            refine ht _ ?_
            simp only [If_t]
            refine go.mono fun f s h => ?_
            cases f with
            | nx ρ' => simpa using h
            | _ => exact h.elim
          · have h1 : ¬ way < 4 := fun h => hc (.inl h)
            by_cases h2 : way < 6
            · have : ap = false := by cases ap <;> simp_all
              subst this
              simp [h1, h2]
              exact stay h6 x9
            · simp [h1, h2]
              exact stay h6 x9
    · rintro ρ s ⟨rs, x5, x6, x7, x8, x9, h3, hok, hlt, hAB, hlen, rfl, rfl⟩
      simp
      exact ⟨rs, _, x5, x6, x7, x8, x9, h3, hok, fun q hq => (by have := hlt q hq; unfold Rv.lt at *; omega), by omega, by omega, rfl, rfl⟩
  · rintro ρ s ⟨rs, x4, x5, x6, x7, x8, x9, h3, hok, hlt, hA0, hlen, rfl, rfl⟩
    simp [-W_sSeq]
    rw [W_sSeq]
    simp [-W_sSeq, Ct.d, set_new]
    rw [W_sSeq]
    simp
    subst hU
    refine Post_retC (by simp [D.bel]) ?_ (by simp) ⟨⟨rs, rfl, hok, by omega⟩, h3, by simp⟩
    simp only [clo_cons, clo_app, clo_nil', and_true]
    exact ⟨fun n => h3.bel n, hr, fun _ => rfl⟩
end K63.P
end
section
set_option Elab.async false
set_option linter.all false
/-! P9: a site that a hand draws. -/
namespace CL.CP
open PySem
theorem atI_nat {α : Type} {xs : List α} (n : Nat) : L2.atI xs (n : Int) = xs[n]? := by
  unfold L2.atI L2.ixN
  rw [if_pos (by omega)]
  by_cases h : n < xs.length
  · rw [if_pos (by omega)]; rfl
  · rw [if_neg (by omega)]
    simp at h
    simp [h]
theorem atI_nn {α : Type} {xs : List α} {i : Int} (h : 0 ≤ i) : L2.atI xs i = xs[i.toNat]? := by
  have := atI_nat (xs := xs) i.toNat
  rwa [Int.toNat_of_nonneg h] at this
@[simp] theorem atI_zero {α : Type} {xs : List α} : L2.atI xs 0 = xs[0]? := atI_nat 0
@[simp] theorem atI_one {α : Type} {xs : List α} : L2.atI xs 1 = xs[1]? := atI_nat 1
@[simp] theorem atI_lit {α : Type} {xs : List α} (n : Nat) : L2.atI xs (no_index (@OfNat.ofNat Int n _)) = xs[(@OfNat.ofNat Nat n _)]? := atI_nat n
@[simp] theorem o_sll {s : S} {xs : List D} {l h : Option Int} : slD s (.lst xs) l h = some (.lst (cutD xs l h)) := rfl
@[simp] theorem o_slt {s : S} {xs : List D} {l h : Option Int} : slD s (.tup xs) l h = some (.tup (cutD xs l h)) := rfl
end CL.CP
namespace K63.P
open PySem CL CL.CP
def srcs (ls : List Ln) : Nat := (ls.filter Ln.src).length
@[simp] theorem lns_bel (n : Nat) : ∀ (ps : List Ln), D.bels n (ps.map Ln.law) = true
  | [] => rfl
  | p :: r => by simp [D.bels, lns_bel n r]
theorem str_ne : ¬ (("road" : Str) = "foot") := by decide
theorem str_ne' : ¬ (("foot" : Str) = "road") := by decide
theorem ln_src_ok {s : S} {p : Ln} {i : Nat} {ρ : List (Option D)} (h : look ρ i = some p.law) : W ((CL.tOr (tVal (e2 eqD (e2 ixD (eVar i) (eC (.int 0))) (eC (.str "foot")))) (tVal (e2 isnD (e2 ixD (eVar i) (eC (.int 2))) (eC .non)))) ρ s) fun k s' => k = p.src ∧ s' = s := by
  rcases p with b | ⟨r, _ | ⟨x, y, z⟩, b⟩
  · simp [h, Ln.law, Ln.src]
  · simp [h, Ln.law, Ln.src, str_ne]
  · simp [h, Ln.law, Ln.src, str_ne]
theorem springs_ok (s : S) (ls : List Ln) : F_law_springs [.lst (ls.map Ln.law)] s = .ok (.int (srcs ls)) s := by
  have : W (F_law_springs [.lst (ls.map Ln.law)] s) fun d s' => d = .int (srcs ls) ∧ s' = s := by
    refine runB_of rfl ?_
    simp [wipeE]
    refine (compF_map Ln.law Ln.law Ln.src ls ?_).mono ?_
    · intro p hp
      refine ⟨_, Tg_name, ?_, ?_⟩
      · exact ln_src_ok (by simp)
      · intro _
        simp
    · rintro ys s' ⟨rfl, rfl⟩
      simp
      exact Post_ret0 (by simp [D.bel]) ⟨by simp [srcs], rfl⟩
  obtain ⟨d, s', e, rfl, rfl⟩ := this
  exact e
def six : List D := [.str "a", .str "b", .str "ba", .str "c", .str "abc", .str "zz"]
def nms (n : Int) : List D := cutD six none (some n)
structure Si where
  n : Int
  rivals : List Rv
  m : Ph
  rest : List Ph
  lanes : List Ln
def Si.law (x : Si) : D := .tup [.lst (nms x.n), .lst (x.rivals.map Rv.law), .lst (lawPhs x.m x.rest), .lst (x.lanes.map Ln.law)]
structure Si.ok (len springs : Int) (x : Si) : Prop where
  n : 1 ≤ x.n ∧ x.n ≤ 6
  rivals : RvsOk x.n x.rivals
  rvl : x.rivals.length ≤ 10000
  phs : Phs x.n len x.m x.rest
  few : x.rest.length ≤ 11
  len : (x.lanes.length : Int) = x.n
  lanes : ∀ p ∈ x.lanes, ∃ sp c, p.ok sp c
  bus : (x.lanes.filter Ln.bus).length ≤ 1
  src : (srcs x.lanes : Int) ≤ springs
theorem nms_bel (k : Nat) (n : Int) : D.bels k (nms n) = true := by
  have : ∀ (xs : List D) (m : Nat), D.bels k xs = true → D.bels k (xs.take m) = true := by
    intro xs
    induction xs with
    | nil => intro m h; simpa using h
    | cons x r ih =>
      intro m h
      cases m with
      | zero => rfl
      | succ m =>
        simp only [D.bels, Bool.and_eq_true] at h
        simp only [List.take_succ_cons, D.bels, h.1, ih m h.2, Bool.and_self]
  unfold nms cutD six
  refine this _ _ ?_
  simp [HT.sIx, D.bels, D.bel]
@[simp] theorem Si.law_bel (x : Si) (k : Nat) : x.law.bel k = true := by simp [Si.law, D.bel, D.bels, nms_bel]
def isSi (len springs : Int) (d : D) : Prop := ∃ x : Si, d = x.law ∧ x.ok len springs
def JS1 (r : S) (len number springs : Int) (ρ : List (Option D)) (s : S) : Prop := ∃ n h, 1 ≤ n ∧ n ≤ 6 ∧ ρ = [some (.cell 0), some (.int len), some (.int number), some (.int springs), some (.int n), none, none, none, none, none, none] ∧ s = Hd.ct h :: r
def JSL (r : S) (len number springs n : Int) (rs : List Rv) (m : Ph) (rest : List Ph) (k : Int) (ρ : List (Option D)) (s : S) : Prop := ∃ ls coach x9 x10 h, (ls.length : Int) = k ∧ (srcs ls : Int) ≤ springs ∧ (∀ p ∈ ls, ∃ sp c, Ln.ok sp c p) ∧ (ls.filter Ln.bus).length ≤ 1 ∧ (coach = true → (ls.filter Ln.bus).length = 0) ∧
  ρ = [some (.cell 0), some (.int len), some (.int number), some (.int springs), some (.int n), some (.lst (lawPhs m rest)), some (.lst (rs.map Rv.law)), some (.cell (r.length + 1)), some (.bl coach), x9, x10] ∧ s = Hd.ct h :: (r ++ [.lst (ls.map Ln.law)])
def JSM (r : S) (len number springs n : Int) (rs : List Rv) (m : Ph) (rest : List Ph) (k : Int) (ls : List Ln) (p : Ln) (ρ : List (Option D)) (s : S) : Prop := ∃ coach h, (coach = true → (ls.filter Ln.bus).length = 0 ∧ p.bus = false) ∧
  ρ = [some (.cell 0), some (.int len), some (.int number), some (.int springs), some (.int n), some (.lst (lawPhs m rest)), some (.lst (rs.map Rv.law)), some (.cell (r.length + 1)), some (.bl coach), some (.int k), some p.law] ∧ s = Hd.ct h :: (r ++ [.lst (ls.map Ln.law)])
theorem site_ok (r : S) (h : Hd) (hr : Clo r) (len number springs : Int) (hl1 : 1 ≤ len) (hl2 : len ≤ 1000) (hs : 0 ≤ springs) :
    W (F_law_site [.cell 0, .int len, .int number, .int springs] (h.ct :: r)) (Dr r (isSi len springs)) := by
  refine runB_of rfl ?_
  have sz : ∀ k : Nat, k ≤ 100 → k ≤ sizeLine := fun k hk => Nat.le_trans hk (by decide)
  have szi : (100000 : Int) ≤ sizeLine := by decide
  have szn : (100000 : Nat) ≤ sizeLine := by decide
  generalize hU : Post (h.ct :: r) (Dr r (isSi len springs)) = U
  rw [W_sSeq]
  simp [-W_sSeq]
  refine (take0 _ h hr (by omega) (by omega)).mono ?_
  rintro d s ⟨⟨n0, rfl, hn0, hn2⟩, h1, rfl⟩
  simp [-W_sSeq]
  refine W_join (JS1 r len number springs) ?_ ?_
  · simp
    refine (take0 _ h1 hr (by omega) (by omega)).mono ?_
    rintro d s ⟨⟨z, rfl, hz0, hz2⟩, h2, rfl⟩
    simp
    refine ⟨fun _ => ?_, fun _ => ?_⟩
    · simp
      refine (take0 _ h2 hr (by omega) (by omega)).mono ?_
      rintro d s ⟨⟨z, rfl, hz0, hz2⟩, h3, rfl⟩
      simp
      exact ⟨1 + z, h3, by omega, by omega, rfl, rfl⟩
    · simp
      exact ⟨1 + n0, h2, by omega, by omega, rfl, rfl⟩
  · rintro ρ s ⟨n, h2, hn1, hn6, rfl, rfl⟩
    rw [W_sSeq]
    simp [-W_sSeq]
    refine (phases_ok _ h2 hr n len (by omega) (by omega) (by omega) (by omega)).mono ?_
    rintro d s ⟨⟨m, rest, rfl, hphs, hfew⟩, h3, rfl⟩
    simp [-W_sSeq]
    rw [W_sSeq]
    simp [-W_sSeq]
    refine (rivals_ok _ h3 hr n (m :: rest) (by omega) (by omega) (by simp; omega)).mono ?_
    rintro d s ⟨⟨rs, rfl, hrs, hrl⟩, h4, rfl⟩
    simp [-W_sSeq]
    rw [W_sSeq]
    simp [-W_sSeq, D.bels]
    rw [W_sSeq]
    simp [-W_sSeq]
    rw [W_sSeq]
    simp [-W_sSeq]
    refine ⟨⟨by omega, by omega⟩, ?_⟩
    refine W_forR (JSL r len number springs n rs m rest) n ?_ ?_ n.toNat 0 _ _ (by omega) (by omega) ⟨[], true, none, none, h4, rfl, by simpa [srcs] using hs, by simp, by simp, by simp, rfl, rfl⟩
    · rintro k ρ s hk ⟨ls, coach, x9, x10, h5, hlen, hsrc, hok, hb1, hb0, rfl, rfl⟩
      have hr' : Clo (r ++ [Ct.lst (ls.map Ln.law)]) := by
        simp only [clo_app, clo_cons, clo_nil', and_true]
        exact ⟨hr, fun n => by simp [Ct.bel]⟩
      refine ⟨_, Tg_name, ?_⟩
      simp [-W_sSeq]
      rw [W_sSeq]
      simp [-W_sSeq]
      refine W_eLend ?_
      simp
      have hsp : ∀ s, F_law_springs [.lst (ls.map Ln.law)] s = .ok (.int (srcs ls)) s := fun s => springs_ok s ls
      simp only [hsp]
      refine ⟨_, rfl, rfl, ?_⟩
      simp [-W_sSeq]
      refine (lane_ok _ h5 hr' (springs - (srcs ls : Int)) (decide (number + k = 0)) coach (by omega)).mono ?_
      rintro d s ⟨⟨p, rfl, hp⟩, h6, rfl⟩
      simp [-W_sSeq]
      refine W_join (JSM r len number springs n rs m rest k ls p) ?_ ?_
      · rcases p with b | ⟨rm, pc, b⟩
        · simp [Ln.law, str_ne']
          exact ⟨coach, h6, fun e => ⟨hb0 e, rfl⟩, rfl, rfl⟩
        · have e0 : ∀ s, ixD s (Ln.law (.road rm pc b)) (.int 0) = some (.str "road") := by rcases pc with _ | ⟨x, y, z⟩ <;> (intro s; rfl)
          have e3 : ∀ s, ixD s (Ln.law (.road rm pc b)) (.int 3) = some (.int b) := by rcases pc with _ | ⟨x, y, z⟩ <;> (intro s; rfl)
          simp [e0, e3]
          refine ⟨fun _ => ?_, fun hb => ?_⟩
          · simp
            exact ⟨false, h6, fun e => (by cases e), rfl, rfl⟩
          · simp
            exact ⟨coach, h6, fun e => ⟨hb0 e, by simpa [Ln.bus] using hb⟩, rfl, rfl⟩
      · rintro ρ s ⟨co, h7, hco, rfl, rfl⟩
        have hl2 : ls.length < sizeLine := by omega
        simp [isL, set_new, hl2]
        refine ⟨ls ++ [p], _, _, _, h7, by simp; omega, ?_, ?_, ?_, ?_, rfl, by simp⟩
        · rw [show srcs (ls ++ [p]) = srcs ls + (if p.src = true then 1 else 0) by unfold srcs; rw [List.filter_append, List.length_append]; cases hc : p.src <;> simp [hc]]
          split
          · have := hp.src (by assumption)
            omega
          · omega
        · intro q hq
          rcases List.mem_append.mp hq with hq | hq
          · exact hok q hq
          · simp at hq
            subst hq
            exact ⟨_, _, hp⟩
        · rw [List.filter_append, List.length_append]
          cases hb : p.bus with
          | false => simpa [hb] using hb1
          | true => simp [hb, hb0 (hp.bus hb)]
        · intro e
          rw [List.filter_append, List.length_append]
          obtain ⟨e1, e2⟩ := hco e
          simp [e1, e2]
    · rintro ρ s ⟨ls, coach, x9, x10, h5, hlen, hsrc, hok, hb1, hb0, rfl, rfl⟩
      simp [-W_sSeq]
      rw [W_sSeq]
      simp [-W_sSeq, Ct.d, set_new]
      rw [W_sSeq]
      simp [sz]
      subst hU
      refine Post_retC (by simpa [Si.law, six, nms] using Si.law_bel ⟨n, rs, m, rest, ls⟩ _) ?_ (by simp) ⟨⟨⟨n, rs, m, rest, ls⟩, by simp [Si.law, nms, six], ?_⟩, h5, by simp⟩
      · simp only [clo_cons, clo_app, clo_nil', and_true]
        exact ⟨fun n => h5.bel n, hr, fun _ => rfl⟩
      · exact ⟨⟨hn1, hn6⟩, hrs, hrl, hphs, hfew, hlen, hok, hb1, hsrc⟩
end K63.P
end
section
set_option Elab.async false
set_option linter.all false
/-! P10: the streets that a hand draws. -/
namespace CL.CP
open PySem
section
variable {α : Type} (l r : List α) (a b c d : α)
@[simp] theorem get_m0 : (l ++ a :: r)[l.length]? = some a := by simp
@[simp] theorem get_m1 : (l ++ a :: b :: r)[l.length + 1]? = some b := by simp
@[simp] theorem get_m2 : (l ++ a :: b :: c :: r)[l.length + 2]? = some c := by simp
@[simp] theorem set_m0 : (l ++ a :: r).set l.length d = l ++ d :: r := by induction l <;> simp_all
@[simp] theorem set_m1 : (l ++ a :: b :: r).set (l.length + 1) d = l ++ a :: d :: r := by induction l <;> simp_all
@[simp] theorem set_m2 : (l ++ a :: b :: c :: r).set (l.length + 2) d = l ++ a :: b :: d :: r := by induction l <;> simp_all
end
section
variable {Q : D → S → Prop} {ρ : List (Option D)} {s : S} {a b : Ex}
@[simp] theorem W_ePopAt : W (ePopAt a b ρ s) Q ↔ W (a ρ s) fun x s => An (isL s x = true) (W (b ρ s) fun y s => Ce x fun k => In y fun n => Sm s[k]? fun c => Ls c fun xs => Sm (L2.ixN xs.length n) fun j => Sm xs[j]? fun v => An (D.bel 0 v = true ∧ -(2 ^ 63) ≤ n ∧ n < 2 ^ 63) (Q v (s.set k (.lst (xs.eraseIdx j))))) := by
  simp only [ePopAt, W_b]
  constructor <;> refine fun h => h.mono fun x s h => ?_
  · revert h
    split
    · rename_i hi
      simp only [W_b]
      refine fun h => ⟨hi, h.mono fun y s h => ?_⟩
      revert h
      split
      · split
        · split
          · split
            · split
              · rename_i k n _ xs e _ j ej _ v ev hc
                simp only [W_ok]
                exact fun h => ⟨k, rfl, n, rfl, _, e, xs, rfl, j, ej, v, ev, hc, h⟩
              · simp
            · simp
          · simp
        · simp
      · simp
    · simp
  · rw [if_pos h.1, W_b]
    refine h.2.mono fun y s h => ?_
    obtain ⟨k, rfl, n, rfl, _, e, xs, rfl, j, ej, v, ev, hc, h⟩ := h
    simp only [e, ej, ev, if_pos hc, W_ok]
    exact h
end
@[simp] theorem erase_map {α β : Type} (f : α → β) : ∀ (l : List α) (n : Nat), (l.map f).eraseIdx n = (l.eraseIdx n).map f
  | [], n => by simp
  | a :: l, 0 => by simp
  | a :: l, n + 1 => by simp [erase_map f l n]
theorem erase_out {α : Type} : ∀ {l : List α} {n : Nat} {v : α}, l.Nodup → l[n]? = some v → v ∉ l.eraseIdx n
  | [], n, v, _, e => by simp at e
  | a :: l, 0, v, h, e => by
    simp at e
    subst e
    simpa using (List.nodup_cons.mp h).1
  | a :: l, n + 1, v, h, e => by
    simp at e
    have h2 := List.nodup_cons.mp h
    have ih := erase_out h2.2 e
    simp only [List.eraseIdx_cons_succ, List.mem_cons, not_or]
    refine ⟨?_, ih⟩
    rintro rfl
    exact h2.1 (List.mem_of_getElem? e)
end CL.CP
namespace K63.P
open PySem CL CL.CP
structure Pr where
  k : Int
  s : Int
  deriving DecidableEq
def Pr.law (p : Pr) : D := .tup [.int p.k, .int p.s]
@[simp] theorem Pr.law_bel (p : Pr) (n : Nat) : p.law.bel n = true := by simp [Pr.law, D.bel, D.bels]
@[simp] theorem prs_bel (n : Nat) : ∀ (ps : List Pr), D.bels n (ps.map Pr.law) = true
  | [] => rfl
  | p :: r => by simp [D.bels, prs_bel n r]
structure St where
  a : Pr
  b : Pr
  t : Int
def St.law (x : St) : D := .tup [x.a.law, x.b.law, .int x.t]
@[simp] theorem St.law_bel (p : St) (n : Nat) : p.law.bel n = true := by simp [St.law, D.bel, D.bels]
@[simp] theorem sts_bel (n : Nat) : ∀ (ps : List St), D.bels n (ps.map St.law) = true
  | [] => rfl
  | p :: r => by simp [D.bels, sts_bel n r]
def laneAt (sis : List Si) (p : Pr) (l : Ln) : Prop := 0 ≤ p.k ∧ 0 ≤ p.s ∧ ∃ si, sis[p.k.toNat]? = some si ∧ si.lanes[p.s.toNat]? = some l
def isRd (sis : List Si) (p : Pr) : Prop := ∃ r q b, laneAt sis p (.road r q b)
def isEn (sis : List Si) (p : Pr) : Prop := ∃ r b, laneAt sis p (.road r none b)
structure St.ok (sis : List Si) (x : St) : Prop where
  a : isRd sis x.a
  b : isEn sis x.b
  t : 1 ≤ x.t ∧ x.t ≤ 6
structure StsOk (sis : List Si) (xs : List St) : Prop where
  each : ∀ x ∈ xs, x.ok sis
  apart : xs.Pairwise fun x y => y.a ≠ x.a ∧ y.b ≠ x.b
  few : xs.length ≤ 6
def isSts (sis : List Si) (d : D) : Prop := ∃ xs, d = .lst (xs.map St.law) ∧ StsOk sis xs
def Pr.lt (p : Pr) (K S : Int) : Prop := p.k < K ∨ (p.k = K ∧ p.s < S)
structure PrI (V : Pr → Prop) (K S : Int) (ps : List Pr) : Prop where
  v : ∀ p ∈ ps, V p
  lt : ∀ p ∈ ps, p.lt K S
  nd : ps.Nodup
  few : (ps.length : Int) ≤ 6 * K + S
theorem PrI.snoc {V : Pr → Prop} {K S : Int} {ps : List Pr} (h : PrI V K S ps) (hv : V ⟨K, S⟩) : PrI V K (S + 1) (ps ++ [⟨K, S⟩]) := by
  refine ⟨fun p hp => ?_, fun p hp => ?_, ?_, by have := h.few; simp; omega⟩
  · rcases List.mem_append.mp hp with hp | hp
    · exact h.v p hp
    · simp at hp; subst hp; exact hv
  · rcases List.mem_append.mp hp with hp | hp
    · have := h.lt p hp
      unfold Pr.lt at *
      omega
    · simp at hp; subst hp; unfold Pr.lt; simp; omega
  · refine List.nodup_append.mpr ⟨h.nd, by simp, fun a ha b hb e => ?_⟩
    simp at hb
    subst hb
    subst e
    have := h.lt _ ha
    unfold Pr.lt at this
    simp at this
theorem PrI.up {V : Pr → Prop} {K S : Int} {ps : List Pr} (h : PrI V K S ps) : PrI V K (S + 1) ps :=
  ⟨h.v, fun p hp => by have := h.lt p hp; unfold Pr.lt at *; omega, h.nd, by have := h.few; omega⟩
theorem PrI.next {V : Pr → Prop} {K S : Int} {ps : List Pr} (h : PrI V K S ps) (h6 : S ≤ 6) : PrI V (K + 1) 0 ps :=
  ⟨h.v, fun p hp => by have := h.lt p hp; unfold Pr.lt at *; omega, h.nd, by have := h.few; omega⟩
def T1 (r : S) (sis : List Si) (K : Int) (ρ : List (Option D)) (s : S) : Prop := ∃ bs es x4 x7 x8 h, 0 ≤ K ∧ PrI (isRd sis) K 0 bs ∧ PrI (isEn sis) K 0 es ∧
  ρ = [some (.cell 0), some (.lst (sis.map Si.law)), some (.cell (r.length + 1)), some (.cell (r.length + 2)), x4, none, none, x7, x8, none, none] ∧ s = Hd.ct h :: (r ++ [.lst (bs.map Pr.law), .lst (es.map Pr.law)])
def T2 (r : S) (sis : List Si) (si : Si) (K S0 : Int) (ρ : List (Option D)) (s : S) : Prop := ∃ bs es x8 h, 0 ≤ S0 ∧ PrI (isRd sis) K S0 bs ∧ PrI (isEn sis) K S0 es ∧
  ρ = [some (.cell 0), some (.lst (sis.map Si.law)), some (.cell (r.length + 1)), some (.cell (r.length + 2)), some (.int K), none, none, some (.lst (si.lanes.map Ln.law)), x8, none, none] ∧ s = Hd.ct h :: (r ++ [.lst (bs.map Pr.law), .lst (es.map Pr.law)])
def T3 (r : S) (sis : List Si) (x4 x7 x8 : Option D) (K : Int) (ρ : List (Option D)) (s : S) : Prop := ∃ (bs es : List Pr) (xs : List St) (x6 x9 x10 : Option D) (h : Hd), 0 ≤ K ∧ K ≤ 6 ∧ (∀ p ∈ bs, isRd sis p) ∧ (∀ p ∈ es, isEn sis p) ∧ bs.Nodup ∧ es.Nodup ∧ bs.length ≤ 1000 ∧ es.length ≤ 1000 ∧
  (∀ x ∈ xs, x.ok sis ∧ x.a ∉ bs ∧ x.b ∉ es) ∧ xs.Pairwise (fun x y : St => y.a ≠ x.a ∧ y.b ≠ x.b) ∧ (xs.length : Int) ≤ K ∧
  ρ = [some (.cell 0), some (.lst (sis.map Si.law)), some (.cell (r.length + 1)), some (.cell (r.length + 2)), x4, some (.cell (r.length + 3)), x6, x7, x8, x9, x10] ∧ s = Hd.ct h :: (r ++ [.lst (bs.map Pr.law), .lst (es.map Pr.law), .lst (xs.map St.law)])
theorem si_at3 {s : S} {x : Si} : ixD s x.law (.int 3) = some (.lst (x.lanes.map Ln.law)) := by unfold Si.law; rfl
theorem si_at2 {s : S} {x : Si} : ixD s x.law (.int 2) = some (.lst (lawPhs x.m x.rest)) := by unfold Si.law; rfl
theorem si_at1 {s : S} {x : Si} : ixD s x.law (.int 1) = some (.lst (x.rivals.map Rv.law)) := by unfold Si.law; rfl
theorem si_at0 {s : S} {x : Si} : ixD s x.law (.int 0) = some (.lst (nms x.n)) := by unfold Si.law; rfl
theorem streets_ok (r : S) (h : Hd) (hr : Clo r) (sis : List Si) (h4 : sis.length ≤ 4) (h6 : ∀ x ∈ sis, x.lanes.length ≤ 6) :
    W (F_law_streets [.cell 0, .lst (sis.map Si.law)] (h.ct :: r)) (Dr r (isSts sis)) := by
  refine runB_of rfl ?_
  have sz : ∀ k : Nat, k ≤ 100 → k ≤ sizeLine := fun k hk => Nat.le_trans hk (by decide)
  have szi : (100000 : Int) ≤ sizeLine := by decide
  have szn : (100000 : Nat) ≤ sizeLine := by decide
  generalize hU : Post (h.ct :: r) (Dr r (isSts sis)) = U
  rw [W_sSeq]
  simp [-W_sSeq, D.bels]
  rw [W_sSeq]
  simp [-W_sSeq, D.bels]
  rw [W_sSeq]
  simp [-W_sSeq]
  refine ⟨by omega, ?_⟩
  refine W_forR (T1 r sis) sis.length ?_ ?_ sis.length 0 _ _ (by omega) (by omega) ⟨[], [], none, none, none, h, by omega, ⟨by simp, by simp, by simp, by simp⟩, ⟨by simp, by simp, by simp, by simp⟩, rfl, rfl⟩
  · rintro K ρ s hK ⟨bs, es, x4, x7, x8, h2, hK0, hb, he, rfl, rfl⟩
    refine ⟨_, Tg_name, ?_⟩
    obtain ⟨si, hsi⟩ : ∃ si, sis[K.toNat]? = some si := ⟨_, List.getElem?_eq_getElem (by omega)⟩
    have hsl := h6 si (List.mem_of_getElem? hsi)
    simp [-W_sSeq]
    rw [W_sSeq]
    simp [-W_sSeq, atI_nn hK0, hsi, si_at3]
    rw [W_sSeq]
    simp [-W_sSeq]
    refine ⟨by omega, ?_⟩
    refine W_forR (T2 r sis si K) si.lanes.length ?_ ?_ si.lanes.length 0 _ _ (by omega) (by omega) ⟨bs, es, _, h2, by omega, hb, he, rfl, rfl⟩
    · rintro S0 ρ s hS ⟨bs, es, x8, h2, hS0, hb, he, rfl, rfl⟩
      refine ⟨_, Tg_name, ?_⟩
      obtain ⟨l, hl⟩ : ∃ l, si.lanes[S0.toNat]? = some l := ⟨_, List.getElem?_eq_getElem (by omega)⟩
      have hbl : bs.length < sizeLine := by have := hb.few; omega
      have hel : es.length < sizeLine := by have := he.few; omega
      rcases l with b | ⟨rm, _ | ⟨x, y, z⟩, b⟩
      · simp [atI_nn hS0, hl, Ln.law, str_ne']
        exact ⟨bs, es, _, h2, by omega, hb.up, he.up, rfl, rfl⟩
      · have hv : isRd sis ⟨K, S0⟩ := ⟨rm, none, b, hK0, hS0, si, hsi, hl⟩
        have hv2 : isEn sis ⟨K, S0⟩ := ⟨rm, b, hK0, hS0, si, hsi, hl⟩
        simp [atI_nn hS0, hl, Ln.law, sz, isL, hbl, hel, D.bel, D.bels]
        exact ⟨bs ++ [⟨K, S0⟩], es ++ [⟨K, S0⟩], _, h2, by omega, hb.snoc hv, he.snoc hv2, rfl, by simp [Pr.law]⟩
      · have hv : isRd sis ⟨K, S0⟩ := ⟨rm, some (x, y, z), b, hK0, hS0, si, hsi, hl⟩
        simp [atI_nn hS0, hl, Ln.law, sz, isL, hbl, hel, D.bel, D.bels]
        exact ⟨bs ++ [⟨K, S0⟩], es, _, h2, by omega, hb.snoc hv, he.up, rfl, by simp [Pr.law]⟩
    · rintro ρ s ⟨bs, es, x8, h2, hS0, hb, he, rfl, rfl⟩
      simp
      exact ⟨bs, es, _, _, _, h2, by omega, hb.next (by omega), he.next (by omega), rfl, rfl⟩
  · rintro ρ s ⟨bs, es, x4, x7, x8, h2, hK0, hb, he, rfl, rfl⟩
    have hbl : bs.length ≤ 24 := by have := hb.few; omega
    have hel : es.length ≤ 24 := by have := he.few; omega
    simp [-W_sSeq]
    rw [W_sSeq]
    simp [-W_sSeq, D.bels]
    rw [W_sSeq]
    have hr' : ∀ (a b c : List D), (∀ n, D.bels n a = true) → (∀ n, D.bels n b = true) → (∀ n, D.bels n c = true) → Clo (r ++ [.lst a, .lst b, .lst c]) := by
      intro a b c ha hb hc
      simp only [clo_app, clo_cons, clo_nil', and_true]
      exact ⟨hr, fun n => ha n, fun n => hb n, fun n => hc n⟩
    simp [-W_sSeq]
    refine (take0 _ h2 (hr' _ _ _ (by simp) (by simp) (by simp [D.bels])) (by omega) (by omega)).mono ?_
    rintro d s ⟨⟨q, rfl, hq0, hq2⟩, h3, rfl⟩
    simp [-W_sSeq]
    refine ⟨⟨by omega, by omega⟩, ?_⟩
    refine W_forR (T3 r sis x4 x7 x8) q ?_ ?_ q.toNat 0 _ _ (by omega) (by omega) ⟨bs, es, [], _, _, _, h3, by omega, by omega, hb.v, he.v, hb.nd, he.nd, by omega, by omega, by simp, by simp, by simp, rfl, rfl⟩
    · rintro K ρ s hK ⟨bs, es, xs, x6, x9, x10, h5, hK0, hK6, hbv, hev, hbn, hen, hbl, hel, hxs, hpw, hxl, rfl, rfl⟩
      refine ⟨_, Tg_name, ?_⟩
      by_cases hpos : 0 < bs.length ∧ 0 < es.length
      · have hl2 : xs.length < sizeLine := by omega
        have hcl : ∀ (a b : List Pr), Clo (r ++ [.lst (a.map Pr.law), .lst (b.map Pr.law), .lst (xs.map St.law)]) := fun a b => hr' _ _ _ (by simp) (by simp) (by simp)
        simp [hpos.1, hpos.2, lenD, seqOf, isL]
        refine (take0 _ h5 (hcl bs es) (by omega) (by omega)).mono ?_
        rintro d s ⟨⟨i, rfl, hi0, hi2⟩, h6, rfl⟩
        have hi : i.toNat < bs.length := by omega
        have ei : L2.ixN bs.length i = some i.toNat := by unfold L2.ixN; rw [if_pos hi0, if_pos hi2]
        have ev : bs[i.toNat]? = some bs[i.toNat] := List.getElem?_eq_getElem hi
        have e1 : -9223372036854775808 ≤ i := by omega
        have e2 : i < 9223372036854775808 := by omega
        simp [ei, ev, e1, e2, lenD, seqOf, isL]
        refine (take0 _ h6 (hcl (bs.eraseIdx i.toNat) es) (by omega) (by omega)).mono ?_
        rintro d s ⟨⟨j, rfl, hj0, hj2⟩, h7, rfl⟩
        have hj : j.toNat < es.length := by omega
        have ej : L2.ixN es.length j = some j.toNat := by unfold L2.ixN; rw [if_pos hj0, if_pos hj2]
        have ew : es[j.toNat]? = some es[j.toNat] := List.getElem?_eq_getElem hj
        have e3 : -9223372036854775808 ≤ j := by omega
        have e4 : j < 9223372036854775808 := by omega
        simp [ej, ew, e3, e4, lenD, seqOf, isL]
        refine (take0 _ h7 (hcl (bs.eraseIdx i.toNat) (es.eraseIdx j.toNat)) (by omega) (by omega)).mono ?_
        rintro d s ⟨⟨tr, rfl, ht0, ht2⟩, h8, rfl⟩
        simp [sz, hl2, D.bel, D.bels]
        have sb : (bs.eraseIdx i.toNat).Sublist bs := List.eraseIdx_sublist ..
        have se : (es.eraseIdx j.toNat).Sublist es := List.eraseIdx_sublist ..
        refine ⟨bs.eraseIdx i.toNat, es.eraseIdx j.toNat, xs ++ [⟨bs[i.toNat], es[j.toNat], 1 + tr⟩], _, _, _, h8, by omega, by omega, fun p hp => hbv p (sb.subset hp), fun p hp => hev p (se.subset hp), hbn.sublist sb, hen.sublist se, by have := sb.length_le; omega, by have := se.length_le; omega, ?_, ?_, by simp; omega, rfl, by simp [St.law]⟩
        · intro x hx
          rcases List.mem_append.mp hx with hx | hx
          · exact ⟨(hxs x hx).1, fun h => (hxs x hx).2.1 (sb.subset h), fun h => (hxs x hx).2.2 (se.subset h)⟩
          · simp at hx
            subst hx
            exact ⟨⟨hbv _ (List.getElem_mem _), hev _ (List.getElem_mem _), by show 1 ≤ 1 + tr ∧ 1 + tr ≤ 6; omega⟩, erase_out hbn ev, erase_out hen ew⟩
        · refine List.pairwise_append.mpr ⟨hpw, by simp, fun x hx y hy => ?_⟩
          simp at hy
          subst hy
          exact ⟨fun e => (hxs x hx).2.1 (e ▸ List.getElem_mem _), fun e => (hxs x hx).2.2 (e ▸ List.getElem_mem _)⟩
      · have stay : T3 r sis x4 x7 x8 (K + 1) [some (.cell 0), some (.lst (sis.map Si.law)), some (.cell (r.length + 1)), some (.cell (r.length + 2)), x4, some (.cell (r.length + 3)), some (.int K), x7, x8, x9, x10] (h5.ct :: (r ++ [.lst (bs.map Pr.law), .lst (es.map Pr.law), .lst (xs.map St.law)])) :=
          ⟨bs, es, xs, _, _, _, h5, by omega, by omega, hbv, hev, hbn, hen, hbl, hel, hxs, hpw, by omega, rfl, rfl⟩
        by_cases h1 : 0 < bs.length
        · have h2 : ¬ 0 < es.length := fun h => hpos ⟨h1, h⟩
          simp [h1, h2, lenD, seqOf]
          exact stay
        · simp [h1, lenD, seqOf]
          exact stay
    · rintro ρ s ⟨bs, es, xs, x6, x9, x10, h5, hK0, hK6, hbv, hev, hbn, hen, hbl, hel, hxs, hpw, hxl, rfl, rfl⟩
      simp [-W_sSeq]
      rw [W_sSeq]
      simp [-W_sSeq, Ct.d]
      rw [W_sSeq]
      simp [-W_sSeq, Ct.d]
      rw [W_sSeq]
      simp [-W_sSeq, Ct.d]
      rw [W_sSeq]
      simp
      subst hU
      refine Post_retC (by simp [D.bel]) ?_ (by simp) ⟨⟨xs, rfl, fun x hx => (hxs x hx).1, hpw, by omega⟩, h5, by simp⟩
      · simp only [clo_cons, clo_app, clo_nil', and_true]
        exact ⟨fun n => h5.bel n, hr, fun _ => rfl, fun _ => rfl, fun _ => rfl⟩
end K63.P
end
section
set_option Elab.async false
set_option linter.all false
/-! P11: the town that a hand draws. -/
namespace K63.P
open PySem CL CL.CP
structure Tw where
  T : Int
  sis : List Si
  offs : List Int
  sts : List St
def Tw.law (x : Tw) : D := .tup [.int x.T, .lst (x.sis.map Si.law), .lst (iDs x.offs), .lst (x.sts.map St.law)]
@[simp] theorem sis_bel (n : Nat) : ∀ (ps : List Si), D.bels n (ps.map Si.law) = true
  | [] => rfl
  | p :: r => by simp [D.bels, sis_bel n r]
@[simp] theorem Tw.law_bel (x : Tw) (n : Nat) : x.law.bel n = true := by simp [Tw.law, D.bel, D.bels]
def srcT : List Si → Nat
  | [] => 0
  | x :: r => srcs x.lanes + srcT r
theorem srcT_app (a : List Si) (x : Si) : srcT (a ++ [x]) = srcT a + srcs x.lanes := by
  induction a with
  | nil => simp [srcT]
  | cons y a ih => simp only [List.cons_append, srcT, ih]; omega
structure Tw.ok (x : Tw) : Prop where
  T : 2 ≤ x.T ∧ x.T ≤ 12
  n : 1 ≤ x.sis.length ∧ x.sis.length ≤ 4
  each : ∀ y ∈ x.sis, ∃ sp, y.ok x.T sp
  src : srcT x.sis ≤ 6
  olen : x.offs.length = x.sis.length
  offs : ∀ o ∈ x.offs, 0 ≤ o ∧ o < x.T
  sts : StsOk x.sis x.sts
def isTw (d : D) : Prop := ∃ x : Tw, d = x.law ∧ x.ok
def U1 (r : S) (ρ : List (Option D)) (s : S) : Prop := ∃ T h, 2 ≤ T ∧ T ≤ 12 ∧ ρ = [some (.cell 0), some (.int T), none, none, none, none, none, none] ∧ s = Hd.ct h :: r
def U2 (r : S) (T : Int) (ρ : List (Option D)) (s : S) : Prop := ∃ n h, 1 ≤ n ∧ n ≤ 4 ∧ ρ = [some (.cell 0), some (.int T), some (.int n), none, none, none, none, none] ∧ s = Hd.ct h :: r
def U3 (r : S) (T n K : Int) (ρ : List (Option D)) (s : S) : Prop := ∃ (sis : List Si) (sp : Int) (x5 x7 : Option D) (h : Hd), (sis.length : Int) = K ∧ 0 ≤ sp ∧ sp + (srcT sis : Int) ≤ 6 ∧ (∀ y ∈ sis, ∃ sp, Si.ok T sp y) ∧
  ρ = [some (.cell 0), some (.int T), some (.int n), some (.cell (r.length + 1)), some (.int sp), x5, none, x7] ∧ s = Hd.ct h :: (r ++ [.lst (sis.map Si.law)])
def U4 (r : S) (T : Int) (n : Nat) (rest ys : List D) (s : S) : Prop := ∃ (os : List Int) (h : Hd), ys = iDs os ∧ os.length + rest.length = n ∧ (∀ o ∈ os, 0 ≤ o ∧ o < T) ∧ s = Hd.ct h :: (r ++ [.dead])
theorem town_ok (r : S) (h : Hd) (hr : Clo r) :
    W (F_law_town [.cell 0] (h.ct :: r)) (Dr r isTw) := by
  refine runB_of rfl ?_
  have sz : ∀ k : Nat, k ≤ 100 → k ≤ sizeLine := fun k hk => Nat.le_trans hk (by decide)
  have szi : (100000 : Int) ≤ sizeLine := by decide
  have szn : (100000 : Nat) ≤ sizeLine := by decide
  generalize hU : Post (h.ct :: r) (Dr r isTw) = U
  rw [W_sSeq]
  simp [-W_sSeq]
  refine (take0 _ h hr (by omega) (by omega)).mono ?_
  rintro d s ⟨⟨T0, rfl, hT0, hT2⟩, h1, rfl⟩
  simp [-W_sSeq]
  refine W_join (U1 r) ?_ ?_
  · simp
    refine (take0 _ h1 hr (by omega) (by omega)).mono ?_
    rintro d s ⟨⟨z, rfl, hz0, hz2⟩, h2, rfl⟩
    simp
    refine ⟨fun _ => ?_, fun _ => ?_⟩
    · simp
      refine (take0 _ h2 hr (by omega) (by omega)).mono ?_
      rintro d s ⟨⟨z, rfl, hz0, hz2⟩, h3, rfl⟩
      simp
      exact ⟨2 + z, h3, by omega, by omega, rfl, rfl⟩
    · simp
      exact ⟨2 + T0, h2, by omega, by omega, rfl, rfl⟩
  rintro ρ s ⟨T, h2, hT1, hT12, rfl, rfl⟩
  rw [W_sSeq]
  simp [-W_sSeq]
  refine (take0 _ h2 hr (by omega) (by omega)).mono ?_
  rintro d s ⟨⟨n0, rfl, hn0, hn2⟩, h3, rfl⟩
  simp [-W_sSeq]
  refine W_join (U2 r T) ?_ ?_
  · simp
    refine (take0 _ h3 hr (by omega) (by omega)).mono ?_
    rintro d s ⟨⟨z, rfl, hz0, hz2⟩, h4, rfl⟩
    simp
    refine ⟨fun _ => ?_, fun _ => ?_⟩
    · simp
      refine (take0 _ h4 hr (by omega) (by omega)).mono ?_
      rintro d s ⟨⟨z, rfl, hz0, hz2⟩, h5, rfl⟩
      simp
      exact ⟨1 + z, h5, by omega, by omega, rfl, rfl⟩
    · simp
      exact ⟨1 + n0, h4, by omega, by omega, rfl, rfl⟩
  rintro ρ s ⟨n, h4, hn1, hn4, rfl, rfl⟩
  rw [W_sSeq]
  simp [-W_sSeq, D.bels]
  rw [W_sSeq]
  simp [-W_sSeq]
  rw [W_sSeq]
  simp [-W_sSeq]
  refine ⟨⟨by omega, by omega⟩, ?_⟩
  refine W_forR (U3 r T n) n ?_ ?_ n.toNat 0 _ _ (by omega) (by omega) ⟨[], 6, none, none, h4, rfl, by omega, by simp [srcT], by simp, rfl, rfl⟩
  · rintro K ρ s hK ⟨sis, sp, x5, x7, h5, hlen, hsp, hsrc, heach, rfl, rfl⟩
    refine ⟨_, Tg_name, ?_⟩
    have hr' : Clo (r ++ [Ct.lst (sis.map Si.law)]) := by
      simp only [clo_app, clo_cons, clo_nil', and_true]
      exact ⟨hr, fun n => by simp [Ct.bel]⟩
    simp [-W_sSeq]
    rw [W_sSeq]
    simp [-W_sSeq]
    refine (site_ok _ h5 hr' T K sp (by omega) (by omega) hsp).mono ?_
    rintro d s ⟨⟨x, rfl, hx⟩, h6, rfl⟩
    have hl2 : sis.length < sizeLine := by omega
    have hxs := hx.src
    simp [si_at3, springs_ok, isL, hl2]
    exact ⟨sis ++ [x], _, _, _, h6, by simp; omega, by omega, by rw [srcT_app]; omega, fun y hy => by
      rcases List.mem_append.mp hy with hy | hy
      · exact heach y hy
      · simp at hy
        subst hy
        exact ⟨_, hx⟩, rfl, by simp⟩
  · rintro ρ s ⟨sis, sp, x5, x7, h5, hlen, hsp, hsrc, heach, rfl, rfl⟩
    have hr' : Clo (r ++ [Ct.dead]) := by
      simp only [clo_app, clo_cons, clo_nil', and_true]
      exact ⟨hr, fun n => rfl⟩
    simp [-W_sSeq]
    rw [W_sSeq]
    simp [-W_sSeq, Ct.d]
    rw [W_sSeq]
    simp [-W_sSeq, wipeE]
    have hd : r.length = (List.map some [D.non]).length + r.length - 1 := by simp
    refine (W_compF (I := U4 r T sis.length) ?_ (sis.map Si.law) [] _ ⟨[], h5, rfl, by simp, by simp, rfl⟩).mono ?_
    · rintro x rest ys s ⟨os, h6, rfl, hl, ho, rfl⟩
      refine ⟨_, Tg_name, ?_⟩
      simp
      refine (take0 _ h6 hr' (by omega) (by omega)).mono ?_
      rintro d s ⟨⟨o, rfl, ho0, ho2⟩, h7, rfl⟩
      simp at hl
      exact ⟨os ++ [o], h7, by simp [iDs], by simp; omega, fun a ha => by
        rcases List.mem_append.mp ha with ha | ha
        · exact ho a ha
        · simp at ha; subst ha; exact ⟨ho0, ho2⟩, rfl⟩
    · rintro zs s ⟨os, h6, e, hl, ho, rfl⟩
      simp at e hl
      subst e
      have hl6 : ∀ x ∈ sis, x.lanes.length ≤ 6 := fun x hx => by
        obtain ⟨sp, h⟩ := heach x hx
        have := h.len
        have := h.n
        omega
      simp [-W_sSeq]
      rw [W_sSeq]
      simp
      refine (streets_ok _ h6 hr' sis (by omega) hl6).mono ?_
      rintro d s ⟨⟨sts, rfl, hsts⟩, h7, rfl⟩
      simp [sz]
      subst hU
      refine Post_retC (Tw.law_bel ⟨T, sis, os, sts⟩ _) ?_ (by simp) ⟨⟨⟨T, sis, os, sts⟩, rfl, ⟨⟨hT1, hT12⟩, ⟨?_, ?_⟩, heach, ?_, hl, ho, hsts⟩⟩, h7, by simp⟩
      · simp only [clo_cons, clo_app, clo_nil', and_true]
        exact ⟨fun n => h7.bel n, hr, fun _ => rfl⟩
      · show 1 ≤ sis.length
        omega
      · show sis.length ≤ 4
        omega
      · show srcT sis ≤ 6
        omega
end K63.P
end
section
set_option Elab.async false
set_option linter.all false
/-! P12: objects: how they are made; rates, lanes, phases. -/
namespace CL.CP
open PySem
theorem W_eq {r : R D} {d : D} {s : S} (h : W r fun d' s' => d' = d ∧ s' = s) : r = .ok d s := by
  obtain ⟨d', s', e, rfl, rfl⟩ := h
  exact e
theorem W_of_eq {r : R D} {d : D} {s : S} {Q : D → S → Prop} (h : r = .ok d s) (q : Q d s) : W r Q := ⟨d, s, h, q⟩
def Ob (c : Ct) (P : Nat → List Nat → List D → Prop) (_qP : Kp P := ()) : Prop := ∃ c' ks vs, c = .obj c' ks vs ∧ P c' ks vs
@[simp] theorem Ob_obj {c : Nat} {ks : List Nat} {vs : List D} {P : Nat → List Nat → List D → Prop} : Ob (.obj c ks vs) P ↔ P c ks vs := ⟨fun ⟨_, _, _, e, h⟩ => by cases e; exact h, fun h => ⟨_, _, _, rfl, h⟩⟩
section
variable {Q : D → S → Prop} {P : Bool → S → Prop} {L : List D → S → Prop} {U : Fl → S → Prop} {ρ : List (Option D)} {s : S} {a b c : Ex} {t u : Tx}
@[simp] theorem W_sFld {c f : Nat} : W (CL.sFld c a f b ρ s) U ↔ W (b ρ s) fun y s => W (a ρ s) fun x s => Ce x fun k => Sm s[k]? fun ct => Ob ct fun c' ks vs => An (c' = c ∧ ks.length < 1000 ∧ ks.length = vs.length ∧ D.bel k y = true) (U (.nx ρ) (s.set k (.obj c (fput ks vs f y).1 (fput ks vs f y).2))) := by
  unfold CL.sFld
  rw [W_b]
  refine W_iff fun y s => W_b.trans (W_iff fun x s => ?_)
  constructor
  · intro h
    revert h
    split
    · split
      · split
        · rename_i k _ c' ks vs e hc
          intro h
          exact ⟨k, rfl, _, e, c', ks, vs, rfl, hc, W_ok.mp h⟩
        · intro h; exact (W_fail.mp h).elim
      · intro h; exact (W_fail.mp h).elim
    · intro h; exact (W_fail.mp h).elim
  · rintro ⟨k, rfl, _, e, c', ks, vs, rfl, hc, h⟩
    simp only [e, if_pos hc, W_ok]
    exact h
theorem W_eMake {c : Nat} {φ : Fn} {x : Ax} (h : W (x ρ s) fun ds s1 => W (φ (.cell s1.length :: ds) (s1 ++ [.obj c [] []])) fun d s' => d = .non ∧ ∃ c' ks vs, s' = s1 ++ [.obj c' ks vs] ∧ D.bels s1.length vs = true ∧ Q (.obj c' ks vs) s1) : W (eMake c φ x ρ s) Q := by
  simp only [eMake, W_b]
  refine h.mono fun ds s1 h => W_b.mpr (h.mono fun d s' h => ?_)
  obtain ⟨rfl, c', ks, vs, rfl, hb, q⟩ := h
  have hl : (s1 ++ [Ct.obj c' ks vs]).length = s1.length + 1 := by simp
  have e1 : (s1 ++ [Ct.obj c' ks vs])[s1.length]? = some (.obj c' ks vs) := by simp
  have e2 : (s1 ++ [Ct.obj c' ks vs]).take s1.length = s1 := by simp
  simp only [hl, e1, e2, and_self, if_true]
  rw [if_pos (.inr ⟨hb, trivial⟩)]
  exact W_ok.mpr q
theorem W_eMakeK {c : Nat} {φ : Fn} {x y : Ax} (h : W (x ρ s) fun xs s => W (y ρ s) fun ys s1 => W (φ (.cell s1.length :: (xs ++ ys)) (s1 ++ [.obj c [] []])) fun d s' => d = .non ∧ ∃ c' ks vs, s' = s1 ++ [.obj c' ks vs] ∧ D.bels s1.length vs = true ∧ Q (.obj c' ks vs) s1) : W (eMakeK c φ x y ρ s) Q := by
  refine W_eMake ?_
  simp only [W_b]
  exact h.mono fun xs s h => W_b.mpr (h.mono fun ys s h => W_ok.mpr h)
/-- an __init__'s end -/
theorem Post_init {s : S} {Q : D → S → Prop} {c c' : Nat} {ks ks' : List Nat} {vs vs' : List D} {ρ : Env} (hs : Clo s) (hv : D.bels (s.length + 1) vs' = true) (q : Q .non (s ++ [.obj c' ks' vs'])) : Post (s ++ [.obj c ks vs]) Q (.nx ρ) (s ++ [.obj c' ks' vs']) := by
  refine ⟨?_, ?_⟩
  · unfold cutOk
    simp only [Bool.and_eq_true, decide_eq_true_eq, Bool.or_eq_true, List.all_eq_true]
    refine ⟨by simp, .inr fun x hx => ?_⟩
    rcases List.mem_append.mp (List.mem_of_mem_take hx) with h | h
    · exact hs x h _
    · simp at h
      subst h
      simpa [Ct.bel] using hv
  · have e : (s ++ [Ct.obj c' ks' vs']).take (s ++ [Ct.obj c ks vs]).length = s ++ [Ct.obj c' ks' vs'] := List.take_of_length_le (by simp)
    rw [e]
    exact q
@[simp] theorem W_sSup {c : Nat} {φ : Fn} {x : Ax} : W (sSup c φ x ρ s) U ↔ Sm (look ρ 0) fun d => An (clsOf s d = some c) (W (x ρ s) fun ds s => W (φ (d :: ds) s) fun _ s => U (.nx ρ) s) := by
  unfold sSup look
  cases e : ρ[0]? with
  | none => simp
  | some o =>
    cases o with
    | none => simp
    | some d =>
      simp only [Option.getD_some, Sm_some]
      constructor
      · intro h
        split at h
        · rename_i hc
          rw [W_b] at h
          exact ⟨hc, h.mono fun ds s h => (W_b.mp h).mono fun _ _ h => W_ok.mp h⟩
        · exact (W_fail.mp h).elim
      · rintro ⟨hc, h⟩
        rw [if_pos hc, W_b]
        exact h.mono fun ds s h => W_b.mpr (h.mono fun _ _ h => W_ok.mpr h)
def E1 (E : Option D → List (Option D)) (ρ : List (Option D)) : Prop := ∃ a, ρ = E a
def E2 (E : Option D → Option D → List (Option D)) (ρ : List (Option D)) : Prop := ∃ a b, ρ = E a b
theorem W_forEnum {α : Type} {B : Sx} (enc : α → D) (E : Option D → Option D → List (Option D)) (i j : Nat) (hset : ∀ a b x y, setAll [i, j] [x, y] (E a b) = some (E (some x) (some y))) (xs : List α)
    (step : ∀ pre x post, xs = pre ++ x :: post → W (B (E (some (.int pre.length)) (some (enc x))) s) fun f s' => Nx f (fun ρ' => E2 E ρ' ∧ s' = s) False)
    (fin : ∀ a b, U (.nx (E a b)) s) (a b : Option D) : W (forF (Tg.set (.tup [i, j])) B (enumD 0 (xs.map enc)) (E a b) s) U := by
  refine W_forF (I := fun rest ρ s' => s' = s ∧ E2 E ρ ∧ ∃ pre post, xs = pre ++ post ∧ rest = enumD pre.length (post.map enc)) ?_ ?_ _ _ _ ⟨rfl, ⟨a, b, rfl⟩, [], xs, rfl, rfl⟩
  · rintro x r ρ s' ⟨rfl, ⟨a, b, rfl⟩, pre, post, e, er⟩
    cases post with
    | nil => simp [enumD] at er
    | cons y post =>
      simp only [List.map_cons, enumD, List.cons.injEq] at er
      obtain ⟨rfl, rfl⟩ := er
      refine ⟨_, hset a b _ _, (step pre y post e).mono fun f s' h => ?_⟩
      cases f with
      | nx ρ' =>
        obtain ⟨h1, rfl⟩ := h
        exact ⟨rfl, h1, pre ++ [y], post, by simp [e], by simp⟩
      | _ => exact h.elim
  · rintro ρ s' ⟨rfl, ⟨a, b, rfl⟩, _⟩
    exact fin a b
theorem W_forLst {α : Type} {B : Sx} (enc : α → D) (E : Option D → List (Option D)) (i : Nat) (hset : ∀ a x, put (E a) i x = E (some x)) (xs : List α)
    (step : ∀ x ∈ xs, W (B (E (some (enc x))) s) fun f s' => Nx f (fun ρ' => E1 E ρ' ∧ s' = s) False)
    (fin : ∀ a, U (.nx (E a)) s) (a : Option D) : W (forF (Tg.set (.name i)) B (xs.map enc) (E a) s) U := by
  refine W_forF (I := fun rest ρ s' => s' = s ∧ E1 E ρ ∧ ∃ post, (∀ x ∈ post, x ∈ xs) ∧ rest = post.map enc) ?_ ?_ _ _ _ ⟨rfl, ⟨a, rfl⟩, xs, fun x h => h, rfl⟩
  · rintro x r ρ s' ⟨rfl, ⟨a, rfl⟩, post, e, er⟩
    cases post with
    | nil => simp at er
    | cons y post =>
      simp only [List.map_cons, List.cons.injEq] at er
      obtain ⟨rfl, rfl⟩ := er
      refine ⟨_, Tg_name, ?_⟩
      rw [hset]
      refine (step y (e y (List.mem_cons_self ..))).mono fun f s' h => ?_
      cases f with
      | nx ρ' =>
        obtain ⟨h1, rfl⟩ := h
        exact ⟨rfl, h1, post, fun x hx => e x (List.mem_cons_of_mem _ hx), rfl⟩
      | _ => exact h.elim
  · rintro ρ s' ⟨rfl, ⟨a, rfl⟩, _⟩
    exact fin a
end
theorem cut_pre (pre post : List D) : cutD (pre ++ post) none (some (pre.length : Int)) = pre := by
  simp [cutD, HT.sIx_none, HT.sIx_nat]
theorem cut_tail (xs : List D) : cutD xs (some 1) none = xs.drop 1 := by
  unfold cutD
  have : HT.sIx xs.length 0 (some ((1 : Nat) : Int)) = min 1 xs.length := HT.sIx_nat ..
  have e : HT.sIx xs.length 0 (some (1 : Int)) = min 1 xs.length := this
  rw [e, HT.sIx_none]
  cases xs with
  | nil => rfl
  | cons x r =>
    have : min 1 (x :: r).length = 1 := by simp
    rw [this]
    exact List.take_of_length_le (by simp)
theorem sortI_id : ∀ {xs : List Int}, xs.Pairwise (· < ·) → sortI xs = xs
  | [], _ => rfl
  | x :: r, h => by
    have h2 := List.pairwise_cons.mp h
    rw [sortI, sortI_id h2.2]
    cases r with
    | nil => rfl
    | cons y r =>
      have := h2.1 y (List.mem_cons_self ..)
      simp only [insI]
      rw [if_pos (by omega)]
theorem intsD_iDs : ∀ xs : List Int, intsD (iDs xs) = some xs
  | [] => rfl
  | x :: r => by
    have := intsD_iDs r
    simp only [iDs] at this
    simp [iDs, intsD, this]
theorem o_sort {s : S} {xs : List Int} (h : xs.Pairwise (· < ·)) : sortD s (.lst (iDs xs)) = some (.lst (iDs xs)) := by
  simp [sortD, lsOf, intsD_iDs, sortI_id h]
  rfl
end CL.CP
namespace K63.P
open PySem CL CL.CP
theorem are_streams_ok (s : S) {n : Int} {xs : List Int} (h : isStr n xs) (hn : n ≤ 6) : F_are_streams [.lst (iDs xs)] s = .ok (.bl true) s := by
  refine W_eq (runB_of rfl ?_)
  simp [iEnum]
  refine W_forEnum (α := Int) .int (fun a b => [some (.lst (iDs xs)), a, b]) 1 2 (fun _ _ _ _ => by simp) xs ?_ ?_ none none
  · intro pre x post e
    have hx := h.2 x (by rw [e]; simp)
    have hp : x ∉ pre := by
      intro hm
      have := h.1
      rw [e] at this
      have := (List.pairwise_append.mp this).2.2 x hm x (by simp)
      omega
    have ec : cutD (iDs xs) none (some (pre.length : Int)) = iDs pre := by
      rw [e, iDs_app, ← iDs_len pre]
      exact cut_pre _ _
    have h1 : 0 ≤ x := hx.1
    have h2 : x ≤ 5 := by omega
    simp [h1, h2, ec, o_inL, hp]
    exact ⟨_, _, rfl⟩
  · intro a b
    simp
    exact Post_ret0 rfl ⟨rfl, rfl⟩
end K63.P
end
section
set_option Elab.async false
set_option linter.all false
/-! P13: rates, lanes, phases are made. -/
namespace K63.P
open PySem CL CL.CP
def Ph.vs (p : Ph) : List D := [.tup (iDs p.green), .int p.lo, .int p.up, .int p.calm, .tup (iDs p.grips), .tup (iDs p.calls), .bl p.gives]
def Ph.obj (p : Ph) : D := .obj 4 [13, 14, 15, 16, 17, 18, 19] p.vs
theorem Ph.vs_bel (p : Ph) (n : Nat) : D.bels n p.vs = true := by simp [Ph.vs, D.bel, D.bels]
@[simp] theorem Ph.obj_bel (p : Ph) (n : Nat) : p.obj.bel n = true := p.vs_bel n
theorem check_phase_ok (s : S) (p : Ph) {n room : Int} {side : Bool} (h : p.ok n room side) (hn : n ≤ 6) (hr : room ≤ 12) :
    F_check_phase [.lst (iDs p.green), .int p.lo, .int p.up, .int p.calm, .lst (iDs p.grips), .lst (iDs p.calls)] s = .ok .non s := by
  refine W_eq (runB_of rfl ?_)
  have h1 := h.lo
  have h2 := h.lu
  have h3 := h.calm
  have h4 := h.fit
  have a1 : p.lo ≤ 12 := by omega
  have a2 : p.up ≤ 12 := by omega
  simp [are_streams_ok s h.green hn, are_streams_ok s h.grips hn, are_streams_ok s h.calls hn, h1, h2, h3.1, h3.2, a1, a2]
  exact Post_nx0 ⟨rfl, rfl⟩
theorem phase_init_ok (s : S) (hs : Clo s) (p : Ph) {n room : Int} {side : Bool} (h : p.ok n room side) (hn : n ≤ 6) (hr : room ≤ 12) :
    F_Phase_init [.cell s.length, .lst (iDs p.green), .int p.lo, .int p.up, .int p.calm, .lst (iDs p.grips), .lst (iDs p.calls), .bl p.gives] (s ++ [.obj 4 [] []]) = .ok .non (s ++ [.obj 4 [13, 14, 15, 16, 17, 18, 19] p.vs]) := by
  refine W_eq (runB_of rfl ?_)
  have ck : ∀ s, F_check_phase [.lst (iDs p.green), .int p.lo, .int p.up, .int p.calm, .lst (iDs p.grips), .lst (iDs p.calls)] s = .ok .non s := fun s => check_phase_ok s p h hn hr
  simp [ck, o_sort h.green.1, o_sort h.grips.1, o_sort h.calls.1, fput, D.bel]
  exact Post_init hs (p.vs_bel _) ⟨rfl, rfl⟩
theorem make_phase_ok (s : S) (hs : Clo s) (p : Ph) {n room : Int} {side : Bool} (h : p.ok n room side) (hn : n ≤ 6) (hr : room ≤ 12) :
    F_law_make_phase [p.law] s = .ok p.obj s := by
  refine W_eq (runB_of rfl ?_)
  have e := phase_init_ok s hs p h hn hr
  have fin : Post s (fun d' s' => d' = p.obj ∧ s' = s) (.ret p.obj) s := Post_ret0 (by simp) ⟨rfl, rfl⟩
  have i0 : ∀ s, ixD s p.law (.int 0) = some (.tup (iDs p.green)) := fun s => by unfold Ph.law; rfl
  have i1 : ∀ s, ixD s p.law (.int 1) = some (.int p.lo) := fun s => by unfold Ph.law; rfl
  have i2 : ∀ s, ixD s p.law (.int 2) = some (.int p.up) := fun s => by unfold Ph.law; rfl
  have i3 : ∀ s, ixD s p.law (.int 3) = some (.int p.calm) := fun s => by unfold Ph.law; rfl
  have i4 : ∀ s, ixD s p.law (.int 4) = some (.tup (iDs p.grips)) := fun s => by unfold Ph.law; rfl
  have i5 : ∀ s, ixD s p.law (.int 5) = some (.tup (iDs p.calls)) := fun s => by unfold Ph.law; rfl
  have i6 : ∀ s, ixD s p.law (.int 6) = some (.bl p.gives) := fun s => by unfold Ph.law; rfl
  cases hg : p.gives
  · rw [hg] at i6 e
    simp [i6]
    refine W_eMakeK ?_
    simp [i0, i1, i2, i3, i4, i5]
    refine W_of_eq e ⟨rfl, _, _, _, rfl, p.vs_bel _, ?_⟩
    simp
    exact fin
  · rw [hg] at i6 e
    simp [i6]
    refine W_eMakeK ?_
    simp [i0, i1, i2, i3, i4, i5]
    refine W_of_eq e ⟨rfl, _, _, _, rfl, p.vs_bel _, ?_⟩
    simp
    exact fin
def rate (q : Option (Int × Int × Int)) : D := match q with
  | none => .non
  | some (x, y, z) => .tup [.int x, .int y, .int z]
def rateO (q : Option (Int × Int × Int)) : D := match q with
  | none => .non
  | some (x, y, z) => .obj 5 [20, 21, 22] [.int x, .int y, .int z]
@[simp] theorem rateO_bel (q : Option (Int × Int × Int)) (n : Nat) : (rateO q).bel n = true := by
  rcases q with _ | ⟨x, y, z⟩ <;> simp [rateO, D.bel, D.bels]
def Ln.ks : Ln → List Nat
  | .foot b => [9]
  | .road r q b => [9, 10, 11, 12]
def Ln.vs : Ln → List D
  | .foot b => [.int b]
  | .road r q b => [.int b, .int r, rateO q, .int b]
def Ln.cl : Ln → Nat
  | .foot b => 2
  | .road r q b => 3
def Ln.obj (l : Ln) : D := .obj l.cl l.ks l.vs
theorem Ln.vs_bel (l : Ln) (n : Nat) : D.bels n l.vs = true := by cases l <;> simp [Ln.vs, D.bel, D.bels]
@[simp] theorem Ln.obj_bel (p : Ln) (n : Nat) : p.obj.bel n = true := p.vs_bel n
theorem make_rate_ok (s : S) (hs : Clo s) (q : Option (Int × Int × Int)) (h : ∀ x y z, q = some (x, y, z) → 1 ≤ x ∧ x ≤ 3 ∧ 1 ≤ z ∧ z ≤ 6 ∧ 1 ≤ y ∧ y ≤ z) :
    F_law_make_rate [rate q] s = .ok (rateO q) s := by
  refine W_eq (runB_of rfl ?_)
  rcases q with _ | ⟨x, y, z⟩
  · simp [rate]
    exact Post_ret0 rfl ⟨rfl, rfl⟩
  · obtain ⟨h1, h2, h3, h4, h5, h6⟩ := h x y z rfl
    simp [rate]
    refine W_eMake ?_
    simp
    have e : F_Rate_init [.cell s.length, .int x, .int y, .int z] (s ++ [.obj 5 [] []]) = .ok .non (s ++ [.obj 5 [20, 21, 22] [.int x, .int y, .int z]]) := by
      refine W_eq (runB_of rfl ?_)
      simp [h1, h2, h3, h4, h5, h6, fput, D.bel]
      exact Post_init hs (by simp [D.bels, D.bel]) ⟨rfl, rfl⟩
    refine W_of_eq e ⟨rfl, _, _, _, rfl, by simp [D.bels, D.bel], ?_⟩
    simp
    exact Post_ret0 (by simp [D.bels, D.bel]) ⟨rfl, rfl⟩
theorem make_lane_ok (s : S) (hs : Clo s) (l : Ln) {sp : Int} {c : Bool} (h : l.ok sp c) : F_law_make_lane [l.law] s = .ok l.obj s := by
  refine W_eq (runB_of rfl ?_)
  rcases l with b | ⟨r, q, b⟩
  · obtain ⟨h1, h2⟩ := h.foot b rfl
    simp [Ln.law]
    refine W_eMake ?_
    simp
    have e0 : F_Lane_init_at_Foot [.cell s.length, .int b] (s ++ [.obj 2 [] []]) = .ok .non (s ++ [.obj 2 [9] [.int b]]) := by
      refine W_eq (runB_of rfl ?_)
      simp [fput, D.bel]
      exact Post_init hs (by simp [D.bels, D.bel]) ⟨rfl, rfl⟩
    have e : F_Foot_init [.cell s.length, .int b] (s ++ [.obj 2 [] []]) = .ok .non (s ++ [.obj 2 [9] [.int b]]) := by
      refine W_eq (runB_of rfl ?_)
      simp [h1, h2, clsOf, e0]
      exact Post_init hs (by simp [D.bels, D.bel]) ⟨rfl, rfl⟩
    refine W_of_eq e ⟨rfl, _, _, _, rfl, by simp [D.bels, D.bel], ?_⟩
    simp
    exact Post_ret0 (by simp [D.bels, D.bel]) ⟨rfl, rfl⟩
  · obtain ⟨h1, h2, h3, h4, h5⟩ := h.road r q b rfl
    have e0 : F_Lane_init_at_Road [.cell s.length, .int b] (s ++ [.obj 3 [] []]) = .ok .non (s ++ [.obj 3 [9] [.int b]]) := by
      refine W_eq (runB_of rfl ?_)
      simp [fput, D.bel]
      exact Post_init hs (by simp [D.bels, D.bel]) ⟨rfl, rfl⟩
    have e : F_Road_init [.cell s.length, .int r, rateO q, .int b] (s ++ [.obj 3 [] []]) = .ok .non (s ++ [.obj 3 [9, 10, 11, 12] [.int b, .int r, rateO q, .int b]]) := by
      refine W_eq (runB_of rfl ?_)
      have fin : Post (s ++ [Ct.obj 3 [] []]) (fun d' s' => d' = .non ∧ s' = s ++ [Ct.obj 3 [9, 10, 11, 12] [.int b, .int r, rateO q, .int b]]) (.nx [some (.cell s.length), some (.int r), some (rateO q), some (.int b), none]) (s ++ [Ct.obj 3 [9, 10, 11, 12] [.int b, .int r, rateO q, .int b]]) :=
        Post_init hs (by simp [D.bels, D.bel]) ⟨rfl, rfl⟩
      by_cases hb : b = 0
      · subst hb
        simp [h1, h2, clsOf, e0, fput, D.bel]
        exact fin
      · have hn : rateO q ≠ .non := by
          rcases q with _ | ⟨x, y, z⟩
          · exact absurd (h5 rfl) hb
          · simp [rateO]
        simp [h1, h2, h3, h4, hb, hn, clsOf, e0, fput, D.bel]
        exact fin
    have hq : ∀ x y z, q = some (x, y, z) → 1 ≤ x ∧ x ≤ 3 ∧ 1 ≤ z ∧ z ≤ 6 ∧ 1 ≤ y ∧ y ≤ z := fun x y z e => h.pace r x y z b (by rw [e])
    have el : Ln.law (.road r q b) = .tup [.str "road", .int r, rate q, .int b] := by rcases q with _ | ⟨x, y, z⟩ <;> rfl
    simp [el, str_ne]
    refine W_eMakeK ?_
    simp [make_rate_ok s hs q hq]
    refine W_of_eq e ⟨rfl, _, _, _, rfl, by simp [D.bels, D.bel], ?_⟩
    simp
    exact Post_ret0 (by simp [D.bels, D.bel]) ⟨rfl, rfl⟩
end K63.P
end
section
set_option Elab.async false
set_option linter.all false
/-! P14: crossings and books are made. -/
namespace CL.CP
open PySem
section
variable {Q : D → S → Prop} {P : Bool → S → Prop} {L : List D → S → Prop} {U : Fl → S → Prop} {ρ : List (Option D)} {s : S} {a b c : Ex} {t u : Tx}
def Di (c : Ct) (P : List D → List D → Prop) (_qP : Kp P := ()) : Prop := ∃ ks vs, c = .dic ks vs ∧ P ks vs
@[simp] theorem Di_dic {ks vs : List D} {P : List D → List D → Prop} : Di (.dic ks vs) P ↔ P ks vs := ⟨fun ⟨_, _, e, h⟩ => by cases e; exact h, fun h => ⟨_, _, rfl, h⟩⟩
@[simp] theorem W_sSubD : W (sSubD a b c ρ s) U ↔ W (c ρ s) fun y s => W (a ρ s) fun x s => W (b ρ s) fun z s => Ce x fun k => Sm s[k]? fun ct => Di ct fun ks vs => An (z.keyT = true ∧ ks.length < sizeLine ∧ D.bel 0 y = true) (U (.nx ρ) (s.set k (.dic (dput ks vs z y).1 (dput ks vs z y).2))) := by
  unfold sSubD
  rw [W_b]
  refine W_iff fun y s => W_b.trans (W_iff fun x s => W_b.trans (W_iff fun z s => ?_))
  constructor
  · intro h
    revert h
    split
    · split
      · split
        · rename_i k _ ks vs e hb
          intro h
          exact ⟨k, rfl, _, e, ks, vs, rfl, hb, W_ok.mp h⟩
        · intro h; exact (W_fail.mp h).elim
      · intro h; exact (W_fail.mp h).elim
    · intro h; exact (W_fail.mp h).elim
  · rintro ⟨k, rfl, _, e, ks, vs, rfl, hb, h⟩
    simp only [e, if_pos hb, W_ok]
    exact h
theorem compF_all {α : Type} {g : D → List (Option D) → Option (List (Option D))} (enc : α → D) (f : α → D) (xs : List α)
    (h : ∀ x ∈ xs, ∃ ρ1, g (enc x) ρ = some ρ1 ∧ W (a ρ1 s) fun d s' => d = f x ∧ s' = s) :
    W (compF g tYes a ρ (xs.map enc) s) fun ys s' => ys = xs.map f ∧ s' = s := by
  refine (compF_map enc f (fun _ => true) xs fun x hx => ?_).mono ?_
  · obtain ⟨ρ1, e, h⟩ := h x hx
    exact ⟨ρ1, e, by simp, fun _ => h⟩
  · rintro ys s' ⟨rfl, rfl⟩
    exact ⟨by rw [List.filter_eq_self.mpr (fun _ _ => rfl)], rfl⟩
theorem compR_all {g : D → List (Option D) → Option (List (Option D))} (f : Nat → D) (n : Int) (h0 : 0 ≤ n)
    (h : ∀ i : Nat, (i : Int) < n → ∃ ρ1, g (.int i) ρ = some ρ1 ∧ W (a ρ1 s) fun d s' => d = f i ∧ s' = s) :
    W (compF g tYes a ρ (rangeD 0 n) s) fun ys s' => ys = (List.range n.toNat).map f ∧ s' = s := by
  have e : rangeD 0 n = (List.range n.toNat).map fun i : Nat => D.int (i : Int) := by simp [rangeD]
  rw [e]
  refine compF_all _ f _ fun i hi => h i ?_
  simp at hi
  omega
end
theorem o_inS {s : S} {a : Str} {xs : List Str} : inD s (.str a) (.lst (xs.map .str)) = some (.bl (decide (a ∈ xs))) := by
  have h : (xs.map D.str).all D.key1 = true := by simp [D.key1]
  have e : (D.str a ∈ xs.map D.str) ↔ a ∈ xs := by simp
  simp only [inD, h, D.key1, Bool.and_self, if_true, e]
theorem bolsD_map : ∀ bs : List Bool, bolsD (bs.map .bl) = some bs
  | [] => rfl
  | b :: r => by simp [bolsD, bolsD_map r]
end CL.CP
namespace K63.P
open PySem CL CL.CP
def abc : Str := "abcdefghijklmnopqrstuvwxyz"
theorem is_name_ok (s : S) (z : Str) (h1 : 1 ≤ z.length) (h2 : z.length ≤ 8) (h3 : ∀ c ∈ z.cps.toList, c ∈ abc.cps.toList) : F_is_name [.str z] s = .ok (.bl true) s := by
  refine W_eq (runB_of rfl ?_)
  have sz : (1000 : Nat) ≤ sizeLine := by decide
  have hz : z.length ≤ sizeLine := by omega
  have l1 : (1 : Int) ≤ z.length := by omega
  have l2 : (z.length : Int) ≤ 8 := by omega
  simp [lenD, hz, l1, l2, iStr, wipeE, chrD]
  refine (compF_all (fun c : Nat => D.str ⟨#[c]⟩) (fun _ => .bl true) z.cps.toList ?_).mono ?_
  · intro c hc
    refine ⟨_, Tg_name, ?_⟩
    have hi : ∀ s, inD s (.str ⟨#[c]⟩) (.str abc) = some (.bl true) := by
      intro s
      have := h3 c hc
      have e : inD s (.str ⟨#[c]⟩) (.str abc) = some (.bl (decide (c ∈ abc.cps.toList))) := rfl
      rw [e, decide_eq_true this]
    simp [-Array.mem_toList_iff]
    have hi' := hi s
    simp only [abc] at hi'
    rw [hi']
    simp
  · rintro ys s' ⟨rfl, rfl⟩
    have hb : bolsD (z.cps.toList.map fun _ => D.bl true) = some (z.cps.toList.map fun _ => true) := by
      have := bolsD_map (z.cps.toList.map fun _ => true)
      rw [List.map_map] at this
      exact this
    have ha : allD s' (.lst (z.cps.toList.map fun _ => D.bl true)) = some (.bl true) := by
      simp [allD, lsOf, hb]
    simp only [ha, Sm_some, Nx_ret]
    exact Post_ret0 rfl ⟨rfl, rfl⟩
def sixS : List Str := ["a", "b", "ba", "c", "abc", "zz"]
def nmS (n : Int) : List Str := sixS.take n.toNat
theorem nms_eq {n : Int} (h : 0 ≤ n) : nms n = (nmS n).map .str := by
  obtain ⟨k, rfl⟩ := Int.eq_ofNat_of_zero_le h
  unfold nms nmS cutD
  simp [HT.sIx_none, HT.sIx_nat, six, sixS]
theorem nmS_len {n : Int} (h : 0 ≤ n) (h6 : n ≤ 6) : ((nmS n).length : Int) = n := by
  simp [nmS, sixS]
  omega
theorem sixS_nd : sixS.Nodup := by decide +kernel
theorem sixS_ok : ∀ z ∈ sixS, 1 ≤ z.length ∧ z.length ≤ 8 ∧ ∀ c ∈ z.cps.toList, c ∈ abc.cps.toList := by decide +kernel
theorem check_streams_ok (s : S) {n : Int} (h0 : 1 ≤ n) (h6 : n ≤ 6) : F_check_streams [.lst (nms n)] s = .ok .non s := by
  refine W_eq (runB_of rfl ?_)
  have e := nms_eq (n := n) (by omega)
  have hl := nmS_len (n := n) (by omega) h6
  have sz : (1000 : Nat) ≤ sizeLine := by decide
  have sub : (nmS n).Sublist sixS := List.take_sublist ..
  rw [e]
  have hl1 : (1 : Int) ≤ (nmS n).length := by omega
  have hl2 : ((nmS n).length : Int) ≤ 6 := by omega
  simp [lenD, seqOf, hl1, hl2, iEnum]
  refine W_forEnum (α := Str) .str (fun a b => [some (.lst ((nmS n).map .str)), a, b]) 1 2 (fun _ _ _ _ => by simp) (nmS n) ?_ ?_ none none
  · intro pre x post e
    obtain ⟨z1, z2, z3⟩ := sixS_ok x (sub.subset (by rw [e]; simp))
    have hp : x ∉ pre := by
      intro hm
      have := sixS_nd.sublist sub
      rw [e] at this
      exact (List.nodup_append.mp this).2.2 x hm x (by simp) rfl
    have ec : cutD ((nmS n).map .str) none (some (pre.length : Int)) = pre.map .str := by
      rw [e, List.map_append]
      have := cut_pre (pre.map .str) ((x :: post).map .str)
      simpa using this
    simp [is_name_ok s x z1 z2 z3, ec, o_inS, hp]
    exact ⟨_, _, rfl⟩
  · intro a b
    simp
    exact Post_nx0 ⟨rfl, rfl⟩
/-! the spans -/
structure Sp where
  a : Int
  b : Int
  v : Int
def Sp.key (p : Sp) : D := .tup [.int p.a, .int p.b]
def Sp.val (p : Sp) : D := .int p.v
def spans : List Rv → List Sp
  | [] => []
  | r :: q => ⟨r.a, r.b, r.f⟩ :: ⟨r.b, r.a, r.k⟩ :: spans q
theorem spans_app (p q : List Rv) : spans (p ++ q) = spans p ++ spans q := by
  induction p with
  | nil => rfl
  | cons r p ih => simp [spans, ih]
theorem spans_len : ∀ p : List Rv, (spans p).length = 2 * p.length
  | [] => rfl
  | r :: q => by simp [spans, spans_len q]; omega
def spD (rs : List Rv) : D := .dic ((spans rs).map Sp.key) ((spans rs).map Sp.val)
theorem spD_bel (rs : List Rv) (n : Nat) : D.bels n ((spans rs).map Sp.key) = true ∧ D.bels n ((spans rs).map Sp.val) = true := by
  induction rs with
  | nil => exact ⟨rfl, rfl⟩
  | cons r q ih => simpa [spans, D.bels, Sp.key, Sp.val, D.bel] using ih
theorem key_out {pre : List Rv} {n : Int} {x : Rv} (hp : ∀ r ∈ pre, r.apart x) : Sp.key ⟨x.a, x.b, x.f⟩ ∉ (spans pre).map Sp.key ∧ Sp.key ⟨x.b, x.a, x.k⟩ ∉ (spans pre).map Sp.key := by
  induction pre with
  | nil => simp [spans]
  | cons r q ih =>
    obtain ⟨i1, i2⟩ := ih fun y hy => hp y (List.mem_cons_of_mem _ hy)
    have := hp r (List.mem_cons_self ..)
    unfold Rv.apart at this
    simp only [spans, List.map_cons, List.mem_cons, not_or]
    refine ⟨⟨?_, ?_, i1⟩, ⟨?_, ?_, i2⟩⟩ <;> (simp [Sp.key]; omega)
theorem dfind_none : ∀ {ks vs : List D} {x : D}, x ∉ ks → dfind ks vs x = none
  | [], _, _, _ => by simp [dfind]
  | k :: ks, [], _, _ => by simp [dfind]
  | k :: ks, v :: vs, x, h => by
    simp only [List.mem_cons, not_or] at h
    rw [dfind, if_neg (fun e => h.1 e.symm)]
    exact dfind_none h.2
theorem is_rival_ok (s : S) {n : Int} {x : Rv} (h : x.ok n) : F_is_rival [.int n, x.law] s = .ok (.bl true) s := by
  refine W_eq (runB_of rfl ?_)
  have h1 := h.ne
  have h2 := h.ha
  have h3 := h.hb
  have h4 := h.hf
  have h5 := h.hk
  simp [Rv.law, h1, h2.1, h2.2, h3.1, h3.2, h4.1, h4.2, h5.1, h5.2]
  exact Post_ret0 rfl ⟨rfl, rfl⟩
def SpI (s : S) (n : Int) (rs : List Rv) (rest : List D) (ρ : List (Option D)) (s' : S) : Prop := ∃ pre post x3 x4 x5 x6 x7 x8, rs = pre ++ post ∧ rest = enumD pre.length (post.map Rv.law) ∧
  ρ = [some (.int n), some (.lst (rs.map Rv.law)), some (.cell s.length), x3, x4, x5, x6, x7, x8] ∧ s' = s ++ [.dic ((spans pre).map Sp.key) ((spans pre).map Sp.val)]
theorem rival_spans_ok (s : S) {n : Int} {rs : List Rv} (h : RvsOk n rs) (hl : rs.length ≤ 10000) : F_rival_spans [.int n, .lst (rs.map Rv.law)] s = .ok (spD rs) s := by
  refine W_eq (runB_of rfl ?_)
  have szn : (100000 : Nat) ≤ sizeLine := by decide
  generalize hU : Post s (fun d' s' => d' = spD rs ∧ s' = s) = U
  simp [iEnum]
  refine W_forF (I := SpI s n rs) ?_ ?_ _ _ _ ⟨[], rs, _, _, _, _, _, _, rfl, rfl, rfl, rfl⟩
  · rintro x rest ρ s' ⟨pre, post, x3, x4, x5, x6, x7, x8, e, er, rfl, rfl⟩
    cases post with
    | nil => simp [enumD] at er
    | cons y post =>
      simp only [List.map_cons, enumD, List.cons.injEq] at er
      obtain ⟨rfl, rfl⟩ := er
      refine ⟨_, Tg_tup0.trans (by simp; rfl), ?_⟩
      have hy := h.1 y (by rw [e]; simp)
      have hap : ∀ r ∈ pre, r.apart y := fun r hr => by
        have := h.2
        rw [e] at this
        exact (List.pairwise_append.mp this).2.2 r hr y (by simp)
      obtain ⟨k1, k2⟩ := key_out (n := n) hap
      simp only [Sp.key] at k1 k2
      change _ ∉ (spans pre).map Sp.key at k1
      change _ ∉ (spans pre).map Sp.key at k2
      have hne := hy.ne
      have lsp := spans_len pre
      have lpre : pre.length ≤ rs.length := by rw [e]; simp
      have hri : ∀ s, F_is_rival [.int n, y.law] s = .ok (.bl true) s := fun s => is_rival_ok s hy
      simp only [Rv.law] at hri
      have f1 : dfind ((spans pre).map Sp.key) ((spans pre).map Sp.val) (.tup [.int y.a, .int y.b]) = none := dfind_none k1
      have d1 : dput ((spans pre).map Sp.key) ((spans pre).map Sp.val) (.tup [.int y.a, .int y.b]) (.int y.f) = ((spans pre).map Sp.key ++ [.tup [.int y.a, .int y.b]], (spans pre).map Sp.val ++ [.int y.f]) := by
        unfold dput
        rw [if_neg k1]
      have d2 : dput ((spans pre).map Sp.key ++ [.tup [.int y.a, .int y.b]]) ((spans pre).map Sp.val ++ [.int y.f]) (.tup [.int y.b, .int y.a]) (.int y.k) = ((spans pre).map Sp.key ++ [.tup [.int y.a, .int y.b]] ++ [.tup [.int y.b, .int y.a]], (spans pre).map Sp.val ++ [.int y.f] ++ [.int y.k]) := by
        unfold dput
        rw [if_neg]
        intro hm
        rcases List.mem_append.mp hm with hm | hm
        · exact k2 hm
        · simp at hm
          omega
      have two : 2 ≤ sizeLine := by omega
      have l1 : (spans pre).length < sizeLine := by omega
      have l2 : (spans pre).length + 1 < sizeLine := by omega
      simp [Rv.law, hri, dinD, dicOf, D.keyT, D.key1, f1, two, d1, d2, l1, l2, D.bel]
      exact ⟨pre ++ [y], post, _, _, _, _, _, _, by simp [e], by simp, rfl, by simp [spans_app, spans, Sp.key, Sp.val]⟩
  · rintro ρ s' ⟨pre, post, x3, x4, x5, x6, x7, x8, e, er, rfl, rfl⟩
    cases post with
    | nil =>
      simp at e
      subst e
      simp [Ct.d]
      subst hU
      exact Post_retA (by simpa [D.bel] using spD_bel rs _) ⟨rfl, rfl⟩
    | cons y post => simp [enumD] at er
end K63.P
end
section
set_option Elab.async false
set_option linter.all false
/-! P15: crossings and books are made. -/
namespace CL.CP
open PySem
section
variable {Q : D → S → Prop} {P : Bool → S → Prop} {L : List D → S → Prop} {U : Fl → S → Prop} {ρ : List (Option D)} {s : S} {a b c : Ex} {t u : Tx}
theorem W_eLcI {own : List Nat} {i : Nat} {g : Tg} {ks vs : List D} (hl : look ρ i = some (.dic ks vs)) (h1 : vs.length ≤ sizeLine) (h : W (compF g.set t a (wipeE ρ own) (zipD ks vs) s) fun ys s => Q (.lst ys) s) : W (eLcI own i g t a ρ s) Q := by
  unfold eLcI
  have e : ρ[i]? = some (some (.dic ks vs)) := by
    unfold look at hl
    cases e : ρ[i]? with
    | none => rw [e] at hl; simp at hl
    | some o => rw [e] at hl; simp at hl; rw [hl]
  rw [e]
  simp only [if_pos h1]
  rw [W_b, W_nx]
  exact h.mono fun _ _ h => W_ok.mpr h
end
def mx : List Int → Int
  | [] => 0
  | x :: r => max x (mx r)
theorem mx_nn : ∀ l, 0 ≤ mx l
  | [] => by simp [mx]
  | x :: r => by have := mx_nn r; simp only [mx]; omega
theorem mx_app : ∀ a b, mx (a ++ b) = max (mx a) (mx b)
  | [], b => by have := mx_nn b; simp only [List.nil_append, mx]; omega
  | x :: r, b => by simp only [List.cons_append, mx, mx_app r b]; omega
theorem mx_le {n : Int} (h0 : 0 ≤ n) : ∀ {l : List Int}, (∀ x ∈ l, x ≤ n) → mx l ≤ n
  | [], _ => h0
  | x :: r, h => by
    have := mx_le h0 (l := r) fun y hy => h y (List.mem_cons_of_mem _ hy)
    have := h x (List.mem_cons_self ..)
    simp only [mx]
    omega
theorem foldl_mx : ∀ (l : List Int) (x : Int), 0 ≤ x → l.foldl (fun a b => if b > a then b else a) x = max x (mx l)
  | [], x, h => by simp only [List.foldl_nil, mx]; omega
  | y :: r, x, h => by
    rw [List.foldl_cons, foldl_mx r _ (by split <;> omega)]
    simp only [mx]
    split <;> omega
theorem o_max0 {s : S} {l : List Int} : maxD s (.lst (iDs (0 :: l))) = some (.int (mx l)) := by
  have := foldl_mx l 0 (by omega)
  have h := mx_nn l
  simp only [maxD, lsOf, Option.bind_some, intsD_iDs, maxI, this, Option.map_some]
  congr 2
  omega
theorem o_maxDef {s : S} {l : List Int} (h : ∀ x ∈ l, 0 ≤ x) : maxDefD s (.lst (iDs l)) (.int 0) = some (.int (mx l)) := by
  cases l with
  | nil => rfl
  | cons x r =>
    have := foldl_mx r x (h x (List.mem_cons_self ..))
    simp only [maxDefD, lsOf, Option.bind_some, intsD_iDs, maxI, this, mx]
end CL.CP
namespace K63.P
open PySem CL CL.CP
def reach (rs : List Rv) (st : Int) : Int := mx (((spans rs).filter fun p => decide (p.a = st)).map Sp.v)
theorem reach_law (rs : List Rv) (st : Int) : mx (((rs.filter fun r => decide (r.a = st)).map Rv.f) ++ ((rs.filter fun r => decide (r.b = st)).map Rv.k)) = reach rs st := by
  rw [mx_app]
  induction rs with
  | nil => rfl
  | cons r q ih =>
    unfold reach at *
    simp only [spans, List.filter_cons]
    have := mx_nn (((spans q).filter fun p => decide (p.a = st)).map Sp.v)
    have := mx_nn ((q.filter fun r => decide (r.a = st)).map Rv.f)
    have := mx_nn ((q.filter fun r => decide (r.b = st)).map Rv.k)
    by_cases h1 : r.a = st <;> by_cases h2 : r.b = st <;> simp [h1, h2, mx] <;> omega
theorem spans_mem {n : Int} {rs : List Rv} (h : ∀ r ∈ rs, r.ok n) : ∀ p ∈ spans rs, 0 ≤ p.v ∧ p.v ≤ 9 := by
  induction rs with
  | nil => simp [spans]
  | cons r q ih =>
    have hr := h r (List.mem_cons_self ..)
    have := hr.hf
    have := hr.hk
    intro p hp
    simp only [spans, List.mem_cons] at hp
    rcases hp with rfl | rfl | hp
    · assumption
    · assumption
    · exact ih (fun r hr => h r (List.mem_cons_of_mem _ hr)) p hp
theorem reach_bd {n : Int} {rs : List Rv} (h : ∀ r ∈ rs, r.ok n) (st : Int) : 0 ≤ reach rs st ∧ reach rs st ≤ 9 := by
  refine ⟨mx_nn _, mx_le (by omega) fun x hx => ?_⟩
  obtain ⟨p, hp, rfl⟩ := List.mem_map.mp hx
  exact (spans_mem h p (List.mem_filter.mp hp).1).2
theorem zip_sp : ∀ ps : List Sp, zipD (ps.map Sp.key) (ps.map Sp.val) = ps.map fun p => .tup [p.key, p.val]
  | [] => rfl
  | p :: r => by simp [zipD, zip_sp r]
theorem greatest_span_ok (s : S) {n : Int} {rs : List Rv} (h : RvsOk n rs) (hl : rs.length ≤ 10000) (st : Int) : F_greatest_span [spD rs, .int st] s = .ok (.int (reach rs st)) s := by
  refine W_eq (runB_of rfl ?_)
  have szn : (100000 : Nat) ≤ sizeLine := by decide
  have hls := spans_len rs
  simp
  refine W_eLcI (by simp [spD]; exact ⟨rfl, rfl⟩) (by simp; omega) ?_
  rw [zip_sp]
  simp [wipeE]
  refine (compF_map (fun p : Sp => .tup [p.key, p.val]) Sp.val (fun p => decide (p.a = st)) (spans rs) ?_).mono ?_
  · intro p hp
    refine ⟨_, Tg_tup0.trans (by simp; rfl), ?_, ?_⟩
    · simp [Sp.key]
    · intro _
      simp
  · rintro ys s' ⟨rfl, rfl⟩
    have e : ((spans rs).filter fun p => decide (p.a = st)).map Sp.val = iDs (((spans rs).filter fun p => decide (p.a = st)).map Sp.v) := by
      simp [iDs, Sp.val]
    have := o_maxDef (s := s') (l := ((spans rs).filter fun p => decide (p.a = st)).map Sp.v) (by
      intro x hx
      obtain ⟨p, hp, rfl⟩ := List.mem_map.mp hx
      exact (spans_mem h.1 p (List.mem_filter.mp hp).1).1)
    rw [e]
    simp only [W_eC]
    rw [this]
    simp
    exact Post_ret0 rfl ⟨rfl, rfl⟩
def crV (n : Int) (rs : List Rv) : List D := [.tup (nms n), .tup (rs.map Rv.law), spD rs, .tup ((List.range n.toNat).map fun i : Nat => .int (reach rs i))]
def crO (n : Int) (rs : List Rv) : D := .obj 1 [5, 6, 7, 8] (crV n rs)
theorem ints_bel {α : Type} (f : α → Int) (n : Nat) : ∀ l : List α, D.bels n (l.map fun i => .int (f i)) = true
  | [] => rfl
  | x :: r => by simp [D.bels, D.bel, ints_bel f n r]
theorem crV_bel (n : Int) (rs : List Rv) (k : Nat) : D.bels k (crV n rs) = true := by
  simp [crV, D.bels, D.bel, nms_bel, spD, spD_bel]
  exact ints_bel (fun i : Nat => reach rs i) k _
theorem crossing_init_ok (s : S) (hs : Clo s) {n : Int} {rs : List Rv} (h : RvsOk n rs) (hl : rs.length ≤ 10000) (h0 : 1 ≤ n) (h6 : n ≤ 6) :
    F_Crossing_init [.cell s.length, .lst (nms n), .lst (rs.map Rv.law)] (s ++ [.obj 1 [] []]) = .ok .non (s ++ [.obj 1 [5, 6, 7, 8] (crV n rs)]) := by
  refine W_eq (runB_of rfl ?_)
  have szi : (100000 : Int) ≤ sizeLine := by decide
  have hn : ((nms n).length : Int) = n := by rw [nms_eq (by omega), List.length_map, nmS_len (by omega) h6]
  have c1 : ∀ s, F_check_streams [.lst (nms n)] s = .ok .non s := fun s => check_streams_ok s h0 h6
  have c2 : ∀ s, F_rival_spans [.int n, .lst (rs.map Rv.law)] s = .ok (spD rs) s := fun s => rival_spans_ok s h hl
  have b1 := nms_bel (s.length) n
  have b2 : D.bel s.length (spD rs) = true := by simpa [spD, D.bel] using spD_bel rs _
  simp [c1, c2, hn, fput, D.bel, b1, wipeE]
  refine (compF_all Rv.law Rv.law rs ?_).mono ?_
  · intro x hx
    refine ⟨_, Tg_name, ?_⟩
    simp [Rv.law]
  rintro ys s' ⟨rfl, rfl⟩
  simp [hn, fput, D.bel, b1, b2, wipeE]
  refine ⟨⟨by omega, by omega⟩, ?_⟩
  refine (compR_all (fun i : Nat => .int (reach rs i)) n (by omega) ?_).mono ?_
  · intro i hi
    refine ⟨_, Tg_name, ?_⟩
    simp [greatest_span_ok _ h hl]
  rintro ys s' ⟨rfl, rfl⟩
  have b3 := ints_bel (fun i : Nat => reach rs i) s.length (List.range n.toNat)
  simp [fput, D.bel, b3]
  exact Post_init hs (crV_bel n rs _) ⟨rfl, rfl⟩
end K63.P
end
section
set_option Elab.async false
set_option linter.all false
/-! P16: books are made. -/
namespace K63.P
open PySem CL CL.CP
section
variable {s : S} {p : Ph} {n : Int} {rs : List Rv}
@[simp] theorem ph13 : fldD 13 s p.obj = some (.tup (iDs p.green)) := rfl
@[simp] theorem ph14 : fldD 14 s p.obj = some (.int p.lo) := rfl
@[simp] theorem ph15 : fldD 15 s p.obj = some (.int p.up) := rfl
@[simp] theorem ph16 : fldD 16 s p.obj = some (.int p.calm) := rfl
@[simp] theorem ph17 : fldD 17 s p.obj = some (.tup (iDs p.grips)) := rfl
@[simp] theorem ph18 : fldD 18 s p.obj = some (.tup (iDs p.calls)) := rfl
@[simp] theorem ph19 : fldD 19 s p.obj = some (.bl p.gives) := rfl
@[simp] theorem cr5 : fldD 5 s (crO n rs) = some (.tup (nms n)) := rfl
@[simp] theorem cr8 : fldD 8 s (crO n rs) = some (.tup ((List.range n.toNat).map fun i : Nat => .int (reach rs i))) := rfl
@[simp] theorem crC : clsOf s (crO n rs) = some 1 := rfl
end
theorem str_len : ∀ (xs : List Int) (lo n : Int), xs.Pairwise (· < ·) → (∀ x ∈ xs, lo ≤ x ∧ x < n) → lo ≤ n → (xs.length : Int) ≤ n - lo
  | [], lo, n, _, _, h => by simp; omega
  | x :: r, lo, n, hp, hx, h => by
    have h2 := List.pairwise_cons.mp hp
    have h3 := hx x (List.mem_cons_self ..)
    have ih := str_len r (x + 1) n h2.2 (fun y hy => ⟨by have := h2.1 y hy; omega, (hx y (List.mem_cons_of_mem _ hy)).2⟩) (by omega)
    simp only [List.length_cons]
    omega
theorem isStr.len {n : Int} {xs : List Int} (h : isStr n xs) (hn : 0 ≤ n) : (xs.length : Int) ≤ n := by
  have := str_len xs 0 n h.1 h.2 hn
  omega
theorem clen_ok (s : S) {n : Int} {rs : List Rv} (h0 : 1 ≤ n) (h6 : n ≤ 6) : F_Crossing_len [crO n rs] s = .ok (.int n) s := by
  refine W_eq (runB_of rfl ?_)
  have hn : ((nms n).length : Int) = n := by rw [nms_eq (by omega), List.length_map, nmS_len (by omega) h6]
  simp [hn]
  exact Post_ret0 rfl ⟨rfl, rfl⟩
theorem is_main_ok (s : S) {p : Ph} {n T : Int} (h : p.ok n T false) : F_is_main [p.obj] s = .ok (.bl true) s := by
  refine W_eq (runB_of rfl ?_)
  obtain ⟨h1, h2, h3, h4⟩ := h.main rfl
  simp [h1, h2, h3, h4, iDs]
  exact Post_ret0 rfl ⟨rfl, rfl⟩
theorem has_stranger_ok (s : S) {p : Ph} {n T : Int} {side : Bool} (h : p.ok n T side) (h0 : 0 ≤ n) (h6 : n ≤ 6) : F_has_stranger [p.obj, .int n] s = .ok (.bl false) s := by
  refine W_eq (runB_of rfl ?_)
  have sz : (100 : Nat) ≤ sizeLine := by decide
  have l1 := h.green.len h0
  have l2 := h.grips.len h0
  have l3 := h.calls.len h0
  have a1 : p.green.length + p.grips.length ≤ sizeLine := by omega
  have a2 : p.green.length + p.grips.length + p.calls.length ≤ sizeLine := by omega
  have a3 : p.green.length + (p.grips.length + p.calls.length) ≤ sizeLine := by omega
  have e : ∀ s, addD s (.tup (iDs p.green)) (.tup (iDs p.grips)) = some (.tup (iDs (p.green ++ p.grips))) := fun s => by simp [addD, a1, iDs]
  have e2 : ∀ s, addD s (.tup (iDs (p.green ++ p.grips))) (.tup (iDs p.calls)) = some (.tup (iDs (p.green ++ p.grips ++ p.calls))) := fun s => by simp [addD, a2, a3, iDs]
  simp only [W_sSeq, W_sFor, W_iLst, W_e2, W_e1, W_eVar, env_cons, env_succ, env_nil, look_zero, look_succ, Sm_some, ph13, ph17, ph18, e, e2, l_tup, Nat.reduceSub]
  refine W_forLst (α := Int) .int (fun a => [some p.obj, some (.int n), a]) 2 (fun _ _ => by simp) (p.green ++ p.grips ++ p.calls) ?_ ?_ none
  · intro x hx
    have : x < n := by
      rcases List.mem_append.mp hx with hx | hx
      · rcases List.mem_append.mp hx with hx | hx
        · exact (h.green.2 x hx).2
        · exact (h.grips.2 x hx).2
      · exact (h.calls.2 x hx).2
    have h' : ¬ n ≤ x := by omega
    simp [h']
    exact ⟨_, rfl⟩
  · intro a
    simp
    exact Post_ret0 rfl ⟨rfl, rfl⟩
def BnI (s0 : S) (m : Ph) (rest : List Ph) (r : List D) (ρ : List (Option D)) (s : S) : Prop := ∃ pre post x3, rest = pre ++ post ∧ r = post.map Ph.obj ∧ ρ = [some m.obj, some (.lst (rest.map Ph.obj)), some (.int (m.lo + m.calm + need pre)), x3] ∧ s = s0
theorem beats_needed_ok (s : S) (m : Ph) (rest : List Ph) : F_beats_needed [m.obj, .lst (rest.map Ph.obj)] s = .ok (.int (m.lo + m.calm + need rest)) s := by
  refine W_eq (runB_of rfl ?_)
  simp [-W_sSeq]
  rw [W_sSeq]
  simp [-W_sSeq]
  rw [W_sSeq]
  simp [-W_sSeq]
  refine W_forF (I := BnI s m rest) ?_ ?_ _ _ _ ⟨[], rest, none, rfl, rfl, by simp [need], rfl⟩
  · rintro x r ρ s' ⟨pre, post, x3, e, er, rfl, rfl⟩
    cases post with
    | nil => simp at er
    | cons y post =>
      simp only [List.map_cons, List.cons.injEq] at er
      obtain ⟨rfl, rfl⟩ := er
      refine ⟨_, Tg_name, ?_⟩
      simp
      have en : m.lo + m.calm + need pre + y.up + y.calm = m.lo + m.calm + need (pre ++ [y]) := by rw [need_app]; omega
      rw [en]
      exact ⟨pre ++ [y], post, _, by simp [e], rfl, rfl, rfl⟩
  · rintro ρ s' ⟨pre, post, x3, e, er, rfl, rfl⟩
    cases post with
    | nil =>
      simp at e
      subst e
      simp
      exact Post_ret0 rfl ⟨rfl, rfl⟩
    | cons y post => simp at er
theorem check_book_ok (s : S) {n T : Int} {rs : List Rv} {m : Ph} {rest : List Ph} (h : Phs n T m rest) (h0 : 1 ≤ n) (h6 : n ≤ 6) (hT1 : 2 ≤ T) (hT2 : T ≤ 12) (hr : rest.length ≤ 11) :
    F_check_book [crO n rs, .int T, m.obj, .lst (rest.map Ph.obj)] s = .ok .non s := by
  refine W_eq (runB_of rfl ?_)
  have sz : (100 : Nat) ≤ sizeLine := by decide
  have a1 : ¬ (12 : Int) < rest.length := by omega
  have a2 : rest.length + 1 ≤ sizeLine := by omega
  have a3 := h.fit
  have a4 : ¬ T < m.lo + m.calm + need rest := by omega
  simp [hT1, hT2, a1, is_main_ok s h.main, a2, iEnum]
  have e : m.obj :: rest.map Ph.obj = (m :: rest).map Ph.obj := rfl
  rw [e]
  refine W_forEnum Ph.obj (fun a b => [some (crO n rs), some (.int T), some m.obj, some (.lst (rest.map Ph.obj)), a, b]) 4 5 (fun _ _ _ _ => by simp) (m :: rest) ?_ ?_ none none
  · intro pre x post ex
    have hx : ∃ side, x.ok n T side := by
      have : x ∈ m :: rest := by rw [ex]; simp
      rcases List.mem_cons.mp this with rfl | hx
      · exact ⟨_, h.main⟩
      · exact ⟨_, h.side x hx⟩
    obtain ⟨side, hx⟩ := hx
    have n63 : n < 9223372036854775808 := by omega
    have n0 : 0 ≤ n := by omega
    simp [clen_ok s h0 h6, has_stranger_ok s hx (by omega) h6, n63, n0]
    exact ⟨_, _, rfl⟩
  · intro a b
    simp [beats_needed_ok, a4]
    exact Post_nx0 ⟨rfl, rfl⟩
def bkV (n T : Int) (rs : List Rv) (m : Ph) (rest : List Ph) : List D := [crO n rs, .int T, m.obj, .tup (rest.map Ph.obj), .tup ((m :: rest).map Ph.obj)]
def bkO (n T : Int) (rs : List Rv) (m : Ph) (rest : List Ph) : D := .obj 0 [0, 1, 2, 3, 4] (bkV n T rs m rest)
@[simp] theorem phO_bel (n : Nat) : ∀ (ps : List Ph), D.bels n (ps.map Ph.obj) = true
  | [] => rfl
  | p :: r => by simp [D.bels, phO_bel n r]
@[simp] theorem crO_bel (n : Int) (rs : List Rv) (k : Nat) : (crO n rs).bel k = true := crV_bel n rs k
theorem bkV_bel (n T : Int) (rs : List Rv) (m : Ph) (rest : List Ph) (k : Nat) : D.bels k (bkV n T rs m rest) = true := by
  simp [bkV, D.bels, D.bel]
@[simp] theorem bkO_bel (n T : Int) (rs : List Rv) (m : Ph) (rest : List Ph) (k : Nat) : (bkO n T rs m rest).bel k = true := bkV_bel n T rs m rest k
theorem book_init_ok (s : S) (hs : Clo s) {n T : Int} {rs : List Rv} {m : Ph} {rest : List Ph} (h : Phs n T m rest) (h0 : 1 ≤ n) (h6 : n ≤ 6) (hT1 : 2 ≤ T) (hT2 : T ≤ 12) (hr : rest.length ≤ 11) :
    F_Book_init [.cell s.length, crO n rs, .int T, m.obj, .lst (rest.map Ph.obj)] (s ++ [.obj 0 [] []]) = .ok .non (s ++ [.obj 0 [0, 1, 2, 3, 4] (bkV n T rs m rest)]) := by
  refine W_eq (runB_of rfl ?_)
  have sz : (100 : Nat) ≤ sizeLine := by decide
  have a2 : rest.length + 1 ≤ sizeLine := by omega
  simp [check_book_ok _ h h0 h6 hT1 hT2 hr, fput, D.bel, D.bels, a2]
  exact Post_init hs (bkV_bel n T rs m rest _) ⟨rfl, rfl⟩
theorem make_book_ok (s : S) (hs : Clo s) {T sp : Int} {x : Si} (h : x.ok T sp) (hT1 : 2 ≤ T) (hT2 : T ≤ 12) (hl : x.rivals.length ≤ 10000) :
    F_law_make_book [x.law, .int T] s = .ok (bkO x.n T x.rivals x.m x.rest) s := by
  refine W_eq (runB_of rfl ?_)
  simp [si_at2, lawPhs, wipeE, -List.map_cons]
  refine (compF_all Ph.law Ph.obj (x.m :: x.rest) ?_).mono ?_
  · intro p hp
    have hx : ∃ side, p.ok x.n T side := by
      rcases List.mem_cons.mp hp with rfl | hx
      · exact ⟨_, h.phs.main⟩
      · exact ⟨_, h.phs.side _ hx⟩
    obtain ⟨side, hx⟩ := hx
    refine ⟨_, Tg_name, ?_⟩
    simp [make_phase_ok s hs p hx h.n.2 hT2]
  · rintro ys s' ⟨rfl, rfl⟩
    simp
    refine W_eMake ?_
    simp
    refine W_eMake ?_
    simp [si_at0, si_at1]
    refine W_of_eq (crossing_init_ok s' hs h.rivals hl h.n.1 h.n.2) ⟨rfl, _, _, _, rfl, crV_bel .., ?_⟩
    simp [cut_tail]
    refine W_of_eq (book_init_ok s' hs h.phs h.n.1 h.n.2 hT1 hT2 h.few) ⟨rfl, _, _, _, rfl, bkV_bel .., ?_⟩
    simp
    exact Post_ret0 (bkV_bel ..) ⟨rfl, rfl⟩
end K63.P
end
section
set_option Elab.async false
set_option linter.all false
/-! P17: sites and streets are made. -/
namespace CL.CP
open PySem
section
variable {Q : D → S → Prop} {P : Bool → S → Prop} {L : List D → S → Prop} {U : Fl → S → Prop} {ρ : List (Option D)} {s : S} {a b c : Ex} {t u : Tx} {I J : Ix}
@[simp] theorem W_iEnum : W (iEnum a ρ s) L ↔ W (a ρ s) fun x s => Sm (lstOf x) fun xs => L (enumD 0 xs) s := by
  simp only [iEnum, W_b]
  constructor <;> refine fun h => h.mono fun x s h => ?_
  · revert h
    split <;> simp [lstOf]
  · obtain ⟨xs, e, h⟩ := h
    cases x <;> simp [lstOf] at e <;> subst e <;> simpa using h
theorem compF2_map {α : Type} {g : D → List (Option D) → Option (List (Option D))} {inner : Env → S → R (List D)} (enc : α → D) (f : α → List D) : ∀ (xs : List α),
    (∀ x ∈ xs, ∃ ρ1, g (enc x) ρ = some ρ1 ∧ W (inner ρ1 s) fun ys s' => ys = f x ∧ s' = s) →
    W (compF2 g inner ρ (xs.map enc) s) fun ys s' => ys = (xs.map f).flatten ∧ s' = s
  | [], _ => W_ok.mpr ⟨rfl, rfl⟩
  | x :: r, h => by
    obtain ⟨ρ1, e, he⟩ := h x (List.mem_cons_self ..)
    have ih := compF2_map enc f r fun y hy => h y (List.mem_cons_of_mem _ hy)
    simp only [List.map_cons, compF2, e, W_b, W_nx]
    refine he.mono fun k s' hk => ?_
    obtain ⟨rfl, rfl⟩ := hk
    refine W_b.mpr (ih.mono fun ys s' hy => ?_)
    obtain ⟨rfl, rfl⟩ := hy
    exact W_ok.mpr ⟨rfl, rfl⟩
@[simp] theorem W_eLc2 {own own1 : List Nat} {g g1 : Tg} : W (eLc2 own I g own1 J g1 a ρ s) Q ↔ W (I ρ s) fun xs s => W (compF2 g.set (fun ρ1 s => (J ρ1 s).b fun ys s => compF g1.set tYes a (wipeE ρ1 own1) ys s) (wipeE ρ own) xs s) fun ys s => An (ys.length ≤ sizeLine) (Q (.lst ys) s) := by
  unfold eLc2
  rw [W_b]
  refine W_iff fun x s => W_b.trans (W_iff fun ys s => ?_)
  by_cases hc : ys.length ≤ sizeLine
  · rw [if_pos hc]
    simp [hc]
  · rw [if_neg hc]
    simp [hc, An]
end
/-- a list or a tuple -/
def sq (b : Bool) (xs : List D) : D := match b with
  | true => .tup xs
  | false => .lst xs
section
variable {s : S} {b : Bool} {xs : List D}
@[simp] theorem sq_len : lenD s (sq b xs) = some (.int xs.length) := by cases b <;> rfl
@[simp] theorem sq_ix {n : Int} : ixD s (sq b xs) (.int n) = L2.atI xs n := by cases b <;> rfl
@[simp] theorem sq_lst : lstOf (sq b xs) = some xs := by cases b <;> rfl
@[simp] theorem sq_sl {l h : Option Int} : slD s (sq b xs) l h = some (sq b (cutD xs l h)) := by cases b <;> rfl
@[simp] theorem sq_tup : tupleD s (sq b xs) = some (.tup xs) := by cases b <;> rfl
end
def Ft (o : Option Nat) (P : Bool → Prop) (_qP : Kp P := ()) : Prop := (o = some 2 ∧ P true) ∨ (o = some 3 ∧ P false)
@[simp] theorem Ft_2 {P : Bool → Prop} : Ft (some 2) P ↔ P true := by simp [Ft]
@[simp] theorem Ft_3 {P : Bool → Prop} : Ft (some 3) P ↔ P false := by simp [Ft]
end CL.CP
namespace K63.P
open PySem CL CL.CP
theorem foot2 (s : S) (x : D) : F_Foot_foot [x] s = .ok (.bl true) s := by
  refine W_eq (runB_of rfl ?_)
  simp
  exact Post_ret0 rfl ⟨rfl, rfl⟩
theorem foot3 (s : S) (x : D) : F_Road_foot [x] s = .ok (.bl false) s := by
  refine W_eq (runB_of rfl ?_)
  simp
  exact Post_ret0 rfl ⟨rfl, rfl⟩
@[simp] theorem W_foot {a : Ex} {ρ : List (Option D)} {s : S} {Q : D → S → Prop} : W (eAlt (eProp 2 F_Foot_foot a) (eProp 3 F_Road_foot a) ρ s) Q ↔ W (a ρ s) fun x s => Ft (clsOf s x) (fun k => Q (.bl k) s) := by
  unfold eAlt eProp Ft
  cases e : a ρ s with
  | fail => simp
  | exc x s => simp
  | ok x s' =>
    simp only [R.b_ok, W_ok, foot2, foot3]
    by_cases h2 : clsOf s' x = some 2
    · simp [h2]
    · by_cases h3 : clsOf s' x = some 3
      · simp [h3]
      · simp [h2, h3]
def Ln.isF : Ln → Bool
  | .foot _ => true
  | .road _ _ _ => false
@[simp] theorem Ln.cls (s : S) (l : Ln) : clsOf s l.obj = some l.cl := rfl
@[simp] theorem Ft_cl {l : Ln} {P : Bool → Prop} : Ft (some l.cl) P ↔ P l.isF := by cases l <;> simp [Ln.cl, Ln.isF]
@[simp] theorem bkCr {s : S} {n T : Int} {rs : List Rv} {m : Ph} {rest : List Ph} : fldD 0 s (bkO n T rs m rest) = some (crO n rs) := rfl
@[simp] theorem bk1 {s : S} {n T : Int} {rs : List Rv} {m : Ph} {rest : List Ph} : fldD 1 s (bkO n T rs m rest) = some (.int T) := rfl
@[simp] theorem bk4 {s : S} {n T : Int} {rs : List Rv} {m : Ph} {rest : List Ph} : fldD 4 s (bkO n T rs m rest) = some (.tup ((m :: rest).map Ph.obj)) := rfl
@[simp] theorem bkC {s : S} {n T : Int} {rs : List Rv} {m : Ph} {rest : List Ph} : clsOf s (bkO n T rs m rest) = some 0 := rfl
@[simp] theorem lnO_bel (n : Nat) : ∀ (ps : List Ln), D.bels n (ps.map Ln.obj) = true
  | [] => rfl
  | p :: r => by simp [D.bels, lnO_bel n r]
def siV (T : Int) (x : Si) : List D := [bkO x.n T x.rivals x.m x.rest, .tup (x.lanes.map Ln.obj)]
def siO (T : Int) (x : Si) : D := .obj 6 [23, 24] (siV T x)
theorem siV_bel (T : Int) (x : Si) (k : Nat) : D.bels k (siV T x) = true := by simp [siV, D.bels, D.bel]
@[simp] theorem siO_bel (T : Int) (x : Si) (k : Nat) : (siO T x).bel k = true := siV_bel T x k
@[simp] theorem si23 {s : S} {T : Int} {x : Si} : fldD 23 s (siO T x) = some (bkO x.n T x.rivals x.m x.rest) := rfl
@[simp] theorem si24 {s : S} {T : Int} {x : Si} : fldD 24 s (siO T x) = some (.tup (x.lanes.map Ln.obj)) := rfl
theorem enum_zip {α : Type} (f : α → D) : ∀ (k : Nat) (l : List α), enumD k (l.map f) = (l.zipIdx k).map fun p => .tup [.int p.2, f p.1]
  | _, [] => rfl
  | k, x :: r => by simp [enumD, enum_zip f (k + 1) r]
theorem zip_filter {α : Type} (f : α → Bool) : ∀ (k : Nat) (l : List α), ((l.zipIdx k).filter fun p => f p.1).length = (l.filter f).length
  | _, [] => rfl
  | k, x :: r => by
    simp only [List.zipIdx_cons, List.filter_cons]
    split <;> simp [zip_filter f (k + 1) r]
theorem bus_ok (s : S) (ls : List Ln) (hok : ∀ p ∈ ls, ∃ sp c, Ln.ok sp c p) : ∃ ys, F_bus_streams [.lst (ls.map Ln.obj)] s = .ok (.lst ys) s ∧ ys.length = (ls.filter Ln.bus).length := by
  refine ⟨((ls.zipIdx 0).filter fun p => p.1.bus).map fun p => .int p.2, ?_, ?_⟩
  · refine W_eq (runB_of rfl ?_)
    simp [wipeE, enum_zip]
    refine (compF_map (fun p : Ln × Nat => .tup [.int p.2, p.1.obj]) (fun p => .int p.2) (fun p => p.1.bus) _ ?_).mono ?_
    · rintro ⟨p, i⟩ hp
      refine ⟨_, Tg_tup0.trans (by simp; rfl), ?_, ?_⟩
      · obtain ⟨sp, c, h⟩ := hok p (by have := List.mem_zipIdx hp; simp at this; obtain ⟨_, e⟩ := this; rw [e]; exact List.getElem_mem _)
        rcases p with b | ⟨r, q, b⟩
        · simp [Ln.isF, Ln.bus]
        · have e12 : ∀ s, fldD 12 s (Ln.obj (.road r q b)) = some (.int b) := fun s => rfl
          have := (h.road r q b rfl).2.2.1
          simp [Ln.isF, Ln.bus, e12]
          rw [Bool.eq_iff_iff]
          simp
          omega
      · intro _
        simp
    · rintro ys s' ⟨rfl, rfl⟩
      simp
      exact Post_ret0 (ints_bel (fun p : Ln × Nat => (p.2 : Int)) _ _) ⟨rfl, rfl⟩
  · rw [List.length_map, zip_filter]
end K63.P
end
section
set_option Elab.async false
set_option linter.all false
/-! P18: what a town asks of its parts. -/
namespace K63.P
open PySem CL CL.CP
theorem eq_pr {s : S} {p q : Pr} : eqD s p.law q.law = some (.bl (decide (p = q))) := by
  obtain ⟨a, b⟩ := p
  obtain ⟨c, d⟩ := q
  have e1 : ∀ a b : Int, SeqAt.shaped (.tuple [.int a, .int b]) = true := fun a b => by
    simp [SeqAt.shaped, PyData.canLay0, PyData.canLayAll0, PyData.depth, PyData.depthAll]
  simp [eqD, eqB, Pr.law, scalD, toPy, toPys, e1, PyData.eqv, PyData.eqvAll]
  by_cases h1 : a = c <;> by_cases h2 : b = d <;> simp [h1, h2]
theorem make_site_ok (s : S) (hs : Clo s) {T sp : Int} {x : Si} (h : x.ok T sp) (hT1 : 2 ≤ T) (hT2 : T ≤ 12) (hl : x.rivals.length ≤ 10000) : F_law_make_site [x.law, .int T] s = .ok (siO T x) s := by
  refine W_eq (runB_of rfl ?_)
  simp [si_at3, wipeE]
  refine (compF_all Ln.law Ln.obj x.lanes ?_).mono ?_
  · intro p hp
    refine ⟨_, Tg_name, ?_⟩
    obtain ⟨sp, c, hp⟩ := h.lanes p hp
    simp [make_lane_ok s hs p hp]
  rintro ys s' ⟨rfl, rfl⟩
  simp
  refine W_eMake ?_
  simp [make_book_ok s' hs h hT1 hT2 hl]
  have e : F_Site_init [.cell s'.length, bkO x.n T x.rivals x.m x.rest, .lst (x.lanes.map Ln.obj)] (s' ++ [.obj 6 [] []]) = .ok .non (s' ++ [.obj 6 [23, 24] (siV T x)]) := by
    refine W_eq (runB_of rfl ?_)
    have hn := h.n
    have hlen := h.len
    obtain ⟨ys, hb, hbl⟩ := bus_ok (s' ++ [.obj 6 [] []]) x.lanes h.lanes
    have n63 : x.n < 9223372036854775808 := by omega
    have n0 : 0 ≤ x.n := by omega
    have hb1 := h.bus
    have b1 : ¬ (1 : Int) < ys.length := by omega
    simp [clen_ok _ hn.1 hn.2, n63, n0, hlen, hb, b1, fput, D.bel]
    exact Post_init hs (siV_bel T x _) ⟨rfl, rfl⟩
  refine W_of_eq e ⟨rfl, _, _, _, rfl, siV_bel T x _, ?_⟩
  simp
  exact Post_ret0 (siV_bel T x _) ⟨rfl, rfl⟩
def stV (x : St) : List D := [x.a.law, x.b.law, .int x.t]
def stO (x : St) : D := .obj 7 [25, 26, 27] (stV x)
theorem stV_bel (x : St) (k : Nat) : D.bels k (stV x) = true := by simp [stV, D.bels, D.bel]
@[simp] theorem stO_bel (x : St) (k : Nat) : (stO x).bel k = true := stV_bel x k
@[simp] theorem stOs_bel (n : Nat) : ∀ (ps : List St), D.bels n (ps.map stO) = true
  | [] => rfl
  | p :: r => by simp [D.bels, stOs_bel n r]
@[simp] theorem siOs_bel (T : Int) (n : Nat) : ∀ (ps : List Si), D.bels n (ps.map (siO T)) = true
  | [] => rfl
  | p :: r => by simp [D.bels, siOs_bel T n r]
@[simp] theorem st25 {s : S} {x : St} : fldD 25 s (stO x) = some x.a.law := rfl
@[simp] theorem st26 {s : S} {x : St} : fldD 26 s (stO x) = some x.b.law := rfl
@[simp] theorem st27 {s : S} {x : St} : fldD 27 s (stO x) = some (.int x.t) := rfl
theorem street_init_ok (s : S) (hs : Clo s) {sis : List Si} {x : St} (h : x.ok sis) : F_Street_init [.cell s.length, x.a.law, x.b.law, .int x.t] (s ++ [.obj 7 [] []]) = .ok .non (s ++ [.obj 7 [25, 26, 27] (stV x)]) := by
  refine W_eq (runB_of rfl ?_)
  have := h.t
  have ea : ∀ (s : S) (p : Pr), tupleD s p.law = some p.law := fun s p => rfl
  simp [this.1, this.2, ea, fput]
  simp [D.bel]
  exact Post_init hs (stV_bel x _) ⟨rfl, rfl⟩
theorem is_source_ok (s : S) (l : Ln) : F_is_source [l.obj] s = .ok (.bl l.src) s := by
  refine W_eq (runB_of rfl ?_)
  rcases l with b | ⟨r, q, b⟩
  · simp [Ln.isF, Ln.src]
    exact Post_ret0 rfl ⟨rfl, rfl⟩
  · have e11 : ∀ s, fldD 11 s (Ln.obj (.road r q b)) = some (rateO q) := fun s => rfl
    simp [Ln.isF, Ln.src, e11]
    have : (!decide (rateO q = .non)) = q.isSome := by rcases q with _ | ⟨x, y, z⟩ <;> simp [rateO]
    rw [this]
    exact Post_ret0 rfl ⟨rfl, rfl⟩
variable {c : Bool}
theorem check_sites_ok (s : S) {T : Int} {sis : List Si} (h1 : 1 ≤ sis.length) (h4 : sis.length ≤ 4) : F_check_sites [sq c (sis.map (siO T))] s = .ok .non s := by
  refine W_eq (runB_of rfl ?_)
  have a1 : (1 : Int) ≤ sis.length := by omega
  have a2 : (sis.length : Int) ≤ 4 := by omega
  obtain ⟨x0, r0, e0⟩ : ∃ x r, sis = x :: r := by
    cases sis with
    | nil => simp at h1
    | cons x r => exact ⟨x, r, rfl⟩
  simp [a1, a2]
  refine W_forEnum (siO T) (fun a b => [some (sq c (sis.map (siO T))), a, b]) 1 2 (fun _ _ _ _ => by simp) sis ?_ ?_ none none
  · intro pre x post ex
    simp [e0]
    exact ⟨_, _, rfl⟩
  · intro a b
    simp
    exact Post_nx0 ⟨rfl, rfl⟩
theorem check_offsets_ok (s : S) {T : Int} {os : List Int} {n : Nat} (hl : os.length = n) (hn : n ≤ 1000) (ho : ∀ o ∈ os, 0 ≤ o ∧ o < T) : F_check_offsets [.lst (iDs os), .int n, .int T] s = .ok .non s := by
  refine W_eq (runB_of rfl ?_)
  have szi : (100000 : Int) ≤ sizeLine := by decide
  have em : ∀ s, max2D s (.int (os.length : Int)) (.int (n : Int)) = some (.int n) := fun s => by simp [max2D, hl]
  simp [em, -List.length_map]
  refine ⟨by omega, ?_⟩
  refine W_forR (I := fun k ρ s' => 0 ≤ k ∧ E1 (fun x => [some (.lst (iDs os)), some (.int n), some (.int T), x]) ρ ∧ s' = s) n ?_ ?_ n 0 _ _ (by omega) (by omega) ⟨by omega, ⟨none, rfl⟩, rfl⟩
  · rintro k ρ s' hk ⟨hk0, ⟨x, rfl⟩, rfl⟩
    refine ⟨_, Tg_name, ?_⟩
    have hkl : k.toNat < os.length := by omega
    have e1 : os[k.toNat]? = some os[k.toNat] := List.getElem?_eq_getElem hkl
    have h := ho _ (List.getElem_mem hkl)
    have a1 : ¬ (n : Int) ≤ k := by omega
    have a2 : ¬ (os.length : Int) ≤ k := by omega
    have e2 : (iDs os)[k.toNat]? = some (.int os[k.toNat]) := by simp [iDs, e1]
    simp [a1, a2, atI_nn hk0, e2, h.1, h.2]
    exact ⟨by omega, _, rfl⟩
  · rintro ρ s' ⟨_, ⟨x, rfl⟩, rfl⟩
    simp
    exact Post_nx0 ⟨rfl, rfl⟩
def CsI (s0 : S) (T : Int) (sis : List Si) (r : List D) (ρ : List (Option D)) (s : S) : Prop := ∃ pre post x2 x3, sis = pre ++ post ∧ r = post.map (siO T) ∧ ρ = [some (sq c (sis.map (siO T))), some (.int (srcT pre)), x2, x3] ∧ s = s0
def CsJ (s0 : S) (T : Int) (sis : List Si) (y : Si) (n0 : Nat) (r : List D) (ρ : List (Option D)) (s : S) : Prop := ∃ pre post x3, y.lanes = pre ++ post ∧ r = post.map Ln.obj ∧ ρ = [some (sq c (sis.map (siO T))), some (.int (n0 + srcs pre : Nat)), some (siO T y), x3] ∧ s = s0
theorem check_sources_ok (s : S) {T : Int} {sis : List Si} (h : srcT sis ≤ 6) : F_check_sources [sq c (sis.map (siO T))] s = .ok .non s := by
  refine W_eq (runB_of rfl ?_)
  simp [-W_sSeq]
  rw [W_sSeq]
  simp [-W_sSeq]
  rw [W_sSeq]
  simp [-W_sSeq]
  refine W_forF (I := CsI (c := c) s T sis) ?_ ?_ _ _ _ ⟨[], sis, none, none, rfl, rfl, rfl, rfl⟩
  · rintro x r ρ s' ⟨pre, post, x2, x3, e, er, rfl, rfl⟩
    cases post with
    | nil => simp at er
    | cons y post =>
      simp only [List.map_cons, List.cons.injEq] at er
      obtain ⟨rfl, rfl⟩ := er
      refine ⟨_, Tg_name, ?_⟩
      simp [-W_sSeq]
      rw [W_sSeq]
      simp [-W_sSeq]
      refine W_forF (I := CsJ (c := c) s' T sis y (srcT pre)) ?_ ?_ _ _ _ ⟨[], y.lanes, x3, rfl, rfl, rfl, rfl⟩
      · rintro x r ρ s' ⟨pre', post', x3, e', er', rfl, rfl⟩
        cases post' with
        | nil => simp at er'
        | cons l post' =>
          simp only [List.map_cons, List.cons.injEq] at er'
          obtain ⟨rfl, rfl⟩ := er'
          refine ⟨_, Tg_name, ?_⟩
          simp [is_source_ok]
          have e1 : (srcs (pre' ++ [l]) : Nat) = srcs pre' + (if l.src = true then 1 else 0) := by
            unfold srcs
            rw [List.filter_append, List.length_append]
            cases hc : l.src <;> simp [hc]
          cases hc : l.src
          · rw [hc] at e1
            simp
            refine ⟨pre' ++ [l], post', some l.obj, by simp [e'], rfl, ?_, rfl⟩
            simp [e1]
          · rw [hc] at e1
            simp
            refine ⟨pre' ++ [l], post', some l.obj, by simp [e'], rfl, ?_, rfl⟩
            simp [e1]
            omega
      · rintro ρ s' ⟨pre', post', x3, e', er', rfl, rfl⟩
        cases post' with
        | cons l post' => simp at er'
        | nil =>
          simp at e'
          simp
          refine ⟨pre ++ [y], post, some (siO T y), x3, by simp [e], rfl, ?_, rfl⟩
          rw [srcT_app, e']
          simp
  · rintro ρ s' ⟨pre, post, x2, x3, e, er, rfl, rfl⟩
    cases post with
    | cons y post => simp at er
    | nil =>
      simp at e
      subst e
      have : ¬ (6 : Int) < srcT sis := by omega
      simp [this]
      exact Post_nx0 ⟨rfl, rfl⟩
end K63.P
end
section
set_option Elab.async false
set_option linter.all false
/-! P19: towns are made. -/
namespace K63.P
open PySem CL CL.CP
variable {c : Bool}
theorem road_at_ok (s : S) {T : Int} {sis : List Si} {p : Pr} {r : Int} {q : Option (Int × Int × Int)} {b : Int} (h : laneAt sis p (.road r q b)) : F_road_at [sq c (sis.map (siO T)), p.law] s = .ok (Ln.obj (.road r q b)) s := by
  refine W_eq (runB_of rfl ?_)
  obtain ⟨h1, h2, si, h3, h4⟩ := h
  have a1 : p.k < sis.length := by
    have := (List.getElem?_eq_some_iff.mp h3).1
    omega
  have a2 : p.s < si.lanes.length := by
    have := (List.getElem?_eq_some_iff.mp h4).1
    omega
  have e1 : (sis.map (siO T))[p.k.toNat]? = some (siO T si) := by simp [h3]
  have e2 : (si.lanes.map Ln.obj)[p.s.toNat]? = some (Ln.obj (.road r q b)) := by simp [h4]
  obtain ⟨_, h3'⟩ := List.getElem?_eq_some_iff.mp h3
  obtain ⟨_, h4'⟩ := List.getElem?_eq_some_iff.mp h4
  simp [Pr.law, h1, h2, a1, a2, atI_nn h1, atI_nn h2, h3, h4, h3', h4', Ln.isF]
  exact Post_ret0 (by simp) ⟨rfl, rfl⟩
theorem fits_ok (s : S) {T : Int} {sis : List Si} {x : St} {pre : List St} (h : x.ok sis) (hp : ∀ y ∈ pre, x.a ≠ y.a ∧ x.b ≠ y.b) : F_fits [sq c (sis.map (siO T)), stO x, sq c' (pre.map stO)] s = .ok (.bl true) s := by
  refine W_eq (runB_of rfl ?_)
  obtain ⟨r, q, b, ha⟩ := h.a
  obtain ⟨r', b', hb⟩ := h.b
  have f11 : ∀ s, fldD 11 s (Ln.obj (.road r' none b')) = some .non := fun s => rfl
  have n1 : Ln.obj (.road r q b) ≠ .non := by simp [Ln.obj]
  have n2 : Ln.obj (.road r' none b') ≠ .non := by simp [Ln.obj]
  simp [road_at_ok s ha, road_at_ok s hb, f11, n1, n2]
  refine W_forLst stO (fun a => [some (sq c (sis.map (siO T))), some (stO x), some (sq c' (pre.map stO)), some (Ln.obj (.road r' none b')), a]) 4 (fun _ _ => by simp) pre ?_ ?_ none
  · intro y hy
    have h1 : ¬ y.a = x.a := fun e => (hp y hy).1 e.symm
    have h2 : ¬ y.b = x.b := fun e => (hp y hy).2 e.symm
    simp [eq_pr, h1, h2]
    exact ⟨_, rfl⟩
  · intro a
    simp
    exact Post_ret0 rfl ⟨rfl, rfl⟩
theorem check_streets_ok (s : S) {T : Int} {sis : List Si} {sts : List St} (h : StsOk sis sts) : F_check_streets [sq c (sis.map (siO T)), sq c' (sts.map stO)] s = .ok .non s := by
  refine W_eq (runB_of rfl ?_)
  have := h.few
  have a1 : ¬ (6 : Int) < sts.length := by omega
  simp [a1]
  refine W_forEnum stO (fun a b => [some (sq c (sis.map (siO T))), some (sq c' (sts.map stO)), a, b]) 2 3 (fun _ _ _ _ => by simp) sts ?_ ?_ none none
  · intro pre x post e
    have ec : cutD (sts.map stO) none (some (pre.length : Int)) = pre.map stO := by
      rw [e, List.map_append]
      have := cut_pre (pre.map stO) ((x :: post).map stO)
      simpa using this
    have hx := h.each x (by rw [e]; simp)
    have hap : ∀ y ∈ pre, x.a ≠ y.a ∧ x.b ≠ y.b := fun y hy => by
      have := h.apart
      rw [e] at this
      exact (List.pairwise_append.mp this).2.2 y hy x (by simp)
    simp [ec, fits_ok s hx hap]
    exact ⟨_, _, rfl⟩
  · intro a b
    simp
    exact Post_nx0 ⟨rfl, rfl⟩
theorem check_town_ok (s : S) {x : Tw} (h : x.ok) : F_check_town [sq c (x.sis.map (siO x.T)), .lst (iDs x.offs), sq c' (x.sts.map stO)] s = .ok .non s := by
  refine W_eq (runB_of rfl ?_)
  obtain ⟨n1, n4⟩ := h.n
  have e0 : ∀ (s : S), ∃ y, ixD s (sq c (x.sis.map (siO x.T))) (.int 0) = some (siO x.T y) := fun s => by
    cases e : x.sis with
    | nil => rw [e] at n1; simp at n1
    | cons y r => exact ⟨y, by simp⟩
  obtain ⟨y, e0⟩ := e0 s
  simp only [sq_ix] at e0
  simp [check_sites_ok s n1 n4, check_sources_ok s h.src, check_streets_ok s h.sts]
  simp only [atI_zero] at e0
  have e1 : Option.map (siO x.T) x.sis[0]? = some (siO x.T y) := by simpa using e0
  simp [e1, check_offsets_ok s h.olen (by omega) h.offs, check_sources_ok s h.src, check_streets_ok s h.sts]
  exact Post_nx0 ⟨rfl, rfl⟩
end K63.P
end
section
set_option Elab.async false
set_option linter.all false
/-! P20: towns are made. -/
namespace K63.P
open PySem CL CL.CP
variable {c : Bool}
def lnsT : List Si → List Ln
  | [] => []
  | x :: r => x.lanes ++ lnsT r
def firstsD : Int → List Si → List Int
  | _, [] => []
  | k, x :: r => k :: firstsD (k + x.lanes.length) r
theorem firstsD_len : ∀ (k : Int) (l : List Si), (firstsD k l).length = l.length
  | _, [] => rfl
  | k, x :: r => by simp [firstsD, firstsD_len (k + x.lanes.length) r]
def pairsAt (k : Nat) (x : Si) : List D := (List.range x.lanes.length).map fun i : Nat => .tup [.int k, .int i]
def pairsD (l : List Si) : List D := ((l.zipIdx 0).map fun p => pairsAt p.2 p.1).flatten
theorem pairsD_len' : ∀ (k : Nat) (l : List Si), (((l.zipIdx k).map fun p => pairsAt p.2 p.1).flatten).length = (lnsT l).length
  | _, [] => rfl
  | k, x :: r => by
    have := pairsD_len' (k + 1) r
    simp only [List.zipIdx_cons, List.map_cons, List.flatten_cons, List.length_append, this, lnsT]
    simp [pairsAt]
theorem pairsD_len (l : List Si) : (pairsD l).length = (lnsT l).length := pairsD_len' 0 l
theorem bels_app {n : Nat} : ∀ {a b : List D}, D.bels n a = true → D.bels n b = true → D.bels n (a ++ b) = true
  | [], b, _, h => h
  | x :: a, b, h, h' => by
    simp only [D.bels, Bool.and_eq_true] at h
    simp only [List.cons_append, D.bels, h.1, bels_app h.2 h', Bool.and_self]
theorem pairsAt_bel (n k : Nat) (x : Si) : D.bels n (pairsAt k x) = true := by
  unfold pairsAt
  induction (List.range x.lanes.length) with
  | nil => rfl
  | cons i r ih => simpa [D.bels, D.bel] using ih
theorem pairsD_bel' (n : Nat) : ∀ (k : Nat) (l : List Si), D.bels n ((l.zipIdx k).map fun p => pairsAt p.2 p.1).flatten = true
  | _, [] => rfl
  | k, x :: r => by
    simp only [List.zipIdx_cons, List.map_cons, List.flatten_cons]
    exact bels_app (pairsAt_bel _ _ _) (pairsD_bel' n (k + 1) r)
@[simp] theorem pairsD_bel (n : Nat) (l : List Si) : D.bels n (pairsD l) = true := pairsD_bel' n 0 l
theorem lns_flat : ∀ l : List Si, (l.map fun x => x.lanes.map Ln.obj).flatten = (lnsT l).map Ln.obj
  | [] => rfl
  | x :: r => by simp [lnsT, ← lns_flat r]
theorem lnsT_len : ∀ {l : List Si}, (∀ x ∈ l, x.lanes.length ≤ 6) → (lnsT l).length ≤ 6 * l.length
  | [], _ => by simp [lnsT]
  | x :: r, h => by
    have := lnsT_len (l := r) fun y hy => h y (List.mem_cons_of_mem _ hy)
    have := h x (List.mem_cons_self ..)
    simp only [lnsT, List.length_append, List.length_cons]
    omega
theorem Tw.ok.few {x : Tw} (h : x.ok) : ∀ y ∈ x.sis, y.lanes.length ≤ 6 := fun y hy => by
  obtain ⟨sp, h⟩ := h.each y hy
  have := h.len
  have := h.n
  omega
theorem Tw.ok.lns {x : Tw} (h : x.ok) : (lnsT x.sis).length ≤ 24 := by
  have := lnsT_len h.few
  have := h.n.2
  omega
theorem firstsD_app : ∀ (k : Int) (a : List Si) (x : Si), firstsD k (a ++ [x]) = firstsD k a ++ [k + (lnsT a).length]
  | k, [], x => by simp [firstsD, lnsT]
  | k, y :: a, x => by
    simp only [List.cons_append, firstsD, firstsD_app (k + y.lanes.length) a x, lnsT, List.length_append]
    congr 3
    omega
theorem lnsT_app : ∀ (a b : List Si), lnsT (a ++ b) = lnsT a ++ lnsT b
  | [], b => rfl
  | x :: a, b => by simp [lnsT, lnsT_app a b]
def FnI (s0 : S) (T : Int) (sis : List Si) (r : List D) (ρ : List (Option D)) (s : S) : Prop := ∃ pre post x3, sis = pre ++ post ∧ r = post.map (siO T) ∧ ρ = [some (sq c (sis.map (siO T))), some (.cell s0.length), some (.int (lnsT pre).length), x3] ∧ s = s0 ++ [.lst (iDs (firstsD 0 pre))]
theorem first_numbers_ok (s : S) {T : Int} {sis : List Si} (h : sis.length ≤ 4) : F_first_numbers [sq c (sis.map (siO T))] s = .ok (.lst (iDs (firstsD 0 sis))) s := by
  refine W_eq (runB_of rfl ?_)
  have szn : (100000 : Nat) ≤ sizeLine := by decide
  generalize hU : Post s (fun d' s' => d' = .lst (iDs (firstsD 0 sis)) ∧ s' = s) = U
  rw [W_sSeq]
  simp [-W_sSeq, D.bels]
  rw [W_sSeq]
  simp [-W_sSeq]
  rw [W_sSeq]
  simp [-W_sSeq]
  refine W_forF (I := FnI (c := c) s T sis) ?_ ?_ _ _ _ ⟨[], sis, none, rfl, rfl, rfl, rfl⟩
  · rintro x r ρ s' ⟨pre, post, x3, e, er, rfl, rfl⟩
    cases post with
    | nil => simp at er
    | cons y post =>
      simp only [List.map_cons, List.cons.injEq] at er
      obtain ⟨rfl, rfl⟩ := er
      refine ⟨_, Tg_name, ?_⟩
      have hl : pre.length < sizeLine := by
        have : pre.length ≤ sis.length := by rw [e]; simp
        omega
      simp [isL, firstsD_len, hl, D.bel]
      refine ⟨pre ++ [y], post, some (siO T y), by simp [e], rfl, ?_, ?_⟩
      · simp [lnsT_app, lnsT]
      · simp [firstsD_app, iDs]
  · rintro ρ s' ⟨pre, post, x3, e, er, rfl, rfl⟩
    cases post with
    | cons y post => simp at er
    | nil =>
      simp at e
      subst e
      simp [Ct.d]
      subst hU
      exact Post_retA (by simp [D.bel]) ⟨rfl, rfl⟩
theorem pairs_of_ok (s : S) {T : Int} {sis : List Si} (h : (lnsT sis).length ≤ 1000) (h6 : ∀ x ∈ sis, x.lanes.length ≤ 1000) : F_pairs_of [sq c (sis.map (siO T))] s = .ok (.lst (pairsD sis)) s := by
  refine W_eq (runB_of rfl ?_)
  have szn : (100000 : Nat) ≤ sizeLine := by decide
  have two : 2 ≤ sizeLine := by omega
  simp [wipeE, enum_zip]
  refine (compF2_map (fun p : Si × Nat => .tup [.int p.2, siO T p.1]) (fun p => pairsAt p.2 p.1) _ ?_).mono ?_
  · rintro ⟨x, i⟩ hp
    have hx : x.lanes.length ≤ 1000 := h6 x (by have := List.mem_zipIdx hp; simp at this; obtain ⟨_, e⟩ := this; rw [e]; exact List.getElem_mem _)
    refine ⟨_, Tg_tup0.trans (by simp; rfl), ?_⟩
    have hx' : x.lanes.length ≤ sizeLine := by omega
    simp [wipeE, hx', W_b]
    refine (compR_all (fun k : Nat => .tup [.int i, .int k]) x.lanes.length (by omega) ?_).mono ?_
    · intro k hk
      refine ⟨_, Tg_name, ?_⟩
      simp [two]
    · rintro ys s' ⟨rfl, rfl⟩
      exact ⟨by simp [pairsAt], rfl⟩
  · rintro ys s' ⟨rfl, rfl⟩
    have e : (pairsD sis).length ≤ sizeLine := by rw [pairsD_len]; omega
    unfold pairsD at e
    simp only [An, e, true_and]
    simp
    exact Post_ret0 (pairsD_bel _ sis) ⟨rfl, rfl⟩
def twV (x : Tw) : List D := [.int x.T, .tup (x.sis.map (siO x.T)), .tup (iDs x.offs), .tup (x.sts.map stO), .tup (iDs (firstsD 0 x.sis)), .tup (pairsD x.sis), .tup ((lnsT x.sis).map Ln.obj)]
def twO (x : Tw) : D := .obj 8 [1, 28, 29, 30, 31, 32, 33] (twV x)
theorem twV_bel (x : Tw) (k : Nat) : D.bels k (twV x) = true := by simp [twV, D.bels, D.bel]
@[simp] theorem twO_bel (x : Tw) (k : Nat) : (twO x).bel k = true := twV_bel x k
theorem town_init_ok (s : S) (hs : Clo s) {x : Tw} (h : x.ok) : F_Town_init [.cell s.length, sq c (x.sis.map (siO x.T)), .lst (iDs x.offs), sq c' (x.sts.map stO)] (s ++ [.obj 8 [] []]) = .ok .non (s ++ [.obj 8 [1, 28, 29, 30, 31, 32, 33] (twV x)]) := by
  refine W_eq (runB_of rfl ?_)
  obtain ⟨n1, n4⟩ := h.n
  have szn : (100000 : Nat) ≤ sizeLine := by decide
  obtain ⟨y, e1⟩ : ∃ y, Option.map (siO x.T) x.sis[0]? = some (siO x.T y) := by
    cases e : x.sis with
    | nil => rw [e] at n1; simp at n1
    | cons y r => exact ⟨y, by simp⟩
  have hl := h.lns
  simp [-W_sSeq, check_town_ok _ h]
  rw [W_sSeq]
  simp [-W_sSeq, check_town_ok _ h]
  rw [W_sSeq]
  simp [-W_sSeq, e1, fput, D.bel]
  rw [W_sSeq]
  simp [-W_sSeq, fput, D.bel]
  rw [W_sSeq]
  simp [-W_sSeq, fput, D.bel]
  rw [W_sSeq]
  simp [-W_sSeq, fput, D.bel]
  rw [W_sSeq]
  simp [-W_sSeq, first_numbers_ok _ n4, fput, D.bel]
  rw [W_sSeq]
  simp [-W_sSeq, pairs_of_ok _ (show (lnsT x.sis).length ≤ 1000 by omega) (fun y hy => Nat.le_trans (h.few y hy) (by decide)), fput, D.bel]
  rw [W_sSeq]
  simp [-W_sSeq, wipeE]
  refine (compF2_map (siO x.T) (fun y => y.lanes.map Ln.obj) x.sis ?_).mono ?_
  · intro y hy
    refine ⟨_, Tg_name, ?_⟩
    simp [W_b, wipeE]
    refine (compF_all Ln.obj Ln.obj y.lanes ?_)
    intro l hl
    refine ⟨_, Tg_name, ?_⟩
    simp
  · rintro ys s' ⟨rfl, rfl⟩
    rw [lns_flat]
    have e : ((lnsT x.sis).map Ln.obj).length ≤ sizeLine := by simp; omega
    simp only [An, e, true_and]
    simp [fput, D.bel]
    exact Post_init hs (twV_bel x _) ⟨rfl, rfl⟩
end K63.P
end
section
set_option Elab.async false
set_option linter.all false
/-! P21: the town of a draw is made; the town is turned. -/
namespace K63.P
open PySem CL CL.CP
theorem tw0 {s : S} {x : Tw} : ixD s x.law (.int 0) = some (.int x.T) := by unfold Tw.law; rfl
theorem tw1 {s : S} {x : Tw} : ixD s x.law (.int 1) = some (.lst (x.sis.map Si.law)) := by unfold Tw.law; rfl
theorem tw2 {s : S} {x : Tw} : ixD s x.law (.int 2) = some (.lst (iDs x.offs)) := by unfold Tw.law; rfl
theorem tw3 {s : S} {x : Tw} : ixD s x.law (.int 3) = some (.lst (x.sts.map St.law)) := by unfold Tw.law; rfl
theorem make_town_ok (s : S) (hs : Clo s) {x : Tw} (h : x.ok) : F_law_make_town [x.law] s = .ok (twO x) s := by
  refine W_eq (runB_of rfl ?_)
  rw [W_sSeq]
  simp [-W_sSeq, tw1, wipeE]
  refine (compF_all Si.law (siO x.T) x.sis ?_).mono ?_
  · intro y hy
    obtain ⟨sp, hy⟩ := h.each y hy
    refine ⟨_, Tg_name, ?_⟩
    simp [tw0, make_site_ok s hs hy h.T.1 h.T.2 hy.rvl]
  rintro ys s' ⟨rfl, rfl⟩
  simp [-W_sSeq]
  rw [W_sSeq]
  simp [-W_sSeq, tw3, wipeE]
  refine (compF_all St.law stO x.sts ?_).mono ?_
  · intro y hy
    have hy := h.sts.each y hy
    refine ⟨_, Tg_name, ?_⟩
    refine W_eMake ?_
    have e0 : ∀ s, ixD s y.law (.int 0) = some y.a.law := fun s => by unfold St.law; rfl
    have e1 : ∀ s, ixD s y.law (.int 1) = some y.b.law := fun s => by unfold St.law; rfl
    have e2 : ∀ s, ixD s y.law (.int 2) = some (.int y.t) := fun s => by unfold St.law; rfl
    simp [e0, e1, e2]
    refine W_of_eq (street_init_ok s' hs hy) ⟨rfl, _, _, _, rfl, stV_bel _ _, ?_⟩
    exact ⟨rfl, rfl⟩
  rintro ys s ⟨rfl, rfl⟩
  simp [-W_sSeq]
  rw [W_sSeq]
  simp [-W_sSeq]
  refine W_eMake ?_
  simp [tw2]
  have e := town_init_ok (c := false) (c' := false) s hs h
  simp only [sq] at e
  refine W_of_eq e ⟨rfl, _, _, _, rfl, twV_bel _ _, ?_⟩
  simp
  exact Post_ret0 (twV_bel _ _) ⟨rfl, rfl⟩
def Tw.turn (x : Tw) (mv : Int) : Tw := { x with offs := x.offs.map fun o => (o + mv) % x.T }
theorem Tw.turn_ok {x : Tw} (h : x.ok) (mv : Int) : (x.turn mv).ok := by
  refine ⟨h.T, h.n, h.each, h.src, by simpa [Tw.turn] using h.olen, ?_, h.sts⟩
  intro o ho
  simp only [Tw.turn, List.mem_map] at ho
  obtain ⟨a, _, rfl⟩ := ho
  have := h.T
  exact ⟨Int.emod_nonneg _ (by omega), Int.emod_lt_of_pos _ (by show 0 < x.T; omega)⟩
@[simp] theorem two1 {s : S} {x : Tw} : fldD 1 s (twO x) = some (.int x.T) := rfl
@[simp] theorem two28 {s : S} {x : Tw} : fldD 28 s (twO x) = some (.tup (x.sis.map (siO x.T))) := rfl
@[simp] theorem two29 {s : S} {x : Tw} : fldD 29 s (twO x) = some (.tup (iDs x.offs)) := rfl
@[simp] theorem two30 {s : S} {x : Tw} : fldD 30 s (twO x) = some (.tup (x.sts.map stO)) := rfl
@[simp] theorem two32 {s : S} {x : Tw} : fldD 32 s (twO x) = some (.tup (pairsD x.sis)) := rfl
@[simp] theorem two33 {s : S} {x : Tw} : fldD 33 s (twO x) = some (.tup ((lnsT x.sis).map Ln.obj)) := rfl
@[simp] theorem twoC {s : S} {x : Tw} : clsOf s (twO x) = some 8 := rfl
theorem town_at_ok (s : S) (hs : Clo s) {x : Tw} (os : List Int) (h : Tw.ok { x with offs := os }) : F_Town_at [twO x, .lst (iDs os)] s = .ok (twO { x with offs := os }) s := by
  refine W_eq (runB_of rfl ?_)
  simp
  refine W_eMake ?_
  simp
  have e := town_init_ok (c := true) (c' := true) s hs h
  simp only [sq] at e
  refine W_of_eq e ⟨rfl, _, _, _, rfl, twV_bel _ _, ?_⟩
  simp
  exact Post_ret0 (twV_bel _ _) ⟨rfl, rfl⟩
theorem turned_ok (s : S) (hs : Clo s) {x : Tw} (h : x.ok) (mv : Int) : F_Town_turned [twO x, .int mv] s = .ok (twO (x.turn mv)) s := by
  refine W_eq (runB_of rfl ?_)
  have hT := h.T
  simp [wipeE]
  refine (compF_all .int (fun o => .int ((o + mv) % x.T)) x.offs ?_).mono ?_
  · intro o ho
    refine ⟨_, Tg_name, ?_⟩
    simp [o_mod (show 0 < x.T by omega)]
  rintro ys s' ⟨rfl, rfl⟩
  have e : (x.offs.map fun o => D.int ((o + mv) % x.T)) = iDs (x.turn mv).offs := by simp [iDs, Tw.turn]
  rw [e]
  simp [town_at_ok s' hs (x.turn mv).offs (Tw.turn_ok h mv)]
  exact Post_ret0 (twV_bel _ _) ⟨rfl, rfl⟩
end K63.P
end
section
set_option Elab.async false
set_option linter.all false
/-! P22: the lights of a book: what they are, in plain Lean, and that the program finds them. -/
namespace K63.P
open PySem CL CL.CP
def ph0 : Ph := ⟨[], 1, 1, 0, [], [], false⟩
def phAt (ps : List Ph) (k : Int) : Ph := (ps[k.toNat]?).getD ph0
def folFrom : Int → List Ph → Int
  | _, [] => 0
  | k, p :: r => if p.calls = [] then k else folFrom (k + 1) r
def fol (ps : List Ph) (k : Int) : Int := folFrom (k + 1) (ps.drop (k.toNat + 1))
theorem phAt_get {ps : List Ph} {k : Int} (h0 : 0 ≤ k) (h1 : k < ps.length) : ps[k.toNat]? = some (phAt ps k) := by
  have : k.toNat < ps.length := by omega
  rw [List.getElem?_eq_getElem this, phAt, List.getElem?_eq_getElem this]
  rfl
theorem drop_phAt {ps : List Ph} {k : Int} (h0 : 0 ≤ k) (h1 : k < ps.length) : ps.drop k.toNat = phAt ps k :: ps.drop (k + 1).toNat := by
  have hk : k.toNat < ps.length := by omega
  rw [List.drop_eq_getElem_cons hk, show (k + 1).toNat = k.toNat + 1 by omega]
  congr 1
  have := phAt_get h0 h1
  rw [List.getElem?_eq_getElem hk] at this
  exact Option.some.inj this
/-- it is a later phase that nothing calls, or 0 -/
theorem folFrom_bd : ∀ (k : Int) (r : List Ph), 0 ≤ k → folFrom k r = 0 ∨ (k ≤ folFrom k r ∧ folFrom k r < k + r.length)
  | _, [], _ => .inl rfl
  | k, p :: r, h => by
    unfold folFrom
    split
    · exact .inr ⟨by omega, by simp; omega⟩
    · rcases folFrom_bd (k + 1) r (by omega) with h | h
      · exact .inl h
      · exact .inr ⟨by omega, by simp; omega⟩
theorem fol_bd {ps : List Ph} {k : Int} (h0 : 0 ≤ k) (h1 : k < ps.length) : fol ps k = 0 ∨ (k < fol ps k ∧ fol ps k < ps.length) := by
  unfold fol
  rcases folFrom_bd (k + 1) (ps.drop (k.toNat + 1)) (by omega) with h | h
  · exact .inl h
  · refine .inr ⟨by omega, ?_⟩
    have := h.2
    simp at this
    omega
theorem is_wanted_ok (s : S) (p : Ph) : F_is_wanted [p.obj, .tup [], .non] s = .ok (.bl (decide (p.calls = []))) s := by
  have hu : ∀ s, F_is_urged [p.obj, .non] s = .ok (.bl false) s := by
    intro s
    refine W_eq (runB_of rfl ?_)
    simp
    exact Post_ret0 rfl ⟨rfl, rfl⟩
  have hb : ∀ s, F_is_barred [p.obj, .non] s = .ok (.bl false) s := by
    intro s
    refine W_eq (runB_of rfl ?_)
    cases hg : p.gives <;> simp [hg]
    · exact Post_ret0 rfl ⟨rfl, rfl⟩
    · exact Post_ret0 rfl ⟨rfl, rfl⟩
  refine W_eq (runB_of rfl ?_)
  by_cases hc : p.calls = []
  · simp [hb, hc, iDs]
    exact Post_ret0 rfl ⟨rfl, rfl⟩
  · have : (iDs p.calls).isEmpty = false := by
      cases h : p.calls with
      | nil => exact absurd h hc
      | cons x r => rfl
    simp [hb, hu, this, hc, wipeE]
    refine (compF_all .int (fun _ => .bl false) p.calls ?_).mono ?_
    · intro x hx
      refine ⟨_, Tg_name, ?_⟩
      have := o_inT (s := s) (a := x) (xs := [])
      simp only [iDs, List.map_nil] at this
      simp [this]
    · rintro ys s' ⟨rfl, rfl⟩
      have e : p.calls.map (fun _ => D.bl false) = (p.calls.map fun _ => false).map .bl := by simp
      have ha : anyD s' (.lst (p.calls.map fun _ => D.bl false)) = some (.bl false) := by
        rw [e]
        simp only [anyD, lsOf, Option.bind_some, bolsD_map, Option.map_some]
        simp
      simp only [ha, Sm_some, Nx_ret]
      exact Post_ret0 rfl ⟨by simp [hc], rfl⟩
section
variable {n T : Int} {rs : List Rv} {m : Ph} {rest : List Ph}
theorem blen_ok (s : S) : F_Book_len [bkO n T rs m rest] s = .ok (.int (rest.length + 1)) s := by
  refine W_eq (runB_of rfl ?_)
  simp
  exact Post_ret0 rfl ⟨rfl, rfl⟩
theorem bphase_ok (s : S) {k : Int} (h0 : 0 ≤ k) (h1 : k < ((m :: rest).length : Nat)) : F_Book_phase [bkO n T rs m rest, .int k] s = .ok (phAt (m :: rest) k).obj s := by
  refine W_eq (runB_of rfl ?_)
  have e := phAt_get h0 h1
  have h2 : k < (rest.length : Int) + 1 := by simpa using h1
  obtain ⟨_, e'⟩ := List.getElem?_eq_some_iff.mp e
  simp [h0, h2, atI_nn h0, e, e', -List.map_cons]
  exact Post_ret0 (by simp) ⟨rfl, rfl⟩
def FoI (s0 : S) (b : D) (ps : List Ph) (k j : Int) (ρ : List (Option D)) (s : S) : Prop := ∃ x, folFrom j (ps.drop j.toNat) = fol ps k ∧ 0 < j ∧ ρ = [some b, some (.int k), some (.tup []), some .non, x] ∧ s = s0
theorem following_ok (s : S) {k : Int} (h0 : 0 ≤ k) (h1 : k < ((m :: rest).length : Nat)) (hr : rest.length ≤ 11) : F_following_phase [bkO n T rs m rest, .int k, .tup [], .non] s = .ok (.int (fol (m :: rest) k)) s := by
  refine W_eq (runB_of rfl ?_)
  have h2 : k < (rest.length : Int) + 1 := by simpa using h1
  have szi : (100000 : Int) ≤ sizeLine := by decide
  have a1 : (0 : Int) ≤ (rest.length : Int) + 1 := by omega
  have a2 : (rest.length : Int) + 1 < 9223372036854775808 := by omega
  simp [-W_sSeq]
  rw [W_sSeq]
  simp [-W_sSeq, blen_ok, a1, a2]
  refine ⟨⟨by omega, by omega, by omega, by omega⟩, ?_⟩
  refine W_forR (FoI s (bkO n T rs m rest) (m :: rest) k) (rest.length + 1) ?_ ?_ (rest.length + 1 - (k + 1)).toNat (k + 1) _ _ (by omega) rfl ⟨none, by unfold fol; rw [show (k + 1).toNat = k.toNat + 1 by omega], by omega, rfl, rfl⟩
  · rintro j ρ s' hj ⟨x, e, hj0, rfl, rfl⟩
    refine ⟨_, Tg_name, ?_⟩
    have hj1 : j < ((m :: rest).length : Nat) := by simp; omega
    simp [bphase_ok s' (show 0 ≤ j by omega) hj1, is_wanted_ok]
    rw [drop_phAt (by omega) hj1] at e
    unfold folFrom at e
    refine ⟨fun hc => ?_, fun hc => ?_⟩
    · simp at hc
      rw [if_pos hc] at e
      simp
      rw [e]
      exact Post_ret0 rfl ⟨rfl, rfl⟩
    · simp at hc
      rw [if_neg hc] at e
      simp
      exact ⟨_, e, by omega, rfl, rfl⟩
  · rintro ρ s' ⟨x, e, hj0, rfl, rfl⟩
    rw [List.drop_of_length_le (by simp)] at e
    simp [folFrom] at e
    rw [← e]
    simp
    exact Post_ret0 rfl ⟨rfl, rfl⟩
/-- the lights of the next beat when nothing happens -/
def nxt (T : Int) (ps : List Ph) (b : Int) (l : Int × Int) : Int × Int :=
  if l.2 < -1 then (l.1, l.2 + 1)
  else if l.2 = -1 then (fol ps l.1, 0)
  else if l.1 = 0 then (if b ≠ T - 1 ∨ fol ps 0 = 0 then (0, 0) else if 0 < (phAt ps 0).calm then (0, -(phAt ps 0).calm) else (fol ps 0, 0))
  else if l.2 + 1 < (phAt ps l.1).lo then (l.1, l.2 + 1)
  else if 0 < (phAt ps l.1).calm then (l.1, -(phAt ps l.1).calm) else (fol ps l.1, 0)
/-- lights that a book can have -/
structure Prp (ps : List Ph) (l : Int × Int) : Prop where
  k : 0 ≤ l.1 ∧ l.1 < ps.length
  lo : -(phAt ps l.1).calm ≤ l.2
  up : l.2 ≤ if l.1 = 0 then 0 else (phAt ps l.1).lo - 1
def lit (b : Int) (l : Int × Int) : D := .tup [.int b, .int l.1, .int l.2]
theorem is_proper_ok (s : S) {b : Int} {l : Int × Int} (hb : 0 ≤ b ∧ b < T) (hl : Prp (m :: rest) l) (hr : rest.length ≤ 11) (hu : (phAt (m :: rest) l.1).lo ≤ (phAt (m :: rest) l.1).up) : F_is_proper [bkO n T rs m rest, lit b l] s = .ok (.bl true) s := by
  refine W_eq (runB_of rfl ?_)
  obtain ⟨k, c⟩ := l
  obtain ⟨k0, k1⟩ := hl.k
  have lo := hl.lo
  have up := hl.up
  simp only at k0 k1 lo up hu
  have h2 : k < (rest.length : Int) + 1 := by simpa using k1
  have a1 : (0 : Int) ≤ (rest.length : Int) + 1 := by omega
  have a2 : (rest.length : Int) + 1 < 9223372036854775808 := by omega
  simp only [lit]
  simp [hb.1, hb.2, blen_ok, a1, a2, k0, h2, bphase_ok s k0 k1]
  refine ⟨fun h => ?_, fun h => ?_⟩
  · simp at h
    subst h
    rw [if_pos rfl] at up
    simp [lo, up]
    exact Post_ret0 rfl ⟨rfl, rfl⟩
  · simp at h
    rw [if_neg h] at up
    have : c ≤ (phAt (m :: rest) k).up - 1 := by omega
    simp [lo, this]
    exact Post_ret0 rfl ⟨rfl, rfl⟩
theorem check_lights_ok (s : S) {b : Int} {l : Int × Int} (hb : 0 ≤ b ∧ b < T) (hl : Prp (m :: rest) l) (hr : rest.length ≤ 11) (hu : (phAt (m :: rest) l.1).lo ≤ (phAt (m :: rest) l.1).up) : F_check_lights [bkO n T rs m rest, lit b l] s = .ok .non s := by
  refine W_eq (runB_of rfl ?_)
  simp [is_proper_ok s hb hl hr hu]
  exact Post_nx0 ⟨rfl, rfl⟩
end
end K63.P
end
section
set_option Elab.async false
set_option linter.all false
/-! P23: the next lights, and the quiet ones. -/
namespace K63.P
open PySem CL CL.CP
theorem is_held_ok (s : S) (p : Ph) : F_is_held [p.obj, .tup [], .non] s = .ok (.bl false) s := by
  have hu : ∀ s, F_is_urged [p.obj, .non] s = .ok (.bl false) s := by
    intro s
    refine W_eq (runB_of rfl ?_)
    simp
    exact Post_ret0 rfl ⟨rfl, rfl⟩
  have hb : ∀ s, F_is_barred [p.obj, .non] s = .ok (.bl false) s := by
    intro s
    refine W_eq (runB_of rfl ?_)
    cases hg : p.gives <;> simp [hg]
    · exact Post_ret0 rfl ⟨rfl, rfl⟩
    · exact Post_ret0 rfl ⟨rfl, rfl⟩
  refine W_eq (runB_of rfl ?_)
  simp [hb, hu, wipeE]
  refine (compF_all .int (fun _ => .bl false) p.grips ?_).mono ?_
  · intro x hx
    refine ⟨_, Tg_name, ?_⟩
    have := o_inT (s := s) (a := x) (xs := [])
    simp only [iDs, List.map_nil] at this
    simp [this]
  · rintro ys s' ⟨rfl, rfl⟩
    have e : p.grips.map (fun _ => D.bl false) = (p.grips.map fun _ => false).map .bl := by simp
    have ha : anyD s' (.lst (p.grips.map fun _ => D.bl false)) = some (.bl false) := by
      rw [e]
      simp only [anyD, lsOf, Option.bind_some, bolsD_map, Option.map_some]
      simp
    simp only [ha, Sm_some, Nx_ret]
    exact Post_ret0 rfl ⟨rfl, rfl⟩
structure BkOk (n T : Int) (m : Ph) (rest : List Ph) : Prop where
  phs : Phs n T m rest
  few : rest.length ≤ 11
  T : 2 ≤ T
section
variable {n T : Int} {rs : List Rv} {m : Ph} {rest : List Ph}
theorem BkOk.ph (h : BkOk n T m rest) {k : Int} (h0 : 0 ≤ k) (h1 : k < ((m :: rest).length : Nat)) : 1 ≤ (phAt (m :: rest) k).lo ∧ (phAt (m :: rest) k).lo ≤ (phAt (m :: rest) k).up ∧ 0 ≤ (phAt (m :: rest) k).calm := by
  have e := phAt_get h0 h1
  have hm := List.mem_of_getElem? e
  rcases List.mem_cons.mp hm with hx | hx
  · rw [hx]
    exact ⟨h.phs.main.lo, h.phs.main.lu, h.phs.main.calm.1⟩
  · have := h.phs.side _ hx
    exact ⟨this.lo, this.lu, this.calm.1⟩
theorem goes_on_ok (s : S) (h : BkOk n T m rest) {b k c : Int} (hk0 : 0 ≤ k) (hk1 : k < ((m :: rest).length : Nat)) : F_goes_on [bkO n T rs m rest, lit b (k, c), .tup [], .tup [], .non] s = .ok (.bl (if k = 0 then decide (b ≠ T - 1 ∨ fol (m :: rest) 0 = 0) else decide (c + 1 < (phAt (m :: rest) k).lo))) s := by
  refine W_eq (runB_of rfl ?_)
  have z1 : (0 : Int) < ((m :: rest).length : Nat) := by simp only [List.length_cons]; omega
  simp only [lit]
  by_cases hk : k = 0
  · subst hk
    have hf := following_ok (rs := rs) (n := n) (T := T) s (k := 0) (by omega) z1 h.few
    by_cases hb : b = T - 1
    · simp [hb, hf]
      exact Post_ret0 rfl ⟨by simp, rfl⟩
    · simp [hb, hf]
      exact Post_ret0 rfl ⟨by simp, rfl⟩
  · by_cases hc : c + 1 < (phAt (m :: rest) k).lo
    · simp [hk, bphase_ok s hk0 hk1, hc]
      exact Post_ret0 rfl ⟨by simp, rfl⟩
    · by_cases hc2 : c + 1 < (phAt (m :: rest) k).up
      · simp [hk, bphase_ok s hk0 hk1, hc, hc2, is_held_ok]
        exact Post_ret0 rfl ⟨by simp, rfl⟩
      · simp [hk, bphase_ok s hk0 hk1, hc, hc2, is_held_ok]
        exact Post_ret0 rfl ⟨by simp, rfl⟩
theorem Prp.of {ps : List Ph} {k c : Int} (k0 : 0 ≤ k) (k1 : k < ps.length) (lo : -(phAt ps k).calm ≤ c) (up : c ≤ if k = 0 then 0 else (phAt ps k).lo - 1) : Prp ps (k, c) := ⟨⟨k0, k1⟩, lo, up⟩
theorem nxt_prp (h : BkOk n T m rest) {b : Int} {l : Int × Int} (hl : Prp (m :: rest) l) : Prp (m :: rest) (nxt T (m :: rest) b l) := by
  obtain ⟨k, c⟩ := l
  obtain ⟨k0, k1⟩ := hl.k
  have lo := hl.lo
  have up := hl.up
  simp only at k0 k1 lo up
  have hp := h.ph k0 k1
  have z1 : (0 : Int) < ((m :: rest).length : Nat) := by simp only [List.length_cons]; omega
  have hp0 := h.ph (k := 0) (by omega) z1
  have fo : ∀ j : Int, 0 ≤ j → j < ((m :: rest).length : Nat) → Prp (m :: rest) (fol (m :: rest) j, 0) := by
    intro j j0 j1
    have fb := fol_bd j0 j1
    have fk : 0 ≤ fol (m :: rest) j ∧ fol (m :: rest) j < ((m :: rest).length : Nat) := by omega
    have hq := h.ph fk.1 fk.2
    exact .of fk.1 fk.2 (by omega) (by split <;> omega)
  unfold nxt
  simp only
  split
  · exact .of k0 k1 (by omega) (by split <;> omega)
  · split
    · exact fo k k0 k1
    · split
      · subst k
        split
        · exact .of (by omega) z1 (by omega) (by rw [if_pos rfl]; omega)
        · split
          · exact .of (by omega) z1 (by omega) (by rw [if_pos rfl]; omega)
          · exact fo 0 (by omega) z1
      · split
        · exact .of k0 k1 (by omega) (by split <;> omega)
        · split
          · exact .of k0 k1 (by omega) (by split <;> omega)
          · exact fo k k0 k1
theorem next_ok (s : S) (h : BkOk n T m rest) {b : Int} {l : Int × Int} (hb : 0 ≤ b ∧ b < T) (hl : Prp (m :: rest) l) : F_next_lights [bkO n T rs m rest, lit b l, .tup [], .tup [], .non] s = .ok (lit ((b + 1) % T) (nxt T (m :: rest) b l)) s := by
  refine W_eq (runB_of rfl ?_)
  obtain ⟨k, c⟩ := l
  obtain ⟨k0, k1⟩ := hl.k
  have lo := hl.lo
  have up := hl.up
  simp only at k0 k1 lo up
  have hp := h.ph k0 k1
  have hT := h.T
  have sz : (100 : Nat) ≤ sizeLine := by decide
  have three : 3 ≤ sizeLine := by omega
  have md : ∀ s x, modD s (.int x) (.int T) = some (.int (x % T)) := fun s x => o_mod (by omega)
  have ck := check_lights_ok (rs := rs) (n := n) s hb hl h.few hp.2.1
  have gn := goes_on_ok (rs := rs) s h (b := b) (c := c) k0 k1
  have fin : ∀ d, d = lit ((b + 1) % T) (nxt T (m :: rest) b (k, c)) → Post s (fun d' s' => d' = lit ((b + 1) % T) (nxt T (m :: rest) b (k, c)) ∧ s' = s) (.ret d) s := by
    rintro d rfl
    exact Post_ret0 (by simp [lit, D.bel, D.bels]) ⟨rfl, rfl⟩
  have fo := following_ok (rs := rs) (n := n) (T := T) s k0 k1 h.few
  simp only [lit] at ck gn
  by_cases h1 : c < -1
  · simp only [lit] at *
    simp [ck, md, three, h1]
    exact fin _ (by simp [nxt, h1])
  · by_cases h2 : c = -1
    · subst h2
      simp only [lit] at *
      simp [ck, md, three, fo]
      exact fin _ (by simp [nxt])
    · have h3 : 0 ≤ c := by omega
      by_cases hk : k = 0
      · subst hk
        rw [if_pos rfl] at up gn
        have hc0 : c = 0 := by omega
        subst hc0
        by_cases hg : b ≠ T - 1 ∨ fol (m :: rest) 0 = 0
        · rw [decide_eq_true hg] at gn
          simp only [lit] at *
          simp [ck, md, three, gn]
          exact fin _ (by simp only [nxt]; simp [hg])
        · rw [decide_eq_false hg] at gn
          have bp := bphase_ok (rs := rs) (n := n) (T := T) s k0 k1
          by_cases hcm : 0 < (phAt (m :: rest) 0).calm
          · simp only [lit] at *
            simp [ck, md, three, gn, bp, hcm]
            exact fin _ (by simp only [nxt]; simp [hg, hcm])
          · simp only [lit] at *
            simp [ck, md, three, gn, bp, hcm, fo]
            exact fin _ (by simp only [nxt]; simp [hg, hcm])
      · rw [if_neg hk] at up gn
        by_cases hg : c + 1 < (phAt (m :: rest) k).lo
        · rw [decide_eq_true hg] at gn
          simp only [lit] at *
          simp [ck, md, three, h1, h2, h3, gn, hk]
          exact fin _ (by simp only [nxt]; simp [h1, h2, hk, hg])
        · rw [decide_eq_false hg] at gn
          have bp := bphase_ok (rs := rs) (n := n) (T := T) s k0 k1
          by_cases hcm : 0 < (phAt (m :: rest) k).calm
          · simp only [lit] at *
            simp [ck, md, three, h1, h2, h3, gn, hk, bp, hcm]
            exact fin _ (by simp only [nxt]; simp [h1, h2, hk, hg, hcm])
          · simp only [lit] at *
            simp [ck, md, three, h1, h2, h3, gn, hk, bp, hcm, fo]
            exact fin _ (by simp only [nxt]; simp [h1, h2, hk, hg, hcm])
end
end K63.P
end
section
set_option Elab.async false
set_option linter.all false
/-! P24: a round in which nothing happens comes back to its beginning. -/
namespace K63.P
open PySem CL CL.CP
def lts (T : Int) (ps : List Ph) : Nat → Int × Int
  | 0 => (0, 0)
  | i + 1 => nxt T ps ((i + T - 1) % T) (lts T ps i)
def tot : List Ph → Int
  | [] => 0
  | p :: r => (if p.calls = [] then p.lo + p.calm else 0) + tot r
def aft (ps : List Ph) (k : Int) : Int := tot (ps.drop (k.toNat + 1))
def rem (ps : List Ph) (l : Int × Int) : Int := if l.1 = 0 ∧ 0 ≤ l.2 then 0 else (if l.2 < 0 then -l.2 else (phAt ps l.1).lo - l.2 + (phAt ps l.1).calm) + aft ps l.1
theorem tot_fol (ps : List Ph) : ∀ (d : Nat) (j : Int), 0 < j → (ps.length : Int) - j ≤ d → tot (ps.drop j.toNat) = if folFrom j (ps.drop j.toNat) = 0 then 0 else (phAt ps (folFrom j (ps.drop j.toNat))).lo + (phAt ps (folFrom j (ps.drop j.toNat))).calm + aft ps (folFrom j (ps.drop j.toNat))
  | d, j, hj, hd => by
    by_cases hl : j < ps.length
    · rw [drop_phAt (by omega) hl]
      simp only [tot, folFrom]
      by_cases hc : (phAt ps j).calls = []
      · simp only [hc, if_true]
        rw [if_neg (by omega)]
        unfold aft
        rw [show (j + 1).toNat = j.toNat + 1 by omega]
      · simp only [hc, if_false]
        cases d with
        | zero => omega
        | succ d =>
          have := tot_fol ps d (j + 1) (by omega) (by omega)
          omega
    · rw [List.drop_of_length_le (by omega)]
      simp [tot, folFrom]
theorem aft_fol (ps : List Ph) {k : Int} (hk : 0 ≤ k) : aft ps k = if fol ps k = 0 then 0 else (phAt ps (fol ps k)).lo + (phAt ps (fol ps k)).calm + aft ps (fol ps k) := by
  have := tot_fol ps ps.length (k + 1) (by omega) (by omega)
  rw [show (k + 1).toNat = k.toNat + 1 by omega] at this
  exact this
section
variable {n T : Int} {rs : List Rv} {m : Ph} {rest : List Ph}
theorem tot_nn : ∀ {ps : List Ph}, (∀ p ∈ ps, 1 ≤ p.lo ∧ 0 ≤ p.calm) → 0 ≤ tot ps
  | [], _ => by simp [tot]
  | p :: r, h => by
    have := tot_nn (ps := r) fun q hq => h q (List.mem_cons_of_mem _ hq)
    have := h p (List.mem_cons_self ..)
    simp only [tot]
    split <;> omega
theorem BkOk.mem (h : BkOk n T m rest) : ∀ p ∈ m :: rest, 1 ≤ p.lo ∧ p.lo ≤ p.up ∧ 0 ≤ p.calm := fun p hp => by
  rcases List.mem_cons.mp hp with rfl | hx
  · exact ⟨h.phs.main.lo, h.phs.main.lu, h.phs.main.calm.1⟩
  · have := h.phs.side _ hx
    exact ⟨this.lo, this.lu, this.calm.1⟩
theorem aft_nn (h : BkOk n T m rest) (k : Int) : 0 ≤ aft (m :: rest) k := tot_nn fun p hp => by
  have := h.mem p (List.mem_of_mem_drop hp)
  exact ⟨this.1, this.2.2⟩
theorem tot_need : ∀ {ps : List Ph}, (∀ p ∈ ps, 1 ≤ p.lo ∧ p.lo ≤ p.up ∧ 0 ≤ p.calm) → tot ps ≤ need ps
  | [], _ => by simp [tot, need]
  | p :: r, h => by
    have := tot_need (ps := r) fun q hq => h q (List.mem_cons_of_mem _ hq)
    have := h p (List.mem_cons_self ..)
    simp only [tot, need]
    split <;> omega
theorem rem_pos (h : BkOk n T m rest) {l : Int × Int} (hl : Prp (m :: rest) l) (hn : ¬ (l.1 = 0 ∧ 0 ≤ l.2)) : 1 ≤ rem (m :: rest) l := by
  obtain ⟨k, c⟩ := l
  have up := hl.up
  have := aft_nn h k
  have hp := h.ph hl.k.1 hl.k.2
  simp only at up hn hp
  unfold rem
  simp only
  rw [if_neg hn]
  split
  · omega
  · split at up <;> omega
theorem rem_step (h : BkOk n T m rest) {b : Int} {l : Int × Int} (hl : Prp (m :: rest) l) (hn : ¬ (l.1 = 0 ∧ 0 ≤ l.2)) : rem (m :: rest) (nxt T (m :: rest) b l) = rem (m :: rest) l - 1 := by
  obtain ⟨k, c⟩ := l
  have up := hl.up
  have k0 := hl.k.1
  have k1 := hl.k.2
  have hp := h.ph k0 k1
  have af := aft_fol (m :: rest) k0
  simp only at up hn hp k0 k1 af
  have fo : rem (m :: rest) (fol (m :: rest) k, 0) = aft (m :: rest) k := by
    rw [af]
    unfold rem
    simp only
    by_cases hf : fol (m :: rest) k = 0
    · simp [hf]
    · simp [hf]
  have e1 : rem (m :: rest) (k, c) = (if c < 0 then -c else (phAt (m :: rest) k).lo - c + (phAt (m :: rest) k).calm) + aft (m :: rest) k := by
    unfold rem
    simp only
    rw [if_neg hn]
  rw [e1]
  unfold nxt
  simp only
  by_cases c1 : c < -1
  · rw [if_pos c1, if_pos (by omega)]
    unfold rem
    simp only
    rw [if_neg (by omega), if_pos (by omega)]
    omega
  rw [if_neg c1]
  by_cases c2 : c = -1
  · rw [if_pos c2, fo, if_pos (by omega)]
    omega
  rw [if_neg c2]
  have c3 : 0 ≤ c := by omega
  have hk : k ≠ 0 := fun e => hn ⟨e, c3⟩
  rw [if_neg hk] at up ⊢
  rw [if_neg (show ¬ c < 0 by omega)]
  split
  · unfold rem
    simp only
    rw [if_neg (by omega), if_neg (by omega)]
    omega
  · split
    · unfold rem
      simp only
      rw [if_neg (by omega), if_pos (by omega)]
      omega
    · rw [fo]
      omega
theorem lts_prp (h : BkOk n T m rest) : ∀ i, Prp (m :: rest) (lts T (m :: rest) i)
  | 0 => by
    have hp := h.ph (k := 0) (by omega) (by simp only [List.length_cons]; omega)
    exact .of (by omega) (by simp only [List.length_cons]; omega) (by omega) (by rw [if_pos rfl]; omega)
  | i + 1 => nxt_prp h (lts_prp h i)
theorem rem_bd (h : BkOk n T m rest) : ∀ i : Nat, ((i : Int) + 1 ≤ T) → rem (m :: rest) (lts T (m :: rest) (i + 1)) ≤ T - (i + 1)
  | 0, hi => by
    have hT := h.T
    have hp := h.ph (k := 0) (by omega) (by simp only [List.length_cons]; omega)
    have e0 : phAt (m :: rest) 0 = m := rfl
    have ef := h.phs.fit
    have et : aft (m :: rest) 0 = tot rest := rfl
    have tn := tot_need (ps := rest) fun p hp => h.mem p (List.mem_cons_of_mem _ hp)
    have an := aft_nn h 0
    have af := aft_fol (m :: rest) (k := 0) (by omega)
    rw [e0] at hp
    have eb : ((0 : Nat) + T - 1) % T = T - 1 := by
      rw [show ((0 : Nat) : Int) + T - 1 = T - 1 by omega]
      exact Int.emod_eq_of_lt (by omega) (by omega)
    unfold lts
    rw [eb]
    unfold nxt lts
    simp only
    rw [if_neg (by omega), if_neg (by omega), if_pos trivial, e0]
    split
    · simp [rem]
      omega
    · rename_i hne
      split
      · unfold rem
        simp only
        rw [if_neg (by omega), if_pos (by omega)]
        omega
      · have : fol (m :: rest) 0 ≠ 0 := fun e => hne (.inr e)
        rw [if_neg this] at af
        unfold rem
        simp only
        rw [if_neg (fun e => this e.1), if_neg (by omega)]
        omega
  | i + 1, hi => by
    have ih := rem_bd h i (by omega)
    have hpr := lts_prp h (i + 1)
    have eb : (((i + 1 : Nat) : Int) + T - 1) % T = i := by
      rw [show (((i + 1 : Nat) : Int) + T - 1) = i + T by omega, Int.add_emod_right]
      exact Int.emod_eq_of_lt (by omega) (by omega)
    rw [lts, eb]
    by_cases hn : (lts T (m :: rest) (i + 1)).1 = 0 ∧ 0 ≤ (lts T (m :: rest) (i + 1)).2
    · have e : lts T (m :: rest) (i + 1) = (0, 0) := by
        have up := hpr.up
        rw [if_pos hn.1] at up
        exact Prod.ext hn.1 (by show _ = (0 : Int); omega)
      rw [e]
      have : nxt T (m :: rest) i (0, 0) = (0, 0) := by
        unfold nxt
        simp only
        rw [if_neg (by omega), if_neg (by omega), if_pos trivial, if_pos (.inl (by omega))]
      rw [this]
      simp [rem]
      omega
    · rw [rem_step h hpr hn]
      omega
theorem lts_round (h : BkOk n T m rest) : lts T (m :: rest) T.toNat = (0, 0) := by
  have hT := h.T
  obtain ⟨i, e⟩ : ∃ i : Nat, T.toNat = i + 1 := ⟨T.toNat - 1, by omega⟩
  rw [e]
  have hb := rem_bd h i (by omega)
  have hpr := lts_prp h (i + 1)
  have hn : (lts T (m :: rest) (i + 1)).1 = 0 ∧ 0 ≤ (lts T (m :: rest) (i + 1)).2 := by
    by_cases hn : (lts T (m :: rest) (i + 1)).1 = 0 ∧ 0 ≤ (lts T (m :: rest) (i + 1)).2
    · exact hn
    · have := rem_pos h hpr hn
      omega
  have up := hpr.up
  rw [if_pos hn.1] at up
  exact Prod.ext hn.1 (by show _ = (0 : Int); omega)
theorem lts_per (h : BkOk n T m rest) : ∀ i, lts T (m :: rest) (i + T.toNat) = lts T (m :: rest) i
  | 0 => by rw [Nat.zero_add]; exact lts_round h
  | i + 1 => by
    have hT := h.T
    rw [show i + 1 + T.toNat = (i + T.toNat) + 1 by omega, lts, lts, lts_per h i]
    congr 1
    rw [show ((i + T.toNat : Nat) : Int) + T - 1 = (i + T - 1) + T by omega, Int.add_emod_right]
theorem lts_mul (h : BkOk n T m rest) (i : Nat) : ∀ q : Nat, lts T (m :: rest) (i + q * T.toNat) = lts T (m :: rest) i
  | 0 => by rw [Nat.zero_mul, Nat.add_zero]
  | q + 1 => by rw [show i + (q + 1) * T.toNat = (i + q * T.toNat) + T.toNat by rw [Nat.succ_mul]; omega, lts_per h, lts_mul h i q]
/-- the same beat of another round -/
theorem lts_same (h : BkOk n T m rest) {i j : Nat} (e : i % T.toNat = j % T.toNat) : lts T (m :: rest) i = lts T (m :: rest) j := by
  have e1 := Nat.mod_add_div i T.toNat
  have e2 := Nat.mod_add_div j T.toNat
  rw [Nat.mul_comm] at e1 e2
  rw [← e1, ← e2, lts_mul h, lts_mul h, e]
end
end K63.P
end
section
set_option Elab.async false
set_option linter.all false
/-! P25: quiet, shown, beats_since. -/
namespace K63.P
open PySem CL CL.CP
def qrows (T : Int) (ps : List Ph) (n : Nat) : List D := (List.range n).map fun i : Nat => lit i (lts T ps (i + 1))
@[simp] theorem lit_bel (b : Int) (l : Int × Int) (n : Nat) : (lit b l).bel n = true := by simp [lit, D.bel, D.bels]
theorem maps_bel {α : Type} (f : α → D) (n : Nat) (h : ∀ a, (f a).bel n = true) : ∀ l : List α, D.bels n (l.map f) = true
  | [] => rfl
  | x :: r => by simp [D.bels, h x, maps_bel f n h r]
@[simp] theorem qrows_bel (T : Int) (ps : List Ph) (k n : Nat) : D.bels n (qrows T ps k) = true := maps_bel _ n (fun _ => by simp) _
def shn (ps : List Ph) (l : Int × Int) : List Int := if l.2 < 0 then [] else (phAt ps l.1).green
def srch (g : Nat → Bool) (d : Int) : Nat → Nat → Int
  | _, 0 => d
  | k, n + 1 => if g k = true then k else srch g d (k + 1) n
theorem srch_cases (g : Nat → Bool) (d : Int) : ∀ (k n : Nat), (∃ i, i < n ∧ g (k + i) = true ∧ (∀ j, j < i → g (k + j) = false) ∧ srch g d k n = (k + i : Nat)) ∨ ((∀ i, i < n → g (k + i) = false) ∧ srch g d k n = d)
  | k, 0 => .inr ⟨fun i hi => by omega, rfl⟩
  | k, n + 1 => by
    by_cases hg : g k = true
    · exact .inl ⟨0, by omega, hg, fun j hj => by omega, by simp [srch, hg]⟩
    · have hg' : g k = false := by simpa using hg
      rcases srch_cases g d (k + 1) n with ⟨i, h1, h2, h3, h4⟩ | ⟨h1, h2⟩
      · refine .inl ⟨i + 1, by omega, by rw [show k + (i + 1) = k + 1 + i by omega]; exact h2, fun j hj => ?_, by simp only [srch, hg]; rw [if_neg (by simp), h4]; congr 1; omega⟩
        cases j with
        | zero => exact hg'
        | succ j => rw [show k + (j + 1) = k + 1 + j by omega]; exact h3 j (by omega)
      · refine .inr ⟨fun i hi => ?_, by simp only [srch, hg]; rw [if_neg (by simp), h2]⟩
        cases i with
        | zero => exact hg'
        | succ j => rw [show k + (j + 1) = k + 1 + j by omega]; exact h1 j (by omega)
theorem srch_congr {g g' : Nat → Bool} {d : Int} : ∀ {k n : Nat}, (∀ i, i < n → g (k + i) = g' (k + i)) → srch g d k n = srch g' d k n
  | k, 0, _ => rfl
  | k, n + 1, h => by
    have h0 := h 0 (by omega)
    simp only [Nat.add_zero] at h0
    simp only [srch, h0]
    have ih := srch_congr (k := k + 1) (n := n) (d := d) (g := g) (g' := g') fun i hi => by
      have := h (i + 1) (by omega)
      rw [show k + (i + 1) = k + 1 + i by omega] at this
      exact this
    rw [ih]
/-- one round is enough to look at -/
theorem srch_round {g : Nat → Bool} {d : Int} {L T : Nat} (hT : 0 < T) (hp : ∀ i, i + T < L → g (i + T) = g i) : srch g d 0 (min L T) = srch g d 0 L := by
  by_cases hl : L ≤ T
  · rw [Nat.min_eq_left hl]
  · rw [Nat.min_eq_right (by omega)]
    have low : ∀ i, i < L → (∀ j, j < T → g j = false) → g i = false := by
      intro i
      induction i using Nat.strongRecOn with
      | ind i ih =>
        intro hi ha
        by_cases h : i < T
        · exact ha i h
        · have := hp (i - T) (by omega)
          rw [show i - T + T = i by omega] at this
          rw [this]
          exact ih (i - T) (by omega) (by omega) ha
    rcases srch_cases g d 0 T with ⟨i, h1, h2, h3, h4⟩ | ⟨h1, h2⟩
    · rcases srch_cases g d 0 L with ⟨j, k1, k2, k3, k4⟩ | ⟨k1, k2⟩
      · rw [h4, k4]
        by_cases hij : i = j
        · rw [hij]
        · by_cases hlt : i < j
          · have := k3 i hlt
            rw [h2] at this
            cases this
          · have := h3 j (by omega)
            rw [k2] at this
            cases this
      · have := k1 i (by omega)
        rw [h2] at this
        cases this
    · rcases srch_cases g d 0 L with ⟨j, k1, k2, k3, k4⟩ | ⟨k1, k2⟩
      · have := low j k1 fun i hi => by have := h1 i hi; rwa [Nat.zero_add] at this
        rw [Nat.zero_add] at k2
        rw [k2] at this
        cases this
      · rw [h2, k2]
section
variable {n T : Int} {rs : List Rv} {m : Ph} {rest : List Ph}
def QI (s0 : S) (b : D) (T : Int) (ps : List Ph) (j : Int) (ρ : List (Option D)) (s : S) : Prop := ∃ x3, 0 ≤ j ∧ ρ = [some b, some (lit ((j + T - 1) % T) (lts T ps j.toNat)), some (.cell s0.length), x3] ∧ s = s0 ++ [.lst (qrows T ps j.toNat)]
theorem quiet_ok (s : S) (h : BkOk n T m rest) (hT : T ≤ 12) : F_quiet [bkO n T rs m rest] s = .ok (.lst (qrows T (m :: rest) T.toNat)) s := by
  refine W_eq (runB_of rfl ?_)
  have hT2 := h.T
  have szn : (100000 : Nat) ≤ sizeLine := by decide
  have szi : (100000 : Int) ≤ sizeLine := by decide
  have three : 3 ≤ sizeLine := by omega
  generalize hU : Post s (fun d' s' => d' = .lst (qrows T (m :: rest) T.toNat) ∧ s' = s) = U
  rw [W_sSeq]
  simp [-W_sSeq, three]
  rw [W_sSeq]
  simp [-W_sSeq, D.bels]
  rw [W_sSeq]
  simp [-W_sSeq]
  refine ⟨⟨by omega, by omega⟩, ?_⟩
  have e0 : (D.tup [.int (T - 1), .int 0, .int 0]) = lit ((0 + T - 1) % T) (lts T (m :: rest) (0 : Int).toNat) := by
    rw [Int.emod_eq_of_lt (by omega) (by omega)]
    simp [lit, lts]
  rw [e0]
  refine W_forR (QI s (bkO n T rs m rest) T (m :: rest)) T ?_ ?_ T.toNat 0 _ _ (by omega) (by omega) ⟨none, by omega, rfl, rfl⟩
  · rintro j ρ s' hj ⟨x3, hj0, rfl, rfl⟩
    refine ⟨_, Tg_name, ?_⟩
    have hb : 0 ≤ (j + T - 1) % T ∧ (j + T - 1) % T < T := ⟨Int.emod_nonneg _ (by omega), Int.emod_lt_of_pos _ (by omega)⟩
    have nx := fun s => next_ok (rs := rs) s h hb (lts_prp h j.toNat)
    have e3 : ((j + T - 1) % T + 1) % T = j := by
      rw [Int.emod_add_emod, show j + T - 1 + 1 = j + T by omega, Int.add_emod_right]
      exact Int.emod_eq_of_lt hj0 hj
    simp only [e3] at nx
    have hlen : (qrows T (m :: rest) j.toNat).length < sizeLine := by simp [qrows]; omega
    simp [nx, isL, hlen]
    refine ⟨some (.int j), by omega, ?_, ?_⟩
    · have e1 : (j + 1).toNat = j.toNat + 1 := by omega
      have e2 : ((j.toNat : Nat) : Int) = j := by omega
      rw [e1, lts, e2]
      congr 4
      rw [show j + 1 + T - 1 = j + T by omega, Int.add_emod_right]
      exact (Int.emod_eq_of_lt hj0 hj).symm
    · have e1 : (j + 1).toNat = j.toNat + 1 := by omega
      have e2 : ((j.toNat : Nat) : Int) = j := by omega
      rw [e1]
      unfold qrows
      rw [List.range_succ, List.map_append]
      simp [lts, e2]
  · rintro ρ s' ⟨x3, hj0, rfl, rfl⟩
    simp [Ct.d]
    subst hU
    exact Post_retA (by simp [D.bel]) ⟨rfl, rfl⟩
theorem shown_ok (s : S) (h : BkOk n T m rest) {b : Int} {l : Int × Int} (hb : 0 ≤ b ∧ b < T) (hl : Prp (m :: rest) l) : F_shown [bkO n T rs m rest, lit b l] s = .ok (.tup (iDs (shn (m :: rest) l))) s := by
  refine W_eq (runB_of rfl ?_)
  have hp := h.ph hl.k.1 hl.k.2
  have ck := check_lights_ok (rs := rs) (n := n) s hb hl h.few hp.2.1
  obtain ⟨k, c⟩ := l
  have bp := bphase_ok (rs := rs) (n := n) (T := T) s hl.k.1 hl.k.2
  simp only [lit] at *
  simp [ck, bp]
  refine ⟨fun hc => ?_, fun hc => ?_⟩
  · simp at hc
    simp
    exact Post_ret0 (by simp [D.bel, D.bels]) ⟨by simp [shn, hc, iDs], rfl⟩
  · simp at hc
    simp [bp]
    exact Post_ret0 (by simp [D.bel]) ⟨by simp only [shn]; rw [if_neg (by omega)], rfl⟩
theorem longest_ok (s : S) {st : Int} (h0 : 0 ≤ st) (h1 : st < n) (hn : n ≤ 6) : F_Crossing_longest [crO n rs, .int st] s = .ok (.int (reach rs st)) s := by
  refine W_eq (runB_of rfl ?_)
  have n0 : 0 ≤ n := by omega
  have n1 : n < 9223372036854775808 := by omega
  have cs : ∀ s, F_check_stream [crO n rs, .int st] s = .ok .non s := by
    intro s
    refine W_eq (runB_of rfl ?_)
    simp [h0, h1, clen_ok s (show 1 ≤ n by omega) hn, n0, n1]
    exact Post_nx0 ⟨rfl, rfl⟩
  have e : ((List.range n.toNat).map fun i : Nat => D.int (reach rs i))[st.toNat]? = some (.int (reach rs st)) := by
    rw [List.getElem?_map, List.getElem?_range (by omega)]
    simp
    congr 1
    omega
  simp [cs, atI_nn h0, e, -List.getElem?_map]
  exact Post_ret0 rfl ⟨rfl, rfl⟩
/-- was the stream green so many beats before -/
def gB (T : Int) (ps : List Ph) (beat st : Int) (gap : Nat) : Bool := decide (st ∈ shn ps (lts T ps (((beat - 1 - gap) % T).toNat + 1)))
def BsI (s0 : S) (e0 : List (Option D)) (g : Nat → Bool) (d : Int) (N : Nat) (j : Int) (ρ : List (Option D)) (s : S) : Prop := ∃ x, 0 ≤ j ∧ srch g d j.toNat (N - j.toNat) = srch g d 0 N ∧ ρ = e0 ++ [x] ∧ s = s0
theorem beats_since_ok (s : S) (h : BkOk n T m rest) (hT : T ≤ 12) {beat st : Int} (hb : 0 ≤ beat ∧ beat < T) (h0 : 0 ≤ st) (h1 : st < n) (hn : n ≤ 6) (hr : ∀ r ∈ rs, Rv.ok n r) :
    F_beats_since [bkO n T rs m rest, .lst (qrows T (m :: rest) T.toNat), .int beat, .int st] s = .ok (.int (srch (gB T (m :: rest) beat st) (reach rs st) 0 (min (reach rs st).toNat T.toNat))) s := by
  refine W_eq (runB_of rfl ?_)
  have hT2 := h.T
  have rb := reach_bd hr st
  have szi : (100000 : Int) ≤ sizeLine := by decide
  have md : ∀ s x, modD s (.int x) (.int T) = some (.int (x % T)) := fun s x => o_mod (by omega)
  rw [W_sSeq]
  simp [-W_sSeq, longest_ok s h0 h1 hn]
  rw [W_sSeq]
  simp [-W_sSeq]
  have hN : (if T < reach rs st then T else reach rs st) = ((min (reach rs st).toNat T.toNat : Nat) : Int) := by split <;> omega
  rw [hN]
  generalize hNN : min (reach rs st).toNat T.toNat = N
  refine ⟨⟨by omega, by omega⟩, ?_⟩
  refine W_forR (BsI s [some (bkO n T rs m rest), some (.lst (qrows T (m :: rest) T.toNat)), some (.int beat), some (.int st), some (.int (reach rs st))] (gB T (m :: rest) beat st) (reach rs st) N) N ?_ ?_ N 0 _ _ (by omega) (by omega) ⟨none, by omega, rfl, rfl, rfl⟩
  · rintro j ρ s' hj ⟨x, hj0, e, rfl, rfl⟩
    refine ⟨_, Tg_name, ?_⟩
    have hq0 : 0 ≤ (beat - 1 - j) % T := Int.emod_nonneg _ (by omega)
    have hq1 : (beat - 1 - j) % T < T := Int.emod_lt_of_pos _ (by omega)
    have er : (qrows T (m :: rest) T.toNat)[((beat - 1 - j) % T).toNat]? = some (lit ((beat - 1 - j) % T) (lts T (m :: rest) (((beat - 1 - j) % T).toNat + 1))) := by
      unfold qrows
      rw [List.getElem?_map, List.getElem?_range (by omega)]
      simp only [Option.map_some]
      congr 2
      omega
    have sh := shown_ok (rs := rs) s' h ⟨hq0, hq1⟩ (lts_prp h (((beat - 1 - j) % T).toNat + 1))
    have eg : gB T (m :: rest) beat st j.toNat = decide (st ∈ shn (m :: rest) (lts T (m :: rest) (((beat - 1 - j) % T).toNat + 1))) := by
      unfold gB
      rw [show ((j.toNat : Nat) : Int) = j by omega]
    obtain ⟨q, eq⟩ : ∃ q, N - j.toNat = q + 1 := ⟨N - j.toNat - 1, by omega⟩
    rw [eq] at e
    simp only [srch, eg] at e
    simp [md, atI_nn hq0, er, sh, o_inT]
    refine ⟨fun hc => ?_, fun hc => ?_⟩
    · rw [if_pos hc] at e
      simp
      exact Post_ret0 rfl ⟨by rw [← e]; congr 1; omega, rfl⟩
    · rw [if_neg (by simp at hc ⊢; exact hc)] at e
      simp
      refine ⟨some (.int j), by omega, ?_, rfl, rfl⟩
      rw [← e]
      congr 1 <;> omega
  · rintro ρ s' ⟨x, hj0, e, rfl, rfl⟩
    simp only [Int.toNat_natCast, Nat.sub_self, srch] at e
    simp
    exact Post_ret0 rfl ⟨by rw [← e], rfl⟩
end
end K63.P
end
section
set_option Elab.async false
set_option linter.all false
/-! P26: the first state. -/
namespace K63.P
open PySem CL CL.CP
def cred : Ln → Int
  | .foot _ => 0
  | .road _ none _ => 0
  | .road _ (some (x, y, z)) _ => x * z + y - 1
theorem first_credit_ok (s : S) {l : Ln} {sp : Int} {c : Bool} (h : l.ok sp c) : F_first_credit [l.obj] s = .ok (.int (cred l)) s := by
  refine W_eq (runB_of rfl ?_)
  rcases l with b | ⟨r, q, b⟩
  · simp [Ln.isF]
    exact Post_ret0 rfl ⟨rfl, rfl⟩
  · have e11 : ∀ s, fldD 11 s (Ln.obj (.road r q b)) = some (rateO q) := fun s => rfl
    rcases q with _ | ⟨x, y, z⟩
    · simp [Ln.isF, e11, rateO]
      exact Post_ret0 rfl ⟨rfl, rfl⟩
    · have hp := h.pace r x y z b rfl
      have ne : rateO (some (x, y, z)) ≠ .non := by simp [rateO]
      have f20 : ∀ s, fldD 20 s (rateO (some (x, y, z))) = some (.int x) := fun s => rfl
      have f21 : ∀ s, fldD 21 s (rateO (some (x, y, z))) = some (.int y) := fun s => rfl
      have f22 : ∀ s, fldD 22 s (rateO (some (x, y, z))) = some (.int z) := fun s => rfl
      have cl : ∀ s, clsOf s (rateO (some (x, y, z))) = some 5 := fun s => rfl
      have fl : ∀ s, F_Rate_full [rateO (some (x, y, z))] s = .ok (.int (x * z + y - 1)) s := by
        intro s
        refine W_eq (runB_of rfl ?_)
        have ml : ∀ s, mulD s (.int x) (.int z) = some (.int (x * z)) := fun s => o_mull ⟨by omega, by omega⟩
        simp [f20, f21, f22, ml]
        exact Post_ret0 rfl ⟨rfl, rfl⟩
      simp [Ln.isF, e11, ne, cl, fl]
      exact Post_ret0 rfl ⟨rfl, rfl⟩
section
variable {x : Tw}
theorem town_len_ok (s : S) : F_Town_len [twO x] s = .ok (.int (lnsT x.sis).length) s := by
  refine W_eq (runB_of rfl ?_)
  simp [pairsD_len]
  exact Post_ret0 rfl ⟨rfl, rfl⟩
theorem town_lane_ok (s : S) {i : Nat} {l : Ln} (h : (lnsT x.sis)[i]? = some l) : F_Town_lane [twO x, .int i] s = .ok l.obj s := by
  refine W_eq (runB_of rfl ?_)
  obtain ⟨hi, e⟩ := List.getElem?_eq_some_iff.mp h
  have hi' : (i : Int) < (lnsT x.sis).length := by omega
  simp [atI_nat, hi, hi', h, e]
  exact Post_ret0 (by simp) ⟨rfl, rfl⟩
theorem map_range {α β : Type} (f : α → β) (l : List α) (d : α) : (List.range l.length).map (fun i => f ((l[i]?).getD d)) = l.map f := by
  apply List.ext_getElem
  · simp
  · intro i h1 h2
    simp at h1 h2
    simp [h1]
/-- what is told of a site: its book as numbers -/
abbrev Si.ps (y : Si) : List Ph := y.m :: y.rest
def sinceOf (T : Int) (y : Si) (b st : Int) : Int := srch (gB T y.ps b st) (reach y.rivals st) 0 (min (reach y.rivals st).toNat T.toNat)
def ltOf (T : Int) (p : Si × Int) : Int × Int := lts T p.1.ps (((-p.2) % T).toNat + 1)
def ltD (l : Int × Int) : D := .tup [.int l.1, .int l.2]
def lightsD (T : Int) (L : List (Si × Int)) : List D := L.map fun p => ltD (ltOf T p)
def sinceL (T : Int) (L : List (Si × Int)) : List Int := (L.map fun p => (List.range p.1.lanes.length).map fun i : Nat => sinceOf T p.1 ((-p.2) % T) i).flatten
@[simp] theorem lightsD_bel (T : Int) (L : List (Si × Int)) (n : Nat) : D.bels n (lightsD T L) = true := maps_bel _ n (fun _ => by simp [ltD, D.bel, D.bels]) _
theorem sinceL_len (T : Int) : ∀ (L : List (Si × Int)), (∀ p ∈ L, p.1.lanes.length ≤ 6) → (sinceL T L).length ≤ 6 * L.length
  | [], _ => by simp [sinceL]
  | p :: r, h => by
    have := sinceL_len T r fun q hq => h q (List.mem_cons_of_mem _ hq)
    have := h p (List.mem_cons_self ..)
    unfold sinceL at *
    simp only [List.map_cons, List.flatten_cons, List.length_append, List.length_map, List.length_range, List.length_cons]
    omega
theorem sinceL_app (T : Int) (a : List (Si × Int)) (p : Si × Int) : sinceL T (a ++ [p]) = sinceL T a ++ (List.range p.1.lanes.length).map fun i : Nat => sinceOf T p.1 ((-p.2) % T) i := by
  simp [sinceL]
def FsI (s0 : S) (x : Tw) (L : List (Si × Int)) (r : List D) (ρ : List (Option D)) (s : S) : Prop := ∃ pre post x6 x7 x8 x9 x10, L = pre ++ post ∧ r = post.map (fun p => .tup [siO x.T p.1, .int p.2]) ∧
  ρ = [some (twO x), some (.cell s0.length), some (.cell (s0.length + 1)), none, none, none, x6, x7, x8, x9, x10, none, none] ∧ s = s0 ++ [.lst (lightsD x.T pre), .lst (iDs (sinceL x.T pre))]
def FsJ (s0 : S) (x : Tw) (pre : List (Si × Int)) (p : Si × Int) (j : Int) (ρ : List (Option D)) (s : S) : Prop := ∃ x10, 0 ≤ j ∧
  ρ = [some (twO x), some (.cell s0.length), some (.cell (s0.length + 1)), none, none, none, some (siO x.T p.1), some (.int p.2), some (.int ((-p.2) % x.T)), some (.lst (qrows x.T p.1.ps x.T.toNat)), x10, none, none] ∧
  s = s0 ++ [.lst (lightsD x.T (pre ++ [p])), .lst (iDs (sinceL x.T pre ++ (List.range j.toNat).map fun i : Nat => sinceOf x.T p.1 ((-p.2) % x.T) i))]
theorem zip_tw (T : Int) : ∀ (a : List Si) (b : List Int), zipD (a.map (siO T)) (b.map .int) = (a.zip b).map fun p => .tup [siO T p.1, .int p.2]
  | [], _ => by simp [zipD]
  | _ :: _, [] => by simp [zipD]
  | x :: a, y :: b => by simp [zipD, zip_tw T a b]
def stD (x : Tw) : D :=
  .tup [.int 0, .tup (lightsD x.T (x.sis.zip x.offs)), .tup (iDs (sinceL x.T (x.sis.zip x.offs))), .tup (List.replicate (lnsT x.sis).length (.int 0)), .tup (List.replicate (lnsT x.sis).length (.int (-1))), .tup (List.replicate (lnsT x.sis).length (.int 0)),
    .tup (iDs ((lnsT x.sis).map cred)), .tup (x.sts.map fun t => .tup (List.replicate t.t.toNat (.int 0)))]
theorem reps_bel (v : Int) (n : Nat) : ∀ k, D.bels n (List.replicate k (.int v)) = true
  | 0 => rfl
  | k + 1 => by simp [List.replicate_succ, D.bels, D.bel, reps_bel v n k]
@[simp] theorem stD_bel (x : Tw) (n : Nat) : (stD x).bel n = true := by
  have := maps_bel (fun t : St => D.tup (List.replicate t.t.toNat (.int 0))) n (fun t => by simp [D.bel, reps_bel]) x.sts
  simp [stD, D.bel, D.bels, reps_bel, this]
theorem o_zeros {s : S} {v n : Int} (h : 1 ≤ n) (h' : n ≤ 1000) : mulD s (.tup [.int v]) (.int n) = some (.tup (List.replicate n.toNat (.int v))) := by
  simp only [mulD]
  rw [if_pos ⟨h, h', by simp, by simp⟩]
  have : ∀ k, (List.replicate k [D.int v]).flatten = List.replicate k (.int v) := by
    intro k
    induction k with
    | zero => rfl
    | succ k ih => simp [List.replicate_succ, ih]
  rw [this]
theorem Si.ok.bk {T sp : Int} {y : Si} (h : y.ok T sp) (hT : 2 ≤ T) : BkOk y.n T y.m y.rest := ⟨h.phs, h.few, hT⟩
theorem lnsT_mem : ∀ {l : List Si} {p : Ln}, p ∈ lnsT l → ∃ y ∈ l, p ∈ y.lanes
  | [], p, h => by simp [lnsT] at h
  | x :: r, p, h => by
    simp only [lnsT, List.mem_append] at h
    rcases h with h | h
    · exact ⟨x, by simp, h⟩
    · obtain ⟨y, hy, hp⟩ := lnsT_mem h
      exact ⟨y, by simp [hy], hp⟩
theorem Tw.ok.lanes {x : Tw} (h : x.ok) : ∀ p ∈ lnsT x.sis, ∃ sp c, p.ok sp c := fun p hp => by
  obtain ⟨y, hy, hp⟩ := lnsT_mem hp
  obtain ⟨sp, hy⟩ := h.each y hy
  exact hy.lanes p hp
theorem first_state_ok (s : S) (h : x.ok) : F_first_state [twO x] s = .ok (stD x) s := by
  refine W_eq (runB_of rfl ?_)
  obtain ⟨T2, T12⟩ := h.T
  obtain ⟨n1, n4⟩ := h.n
  have szn : (100000 : Nat) ≤ sizeLine := by decide
  have szi : (100000 : Int) ≤ sizeLine := by decide
  have md : ∀ s v, modD s (.int v) (.int x.T) = some (.int (v % x.T)) := fun s v => o_mod (by omega)
  have hL : ∀ p ∈ x.sis.zip x.offs, p.1 ∈ x.sis := fun p hp => (List.of_mem_zip hp).1
  have hLl : (x.sis.zip x.offs).length ≤ 4 := by simp; omega
  have hl24 := h.lns
  generalize hU : Post s (fun d' s' => d' = stD x ∧ s' = s) = U
  rw [W_sSeq]
  simp [-W_sSeq, D.bels]
  rw [W_sSeq]
  simp [-W_sSeq, D.bels]
  rw [W_sSeq, W_sFor]
  unfold iZip
  simp only [W_b, W_e1, W_eVar, look_zero, Sm_some, two28, two29, W_ok]
  unfold iDs
  rw [zip_tw]
  refine W_forF (I := FsI s x (x.sis.zip x.offs)) ?_ ?_ _ _ _ ⟨[], x.sis.zip x.offs, none, none, none, none, none, rfl, rfl, rfl, rfl⟩
  · rintro d r ρ s' ⟨pre, post, x6, x7, x8, x9, x10, e, er, rfl, rfl⟩
    cases post with
    | nil => simp at er
    | cons p post =>
      simp only [List.map_cons, List.cons.injEq] at er
      obtain ⟨rfl, rfl⟩ := er
      refine ⟨_, Tg_tup0.trans (by simp; rfl), ?_⟩
      have hpm : p.1 ∈ x.sis := hL p (by rw [e]; simp)
      obtain ⟨sp, hp⟩ := h.each _ hpm
      have hbk := hp.bk T2
      have qk := fun s => quiet_ok (rs := p.1.rivals) s hbk T12
      have b0 : 0 ≤ (-p.2) % x.T := Int.emod_nonneg _ (by omega)
      have b1 : (-p.2) % x.T < x.T := Int.emod_lt_of_pos _ (by omega)
      have er : (qrows x.T p.1.ps x.T.toNat)[((-p.2) % x.T).toNat]? = some (lit ((-p.2) % x.T) (ltOf x.T p)) := by
        unfold qrows
        rw [List.getElem?_map, List.getElem?_range (by omega)]
        simp only [Option.map_some, ltOf]
        congr 2
        omega
      have hpl : (pre.length : Nat) ≤ 4 := by
        have : pre.length ≤ (x.sis.zip x.offs).length := by rw [e]; simp
        omega
      have l1 : (lightsD x.T pre).length < sizeLine := by simp [lightsD]; omega
      have hlan : p.1.lanes.length ≤ 6 := h.few _ hpm
      have hsl := sinceL_len x.T pre fun q hq => h.few _ (hL q (by rw [e]; simp [hq]))
      have sl : ∀ s, slD s (lit ((-p.2) % x.T) (ltOf x.T p)) (some 1) none = some (ltD (ltOf x.T p)) := fun s => by
        simp [lit, cut_tail, ltD]
      have bl : ∀ n, D.bel n (ltD (ltOf x.T p)) = true := fun n => by simp [ltD, D.bel, D.bels]
      rw [W_sSeq]
      simp [-W_sSeq, md]
      rw [W_sSeq]
      simp [-W_sSeq, qk]
      rw [W_sSeq]
      simp [-W_sSeq, isL, atI_nn b0, er, sl, l1, bl]
      rw [W_sSeq]
      simp [-W_sSeq]
      refine ⟨by omega, ?_⟩
      refine W_forR (FsJ s x pre p) p.1.lanes.length ?_ ?_ p.1.lanes.length 0 _ _ (by omega) (by omega) ⟨x10, by omega, rfl, by simp [lightsD]⟩
      · rintro j ρ s' hj ⟨x10, hj0, rfl, rfl⟩
        refine ⟨_, Tg_name, ?_⟩
        have hjn : j < p.1.n := by have := hp.len; omega
        have bs := fun s => beats_since_ok (rs := p.1.rivals) s hbk T12 ⟨b0, b1⟩ hj0 hjn hp.n.2 hp.rivals.1
        have l2 : (iDs (sinceL x.T pre ++ (List.range j.toNat).map fun i : Nat => sinceOf x.T p.1 ((-p.2) % x.T) i)).length < sizeLine := by
          simp only [iDs_len, List.length_append, List.length_map, List.length_range]
          omega
        simp only [iDs_len, List.length_append, List.length_map, List.length_range] at l2
        simp [isL, bs, l2, D.bel]
        refine ⟨some (.int j), by omega, rfl, ?_⟩
        rw [show (j + 1).toNat = j.toNat + 1 by omega, List.range_succ, List.map_append, ← List.append_assoc, iDs_app (sinceL x.T pre ++ _)]
        simp [iDs, sinceOf, show ((j.toNat : Nat) : Int) = j by omega]
      · rintro ρ s' ⟨x10, hj0, rfl, rfl⟩
        simp
        refine ⟨pre ++ [p], post, _, _, _, _, _, by simp [e], rfl, rfl, ?_⟩
        rw [sinceL_app]
  · rintro ρ s' ⟨pre, post, x6, x7, x8, x9, x10, e, er, rfl, rfl⟩
    cases post with
    | cons y post => simp at er
    | nil =>
      simp at e
      subst e
      have ln0 : 1 ≤ (lnsT x.sis).length := by
        cases hs : x.sis with
        | nil => rw [hs] at n1; simp at n1
        | cons y r =>
          obtain ⟨sp, hy⟩ := h.each y (by rw [hs]; simp)
          have := hy.len
          have := hy.n
          simp [lnsT]
          omega
      have c0 : (0 : Int) ≤ (lnsT x.sis).length := by omega
      have c1 : ((lnsT x.sis).length : Int) < 9223372036854775808 := by omega
      simp [-W_sSeq]
      rw [W_sSeq]
      simp [-W_sSeq, Ct.d]
      rw [W_sSeq]
      simp [-W_sSeq, Ct.d]
      rw [W_sSeq]
      simp [-W_sSeq, town_len_ok, c1]
      rw [W_sSeq]
      simp [-W_sSeq, wipeE]
      refine ⟨by omega, ?_⟩
      refine (compR_all (fun i : Nat => .int (cred (((lnsT x.sis)[i]?).getD (.foot 0)))) (lnsT x.sis).length (by omega) ?_).mono ?_
      · intro i hi
        refine ⟨_, Tg_name, ?_⟩
        have hi' : i < (lnsT x.sis).length := by omega
        have e := List.getElem?_eq_getElem hi'
        obtain ⟨sp, c, hok⟩ := h.lanes _ (List.getElem_mem hi')
        simp [town_lane_ok _ e, first_credit_ok _ hok, e, hi']
      rintro ys s' ⟨rfl, rfl⟩
      have ec : ((List.range ((lnsT x.sis).length : Int).toNat).map fun i : Nat => D.int (cred (((lnsT x.sis)[i]?).getD (.foot 0)))) = iDs ((lnsT x.sis).map cred) := by
        have := map_range (fun l => D.int (cred l)) (lnsT x.sis) (.foot 0)
        rw [Int.toNat_natCast, this]
        simp [iDs]
      rw [ec]
      simp [-W_sSeq]
      rw [W_sSeq]
      simp [-W_sSeq, wipeE]
      refine (compF_all stO (fun t => .tup (List.replicate t.t.toNat (.int 0))) x.sts ?_).mono ?_
      · intro t ht
        have := (h.sts.each t ht).t
        refine ⟨_, Tg_name, ?_⟩
        have one : 1 ≤ sizeLine := by omega
        simp [one, o_zeros this.1 (by omega : t.t ≤ 1000)]
      rintro ys s' ⟨rfl, rfl⟩
      have one : 1 ≤ sizeLine := by omega
      have eight : 8 ≤ sizeLine := by omega
      have z := fun (v : Int) (s : S) => o_zeros (s := s) (v := v) (n := (lnsT x.sis).length) (by omega) (by omega)
      simp only [Int.toNat_natCast] at z
      simp [one, z, eight]
      subst hU
      exact Post_retA (stD_bel x _) ⟨rfl, rfl⟩
end
end K63.P
end
section
set_option Elab.async false
set_option linter.all false
/-! P27: what the law tells of a book at which nothing comes. -/
namespace K63.P
open PySem CL CL.CP
section
variable {n T : Int} {rs : List Rv} {m : Ph} {rest : List Ph}
theorem law5 {s : S} {p : Ph} : ixD s p.law (.int 5) = some (.tup (iDs p.calls)) := by unfold Ph.law; rfl
theorem ix_phs {s : S} {k : Int} (h0 : 0 ≤ k) (h1 : k < ((m :: rest).length : Nat)) : ixD s (.lst (lawPhs m rest)) (.int k) = some (phAt (m :: rest) k).law := by
  rw [o_ixl, atI_nn h0]
  unfold lawPhs
  rw [List.getElem?_map, phAt_get h0 h1]
  rfl
def LfI (s0 : S) (T : Int) (m : Ph) (rest : List Ph) (k j : Int) (ρ : List (Option D)) (s : S) : Prop := ∃ x, folFrom j ((m :: rest).drop j.toNat) = fol (m :: rest) k ∧ 0 < j ∧ ρ = [some (.int T), some (.lst (lawPhs m rest)), some (.int k), x] ∧ s = s0
theorem law_following_ok (s : S) {k : Int} (h0 : 0 ≤ k) (h1 : k < ((m :: rest).length : Nat)) (hr : rest.length ≤ 11) : F_law_following [.int T, .lst (lawPhs m rest), .int k] s = .ok (.int (fol (m :: rest) k)) s := by
  refine W_eq (runB_of rfl ?_)
  have h2 : k < (rest.length : Int) + 1 := by simpa using h1
  have szi : (100000 : Int) ≤ sizeLine := by decide
  have el : ((lawPhs m rest).length : Int) = rest.length + 1 := by simp [lawPhs]
  rw [W_sSeq]
  simp [-W_sSeq, el]
  refine ⟨⟨by omega, by omega, by omega, by omega⟩, ?_⟩
  refine W_forR (LfI s T m rest k) (rest.length + 1) ?_ ?_ (rest.length + 1 - (k + 1)).toNat (k + 1) _ _ (by omega) rfl ⟨none, by unfold fol; rw [show (k + 1).toNat = k.toNat + 1 by omega], by omega, rfl, rfl⟩
  · rintro j ρ s' hj ⟨x, e, hj0, rfl, rfl⟩
    refine ⟨_, Tg_name, ?_⟩
    have hj1 : j < ((m :: rest).length : Nat) := by simp only [List.length_cons]; omega
    have ix := fun s => ix_phs (s := s) (show 0 ≤ j by omega) hj1
    rw [drop_phAt (by omega) hj1] at e
    unfold folFrom at e
    simp only [W_sSeq, W_sIf, W_tVal, W_e2, W_e1, W_eVar, W_eC, look_zero, look_succ, put_succ, put_zero, Sm_some, ix, law5, o_lent, iDs_len, o_eq, Bl_bl]
    refine ⟨fun hc => ?_, fun hc => ?_⟩
    · have hc' : (phAt (m :: rest) j).calls = [] := List.length_eq_zero_iff.mp (by simp at hc; simpa using hc)
      rw [if_pos hc'] at e
      simp
      rw [e]
      exact Post_ret0 rfl ⟨rfl, rfl⟩
    · have hc' : ¬ (phAt (m :: rest) j).calls = [] := fun h => by rw [h] at hc; simp at hc
      rw [if_neg hc'] at e
      simp
      exact ⟨_, e, by omega, rfl, rfl⟩
  · rintro ρ s' ⟨x, e, hj0, rfl, rfl⟩
    rw [List.drop_of_length_le (by simp)] at e
    simp [folFrom] at e
    rw [← e]
    simp
    exact Post_ret0 rfl ⟨rfl, rfl⟩
theorem beat_last {T : Int} (hT : 2 ≤ T) (k : Int) : (k + T - 1) % T = T - 1 ↔ k % T = 0 := by
  have r0 := Int.emod_nonneg k (show T ≠ 0 by omega)
  have r1 := Int.emod_lt_of_pos k (show 0 < T by omega)
  have e : (k + T - 1) % T = (k % T + (T - 1)) % T := by
    rw [Int.emod_add_emod]
    congr 1
    omega
  rw [e]
  by_cases h : k % T = 0
  · rw [h, Int.emod_eq_of_lt (by omega) (by omega)]
    omega
  · rw [show k % T + (T - 1) = (k % T - 1) + T by omega, Int.add_emod_right, Int.emod_eq_of_lt (by omega) (by omega)]
    omega
def lrows (T : Int) (ps : List Ph) (n : Nat) : List D := (List.range n).map fun i : Nat => ltD (lts T ps (i + 1))
@[simp] theorem lrows_bel (T : Int) (ps : List Ph) (k n : Nat) : D.bels n (lrows T ps k) = true := maps_bel _ n (fun _ => by simp [ltD, D.bel, D.bels]) _
@[simp] theorem lrows_len (T : Int) (ps : List Ph) (k : Nat) : (lrows T ps k).length = k := by simp [lrows]
theorem lrows_succ (T : Int) (ps : List Ph) (k : Nat) : lrows T ps (k + 1) = lrows T ps k ++ [ltD (lts T ps (k + 1))] := by
  simp [lrows, List.range_succ]
def SlI (s0 : S) (T : Int) (m : Ph) (rest : List Ph) (beat : Int) (j : Int) (ρ : List (Option D)) (s : S) : Prop := ∃ number green calm x7 x8, 0 ≤ j ∧ 1 ≤ green ∧ 0 ≤ calm ∧ lts T (m :: rest) j.toNat = (number, if 0 < calm then -calm else green - 1) ∧
  ρ = [some (.int T), some (.lst (lawPhs m rest)), some (.int beat), some (.cell s0.length), some (.int number), some (.int green), some (.int calm), x7, x8] ∧ s = s0 ++ [.lst (lrows T (m :: rest) j.toNat)]
theorem law_still_ok (s : S) (h : BkOk n T m rest) (hT : T ≤ 12) {beat : Int} (hb : 0 ≤ beat ∧ beat < T) : F_law_still [.int T, .lst (lawPhs m rest), .int beat] s = .ok (.lst (lrows T (m :: rest) (beat + 1 + 9 * T).toNat)) s := by
  refine W_eq (runB_of rfl ?_)
  have hT2 := h.T
  have szn : (100000 : Nat) ≤ sizeLine := by decide
  have szi : (100000 : Int) ≤ sizeLine := by decide
  have two : 2 ≤ sizeLine := by omega
  generalize hU : Post s (fun d' s' => d' = .lst (lrows T (m :: rest) (beat + 1 + 9 * T).toNat) ∧ s' = s) = U
  rw [W_sSeq]
  simp [-W_sSeq, D.bels]
  rw [W_sSeq]
  simp [-W_sSeq]
  rw [W_sSeq]
  simp [-W_sSeq]
  rw [W_sSeq]
  simp [-W_sSeq]
  rw [W_sSeq]
  have ml : ∀ s, mulD s (.int 9) (.int T) = some (.int (9 * T)) := fun s => o_mull ⟨by omega, by omega⟩
  have md : ∀ s x, modD s (.int x) (.int T) = some (.int (x % T)) := fun s x => o_mod (by omega)
  simp [-W_sSeq, ml]
  refine ⟨⟨by omega, by omega⟩, ?_⟩
  have r1 : ∀ k, phAt (m :: rest) k = phAt (m :: rest) k := fun _ => rfl
  refine W_forR (SlI s T m rest beat) (beat + 1 + 9 * T) ?_ ?_ (beat + 1 + 9 * T).toNat 0 _ _ (by omega) (by omega) ⟨0, 1, 0, none, none, by omega, by omega, by omega, rfl, rfl, rfl⟩
  · rintro j ρ s' hj ⟨nu, gr, ca, x7, x8, hj0, hgr, hca, hl, rfl, rfl⟩
    refine ⟨_, Tg_name, ?_⟩
    have hpr := lts_prp h j.toNat
    rw [hl] at hpr
    have k0 := hpr.k.1
    have k1 := hpr.k.2
    have up := hpr.up
    simp only at k0 k1 up
    have hp := h.ph k0 k1
    have z1 : (0 : Int) < ((m :: rest).length : Nat) := by simp only [List.length_cons]; omega
    have ix := fun s => ix_phs (s := s) k0 k1
    have fo := fun s => law_following_ok (T := T) s k0 k1 h.few
    have fo0 := fun s => law_following_ok (T := T) (m := m) (rest := rest) s (k := 0) (by omega) z1 h.few
    have hlen : (lrows T (m :: rest) j.toNat).length < sizeLine := by simp; omega
    have l2 : j.toNat < sizeLine := by omega
    have en : lts T (m :: rest) (j + 1).toNat = nxt T (m :: rest) ((j + T - 1) % T) (nu, if 0 < ca then -ca else gr - 1) := by
      rw [show (j + 1).toNat = j.toNat + 1 by omega, lts, hl]
      congr 2
      omega
    have ejn : (j + 1).toNat = j.toNat + 1 := by omega
    have bl := beat_last hT2 j
    have fin : ∀ nu' gr' ca' x8 d, 1 ≤ gr' → 0 ≤ ca' → nxt T (m :: rest) ((j + T - 1) % T) (nu, if 0 < ca then -ca else gr - 1) = (nu', if 0 < ca' then -ca' else gr' - 1) → d = ltD (nu', if 0 < ca' then -ca' else gr' - 1) →
        SlI s T m rest beat (j + 1) [some (.int T), some (.lst (lawPhs m rest)), some (.int beat), some (.cell s.length), some (.int nu'), some (.int gr'), some (.int ca'), some (.int j), x8] (s ++ [.lst (lrows T (m :: rest) j.toNat ++ [d])]) := by
      rintro nu' gr' ca' x8 d hg h0 h1 rfl
      refine ⟨nu', gr', ca', _, _, by omega, hg, h0, en.trans h1, rfl, ?_⟩
      rw [ejn, lrows_succ, ← ejn, en, h1]
    by_cases c1 : 1 < ca
    · have a1 : 0 < ca := by omega
      have a2 : ¬ (ca - 1 = 0) := by omega
      simp [a1, a2, c1, two, isL, l2, D.bel, D.bels]
      exact fin nu gr (ca - 1) _ _ hgr (by omega) (by rw [if_pos a1, if_pos (by omega)]; unfold nxt; simp only; rw [if_pos (by omega)]; congr 1; omega) (by rw [if_pos (by omega)]; simp [ltD])
    by_cases c2 : ca = 1
    · subst c2
      simp [fo, two, isL, l2, D.bel, D.bels]
      exact fin _ 1 0 _ _ (by omega) (by omega) (by simp [nxt]) (by simp [ltD])
    have c3 : ca = 0 := by omega
    subst c3
    simp only [Int.lt_irrefl, if_false] at *
    have lw : ∀ s, ixD s (.lst (lawPhs m rest)) (.int nu) = some (phAt (m :: rest) nu).law := ix
    simp only [o_ixl] at lw
    have lw := lw []
    have lc : ∀ (p : Ph) s, ixD s p.law (.int 1) = some (.int p.lo) := fun p s => law1
    have lm : ∀ (p : Ph) s, ixD s p.law (.int 3) = some (.int p.calm) := fun p s => law3
    by_cases hk : nu = 0
    · subst hk
      rw [if_pos rfl] at up
      obtain rfl : gr = 1 := by omega
      by_cases hg : (j + T - 1) % T ≠ T - 1 ∨ fol (m :: rest) 0 = 0
      · have fin' := fin 0 1 0 (some (.bl false)) (ltD (0, 0)) (by omega) (by omega) (by unfold nxt; simp only; rw [if_neg (by omega), if_neg (by omega), if_pos trivial, if_pos hg]; rfl) rfl
        by_cases hb : j % T = 0
        · have hf : fol (m :: rest) 0 = 0 := hg.resolve_left fun h => h (bl.mpr hb)
          have fo' : ∀ s, F_law_following [.int T, .lst (lawPhs m rest), .int 0] s = .ok (.int 0) s := fun s => by rw [fo0 s, hf]
          simp [md, hb, fo', two, isL, l2, D.bel, D.bels]
          exact fin'
        · simp [md, hb, two, isL, l2, D.bel, D.bels]
          exact fin'
      · have hb : j % T = 0 := bl.mp (Classical.not_not.mp fun h => hg (.inl h))
        have hf : ¬ fol (m :: rest) 0 = 0 := fun h => hg (.inr h)
        have lw0 : (lawPhs m rest)[0]? = some (phAt (m :: rest) 0).law := rfl
        by_cases hcm : 0 < (phAt (m :: rest) 0).calm
        · have hcm' : ¬ (phAt (m :: rest) 0).calm = 0 := by omega
          simp [md, hb, fo0, hf, lw0, lm, hcm, hcm', two, isL, l2, D.bel, D.bels]
          exact fin 0 1 (phAt (m :: rest) 0).calm _ _ (by omega) (by omega) (by unfold nxt; simp only; rw [if_neg (by omega), if_neg (by omega), if_pos trivial, if_neg hg, if_pos hcm, if_pos hcm]) (by rw [if_pos hcm]; simp [ltD])
        · have hcm' : (phAt (m :: rest) 0).calm = 0 := by omega
          simp [md, hb, fo0, hf, lw0, lm, hcm', two, isL, l2, D.bel, D.bels]
          exact fin _ 1 0 _ _ (by omega) (by omega) (by unfold nxt; simp only; rw [if_neg (by omega), if_neg (by omega), if_pos trivial, if_neg hg, if_neg hcm]; rfl) rfl
    · rw [if_neg hk] at up
      have hk' : 0 < nu := by omega
      by_cases hg : gr < (phAt (m :: rest) nu).lo
      · simp [hk, hk', lw, lc, hg, two, isL, l2, D.bel, D.bels]
        exact fin nu (gr + 1) 0 _ _ (by omega) (by omega) (by unfold nxt; simp only; rw [if_neg (by omega), if_neg (by omega), if_neg hk, if_pos (by omega), if_neg (by omega)]; congr 1; omega) (by simp [ltD])
      · by_cases hcm : 0 < (phAt (m :: rest) nu).calm
        · have hcm' : ¬ (phAt (m :: rest) nu).calm = 0 := by omega
          simp [hk, hk', lw, lc, lm, hg, hcm, hcm', two, isL, l2, D.bel, D.bels]
          exact fin nu gr (phAt (m :: rest) nu).calm _ _ hgr (by omega) (by unfold nxt; simp only; rw [if_neg (by omega), if_neg (by omega), if_neg hk, if_neg (by omega), if_pos hcm, if_pos hcm]) (by rw [if_pos hcm]; simp [ltD])
        · have hcm' : (phAt (m :: rest) nu).calm = 0 := by omega
          simp [hk, hk', lw, lc, lm, hg, hcm', fo, two, isL, l2, D.bel, D.bels]
          exact fin _ 1 0 _ _ (by omega) (by omega) (by unfold nxt; simp only; rw [if_neg (by omega), if_neg (by omega), if_neg hk, if_neg (by omega), if_neg hcm]; rfl) rfl
  · rintro ρ s' ⟨nu, gr, ca, x7, x8, hj0, hgr, hca, hl, rfl, rfl⟩
    simp [Ct.d]
    subst hU
    exact Post_retA (by simp [D.bel]) ⟨rfl, rfl⟩
end
end K63.P
end
section
set_option Elab.async false
set_option linter.all false
/-! P28: what the law tells of the first state. -/
namespace K63.P
open PySem CL CL.CP
section
variable {n T : Int} {rs : List Rv} {m : Ph} {rest : List Ph}
theorem law_shown_ok (s : S) {l : Int × Int} (h0 : 0 ≤ l.1) (h1 : l.1 < ((m :: rest).length : Nat)) : F_law_streams_shown [.lst (lawPhs m rest), ltD l] s = .ok (.tup (iDs (shn (m :: rest) l))) s := by
  refine W_eq (runB_of rfl ?_)
  obtain ⟨k, c⟩ := l
  have ix := fun s => ix_phs (s := s) h0 h1
  have i0 : ∀ (p : Ph) s, ixD s p.law (.int 0) = some (.tup (iDs p.green)) := fun p s => law0
  simp only [o_ixl] at ix
  have ix := ix []
  simp only [ltD]
  simp
  refine ⟨fun hc => ?_, fun hc => ?_⟩
  · simp at hc
    simp
    exact Post_ret0 (by simp [D.bel, D.bels]) ⟨by simp [shn, hc, iDs], rfl⟩
  · simp at hc
    simp [ix, i0]
    exact Post_ret0 (by simp [D.bel]) ⟨by simp only [shn]; rw [if_neg (by omega)], rfl⟩
theorem law_reach_ok (s : S) (hl : rs.length ≤ 10000) (st : Int) : F_law_reach [.lst (rs.map Rv.law), .int st] s = .ok (.int (reach rs st)) s := by
  refine W_eq (runB_of rfl ?_)
  have szn : (100000 : Nat) ≤ sizeLine := by decide
  have j0 : ∀ (p : Rv) s, ixD s p.law (.int 0) = some (.int p.a) := fun p s => by unfold Rv.law; rfl
  have j1 : ∀ (p : Rv) s, ixD s p.law (.int 1) = some (.int p.b) := fun p s => by unfold Rv.law; rfl
  have j2 : ∀ (p : Rv) s, ixD s p.law (.int 2) = some (.int p.f) := fun p s => by unfold Rv.law; rfl
  have j3 : ∀ (p : Rv) s, ixD s p.law (.int 3) = some (.int p.k) := fun p s => by unfold Rv.law; rfl
  rw [W_sSeq]
  simp [-W_sSeq, wipeE]
  refine (compF_map Rv.law (fun r => .int r.f) (fun r => decide (r.a = st)) rs ?_).mono ?_
  · intro r hr
    refine ⟨_, Tg_name, ?_, ?_⟩
    · simp [j0]
    · intro _
      simp [j2]
  rintro ys s' ⟨rfl, rfl⟩
  simp only [W_eLc, W_iLst, W_eVar, look_zero, Sm_some, l_lst]
  simp only [wipeE, List.set_cons_succ, List.set_cons_zero]
  refine (compF_map Rv.law (fun r => .int r.k) (fun r => decide (r.b = st)) rs ?_).mono ?_
  · intro r hr
    refine ⟨_, Tg_name, ?_, ?_⟩
    · simp [j1]
    · intro _
      simp [j3]
  rintro ys s ⟨rfl, rfl⟩
  have la : (rs.filter fun r => decide (r.a = st)).length ≤ rs.length := List.length_filter_le ..
  have lb : (rs.filter fun r => decide (r.b = st)).length ≤ rs.length := List.length_filter_le ..
  have e1 : ((rs.filter fun r => decide (r.a = st)).map fun r => D.int r.f) = iDs ((rs.filter fun r => decide (r.a = st)).map Rv.f) := by simp [iDs]
  have e2 : ((rs.filter fun r => decide (r.b = st)).map fun r => D.int r.k) = iDs ((rs.filter fun r => decide (r.b = st)).map Rv.k) := by simp [iDs]
  rw [e1, e2]
  have ad : ∀ s, addD s (.lst (iDs ((rs.filter fun r => decide (r.a = st)).map Rv.f))) (.lst (iDs ((rs.filter fun r => decide (r.b = st)).map Rv.k))) = some (.lst (iDs (((rs.filter fun r => decide (r.a = st)).map Rv.f) ++ ((rs.filter fun r => decide (r.b = st)).map Rv.k)))) := by
    intro s
    simp only [addD, iDs_len, List.length_map]
    rw [if_pos (by omega), iDs_app]
  have ad2 : ∀ s (l : List Int), l.length ≤ 50000 → addD s (.lst [.int 0]) (.lst (iDs l)) = some (.lst (iDs (0 :: l))) := by
    intro s l h
    simp only [addD, iDs_len, List.length_cons, List.length_nil]
    rw [if_pos (by omega)]
    rfl
  have mx := reach_law rs st
  have one : 1 ≤ sizeLine := by omega
  simp only [ad, Sm_some, Tg_name, put_zero, put_succ, Nx_nx]
  rw [W_sSeq]
  simp only [W_sRet, W_e1, W_e2, W_eLst, W_aCons, W_aNil, W_eC, W_eVar, look_zero, look_succ, Sm_some, An, List.length_cons, List.length_nil]
  refine ⟨by omega, ?_⟩
  rw [ad2 _ _ (by simp only [List.length_append, List.length_map]; omega)]
  simp only [Sm_some, o_max0, mx, Nx_ret]
  exact Post_ret0 rfl ⟨rfl, rfl⟩
def gL (T : Int) (ps : List Ph) (N : Nat) (st : Int) (gap : Nat) : Bool := decide (st ∈ shn ps (lts T ps (N - 1 - gap)))
theorem law_since_ok0 (s : S) (h : BkOk n T m rest) (hr : ∀ r ∈ rs, Rv.ok n r) (hl : rs.length ≤ 10000) {N : Nat} (hN : 11 ≤ N) (hN2 : N ≤ 1000) (st : Int) :
    F_law_since [.lst (rs.map Rv.law), .lst (lawPhs m rest), .lst (lrows T (m :: rest) N), .int st] s = .ok (.int (srch (gL T (m :: rest) N st) (reach rs st) 0 (reach rs st).toNat)) s := by
  refine W_eq (runB_of rfl ?_)
  have rb := reach_bd hr st
  have szi : (100000 : Int) ≤ sizeLine := by decide
  rw [W_sSeq]
  simp [-W_sSeq, law_reach_ok s hl]
  rw [W_sSeq]
  simp [-W_sSeq]
  refine ⟨⟨by omega, by omega⟩, ?_⟩
  refine W_forR (BsI s [some (.lst (rs.map Rv.law)), some (.lst (lawPhs m rest)), some (.lst (lrows T (m :: rest) N)), some (.int st), some (.int (reach rs st))] (gL T (m :: rest) N st) (reach rs st) (reach rs st).toNat) (reach rs st) ?_ ?_ (reach rs st).toNat 0 _ _ (by omega) (by omega) ⟨none, by omega, rfl, rfl, rfl⟩
  · rintro j ρ s' hj ⟨x, hj0, e, rfl, rfl⟩
    refine ⟨_, Tg_name, ?_⟩
    have er : (lrows T (m :: rest) N)[((N : Int) - 2 - j).toNat]? = some (ltD (lts T (m :: rest) (N - 1 - j.toNat))) := by
      unfold lrows
      rw [List.getElem?_map, List.getElem?_range (by omega)]
      simp only [Option.map_some]
      congr 3
      omega
    have hpr := lts_prp h (N - 1 - j.toNat)
    have sh := fun s => law_shown_ok s hpr.k.1 hpr.k.2
    obtain ⟨q, eq⟩ : ∃ q, (reach rs st).toNat - j.toNat = q + 1 := ⟨(reach rs st).toNat - j.toNat - 1, by omega⟩
    rw [eq] at e
    have eg : gL T (m :: rest) N st j.toNat = decide (st ∈ shn (m :: rest) (lts T (m :: rest) (N - 1 - j.toNat))) := rfl
    simp only [srch] at e
    generalize gL T (m :: rest) N st j.toNat = bb at e eg
    have n0 : 0 ≤ (N : Int) - 2 - j := by omega
    simp [atI_nn n0, er, sh, o_inT]
    refine ⟨fun hc => ?_, fun hc => ?_⟩
    · have hm : bb = true := by rw [eg]; simpa using hc
      rw [if_pos hm] at e
      simp
      exact Post_ret0 rfl ⟨by rw [← e]; congr 1; omega, rfl⟩
    · have hm : bb = false := by rw [eg]; simpa using hc
      rw [if_neg (by simp [hm])] at e
      simp
      refine ⟨some (.int j), by omega, ?_, rfl, rfl⟩
      rw [← e]
      congr 1 <;> omega
  · rintro ρ s' ⟨x, hj0, e, rfl, rfl⟩
    simp only [Nat.sub_self, srch] at e
    simp
    exact Post_ret0 rfl ⟨by rw [← e], rfl⟩
theorem lts_emod (h : BkOk n T m rest) {i j : Nat} (e : (i : Int) % T = (j : Int) % T) : lts T (m :: rest) i = lts T (m :: rest) j := by
  refine lts_same h ?_
  have hT := h.T
  have eT : ((T.toNat : Nat) : Int) = T := by omega
  have h1 : ((i % T.toNat : Nat) : Int) = ((j % T.toNat : Nat) : Int) := by
    rw [Int.natCast_emod, Int.natCast_emod, eT, e]
  exact Int.ofNat.inj h1
theorem gB_per (hT : 2 ≤ T) (ps : List Ph) (b st : Int) (i : Nat) : gB T ps b st (i + T.toNat) = gB T ps b st i := by
  unfold gB
  have : (b - 1 - ((i + T.toNat : Nat) : Int)) % T = (b - 1 - i) % T := by
    rw [show b - 1 - ((i + T.toNat : Nat) : Int) = (b - 1 - i) + T * (-1) by omega, Int.add_mul_emod_self_left]
  rw [this]
theorem gL_gB (h : BkOk n T m rest) {b st : Int} (hb : 0 ≤ b) {i : Nat} (hi : i < 9) : gL T (m :: rest) (b + 1 + 9 * T).toNat st i = gB T (m :: rest) b st i := by
  unfold gL gB
  have hT := h.T
  have e : lts T (m :: rest) ((b + 1 + 9 * T).toNat - 1 - i) = lts T (m :: rest) (((b - 1 - i) % T).toNat + 1) := by
    refine lts_emod h ?_
    have r0 : 0 ≤ (b - 1 - i) % T := Int.emod_nonneg _ (by omega)
    rw [show ((((b - 1 - i) % T).toNat + 1 : Nat) : Int) = (b - 1 - i) % T + 1 by omega, Int.emod_add_emod]
    rw [show (((b + 1 + 9 * T).toNat - 1 - i : Nat) : Int) = (b - 1 - i + 1) + T * 9 by omega, Int.add_mul_emod_self_left]
  rw [e]
end
theorem law_since_ok (s : S) {T sp : Int} {y : Si} (h : y.ok T sp) (hT : 2 ≤ T) (hT2 : T ≤ 12) {b : Int} (hb : 0 ≤ b ∧ b < T) (st : Int) :
    F_law_since [.lst (y.rivals.map Rv.law), .lst (lawPhs y.m y.rest), .lst (lrows T y.ps (b + 1 + 9 * T).toNat), .int st] s = .ok (.int (sinceOf T y b st)) s := by
  have hbk := h.bk hT
  rw [law_since_ok0 s hbk h.rivals.1 h.rvl (by omega) (by omega)]
  congr 2
  have rb := reach_bd h.rivals.1 st
  unfold sinceOf
  rw [srch_round (by omega) fun i _ => gB_per hT _ _ _ _]
  exact srch_congr fun i hi => by
    rw [Nat.zero_add]
    exact gL_gB hbk hb.1 (by omega)
end K63.P
end
section
set_option Elab.async false
set_option linter.all false
/-! P29: the law's first state is the program's. -/
namespace K63.P
open PySem CL CL.CP
theorem cred_row {s : S} {r : Int} {q : Option (Int × Int × Int)} {b : Int} : ixD s (Ln.law (.road r q b)) (.int 0) = some (.str "road") ∧ ixD s (Ln.law (.road r q b)) (.int 2) = some (rate q) := by
  rcases q with _ | ⟨x, y, z⟩ <;> exact ⟨rfl, rfl⟩
def credL (L : List (Si × Int)) : List Int := (L.map fun p => p.1.lanes.map cred).flatten
theorem credL_app (a : List (Si × Int)) (p : Si × Int) : credL (a ++ [p]) = credL a ++ p.1.lanes.map cred := by simp [credL]
theorem credL_len : ∀ (L : List (Si × Int)), (∀ p ∈ L, p.1.lanes.length ≤ 6) → (credL L).length ≤ 6 * L.length
  | [], _ => by simp [credL]
  | p :: r, h => by
    have := credL_len r fun q hq => h q (List.mem_cons_of_mem _ hq)
    have := h p (List.mem_cons_self ..)
    unfold credL at *
    simp only [List.map_cons, List.flatten_cons, List.length_append, List.length_map, List.length_cons]
    omega
theorem credL_all : ∀ (a : List Si) (b : List Int), a.length = b.length → credL (a.zip b) = (lnsT a).map cred
  | [], [], _ => rfl
  | x :: a, y :: b, h => by
    have := credL_all a b (by simpa using h)
    unfold credL at *
    simp [lnsT, this]
theorem sinceL_all (T : Int) : ∀ (a : List Si) (b : List Int), a.length = b.length → (sinceL T (a.zip b)).length = (lnsT a).length
  | [], [], _ => rfl
  | x :: a, y :: b, h => by
    have := sinceL_all T a b (by simpa using h)
    unfold sinceL at *
    simp [lnsT, this]
def BgI (s0 : S) (x : Tw) (L : List (Si × Int)) (k : Int) (ρ : List (Option D)) (s : S) : Prop := ∃ pre post x4 x9 x10 x11 x12, L = pre ++ post ∧ k = pre.length ∧
  ρ = [some x.law, some (.cell s0.length), some (.cell (s0.length + 1)), some (.cell (s0.length + 2)), x4, none, none, none, none, x9, x10, x11, x12, none] ∧ s = s0 ++ [.lst (lightsD x.T pre), .lst (iDs (sinceL x.T pre)), .lst (iDs (credL pre))]
def BgJ (s0 : S) (x : Tw) (pre : List (Si × Int)) (p : Si × Int) (k : Int) (j : Int) (ρ : List (Option D)) (s : S) : Prop := ∃ x11 x12, 0 ≤ j ∧
  ρ = [some x.law, some (.cell s0.length), some (.cell (s0.length + 1)), some (.cell (s0.length + 2)), some (.int k), none, none, none, none, some p.1.law, some (.lst (lrows x.T p.1.ps ((-p.2) % x.T + 1 + 9 * x.T).toNat)), x11, x12, none] ∧
  s = s0 ++ [.lst (lightsD x.T (pre ++ [p])), .lst (iDs (sinceL x.T pre ++ (List.range j.toNat).map fun i : Nat => sinceOf x.T p.1 ((-p.2) % x.T) i)), .lst (iDs (credL pre ++ (p.1.lanes.take j.toNat).map cred))]
theorem law_begin_ok (s : S) {x : Tw} (h : x.ok) : F_law_begin [x.law] s = .ok (stD x) s := by
  refine W_eq (runB_of rfl ?_)
  obtain ⟨T2, T12⟩ := h.T
  obtain ⟨n1, n4⟩ := h.n
  have szn : (100000 : Nat) ≤ sizeLine := by decide
  have szi : (100000 : Int) ≤ sizeLine := by decide
  have md : ∀ s v, modD s (.int v) (.int x.T) = some (.int (v % x.T)) := fun s v => o_mod (by omega)
  have hL : ∀ p ∈ x.sis.zip x.offs, p.1 ∈ x.sis := fun p hp => (List.of_mem_zip hp).1
  have hol := h.olen
  have hLl : (x.sis.zip x.offs).length = x.sis.length := by simp; omega
  have hl24 := h.lns
  generalize hU : Post s (fun d' s' => d' = stD x ∧ s' = s) = U
  rw [W_sSeq]
  simp [-W_sSeq, D.bels]
  rw [W_sSeq]
  simp [-W_sSeq, D.bels]
  rw [W_sSeq]
  simp [-W_sSeq, D.bels]
  rw [W_sSeq]
  simp [-W_sSeq, tw1]
  refine ⟨by omega, ?_⟩
  refine W_forR (BgI s x (x.sis.zip x.offs)) x.sis.length ?_ ?_ x.sis.length 0 _ _ (by omega) (by omega) ⟨[], x.sis.zip x.offs, none, none, none, none, none, rfl, rfl, rfl, rfl⟩
  · rintro k ρ s' hk ⟨pre, post, x4, x9, x10, x11, x12, e, rfl, rfl, rfl⟩
    refine ⟨_, Tg_name, ?_⟩
    cases post with
    | nil =>
      exfalso
      rw [e] at hLl
      simp at hLl
      omega
    | cons p post =>
      have hpm : p.1 ∈ x.sis := hL p (by rw [e]; simp)
      have hz : (x.sis.zip x.offs)[pre.length]? = some p := by rw [e]; simp
      obtain ⟨z1, z2⟩ := List.getElem?_zip_eq_some.mp hz
      obtain ⟨sp, hp⟩ := h.each _ hpm
      have hbk := hp.bk T2
      have b0 : 0 ≤ (-p.2) % x.T := Int.emod_nonneg _ (by omega)
      have b1 : (-p.2) % x.T < x.T := Int.emod_lt_of_pos _ (by omega)
      have stl := fun s => law_still_ok s hbk T12 ⟨b0, b1⟩
      have sn := fun s st => law_since_ok s hp T2 T12 ⟨b0, b1⟩ st
      generalize hN : ((-p.2) % x.T + 1 + 9 * x.T).toNat = N at stl sn
      have hpl : (pre.length : Nat) ≤ 4 := by omega
      have l1 : (lightsD x.T pre).length < sizeLine := by simp [lightsD]; omega
      have hlan : p.1.lanes.length ≤ 6 := h.few _ hpm
      have hsl := sinceL_len x.T pre fun q hq => h.few _ (hL q (by rw [e]; simp [hq]))
      have hcl := credL_len pre fun q hq => h.few _ (hL q (by rw [e]; simp [hq]))
      have bl : ∀ n, D.bel n (ltD (ltOf x.T p)) = true := fun n => by simp [ltD, D.bel, D.bels]
      have y1 : (x.sis.map Si.law)[pre.length]? = some p.1.law := by simp [z1]
      have y2 : (iDs x.offs)[pre.length]? = some (.int p.2) := by simp [iDs, z2]
      have sub0 : ∀ s (v : Int), subD s (.int 0) (.int v) = some (.int (-v)) := fun s v => by simp
      rw [W_sSeq]
      simp [-W_sSeq, tw1, atI_nat, y1, -List.getElem?_map]
      rw [W_sSeq]
      simp [-W_sSeq, tw0, tw2, atI_nat, y2, si_at2, md, stl, -List.getElem?_map]
      rw [W_sSeq]
      have el : L2.atI (lrows x.T p.1.ps N) ((N : Int) - 1) = some (ltD (ltOf x.T p)) := by
        rw [atI_nn (by omega)]
        unfold lrows
        rw [List.getElem?_map, List.getElem?_range (by omega)]
        simp only [Option.map_some, ltOf]
        congr 2
        refine lts_emod hbk ?_
        rw [show ((((N : Int) - 1).toNat + 1 : Nat) : Int) = ((-p.2) % x.T + 1) + x.T * 9 by omega, Int.add_mul_emod_self_left]
        congr 1
        omega
      simp [-W_sSeq, isL, el, l1, bl]
      rw [W_sSeq]
      have hnl : ((nms p.1.n).length : Int) = p.1.n := by
        have := hp.n
        rw [nms_eq (by omega), List.length_map, nmS_len (by omega) this.2]
      have hplen := hp.len
      have hpn := hp.n
      simp [-W_sSeq, si_at0, hnl]
      refine ⟨⟨by omega, by omega⟩, ?_⟩
      refine W_forR (BgJ s x pre p pre.length) p.1.n ?_ ?_ p.1.n.toNat 0 _ _ (by omega) (by omega) ⟨x11, x12, by omega, by rw [hN], by simp [lightsD]⟩
      · rintro j ρ s' hj ⟨x11, x12, hj0, rfl, rfl⟩
        rw [hN]
        refine ⟨_, Tg_name, ?_⟩
        have hjl : j.toNat < p.1.lanes.length := by omega
        obtain ⟨ln, hln⟩ : ∃ l, p.1.lanes[j.toNat]? = some l := ⟨_, List.getElem?_eq_getElem hjl⟩
        have hlnm := List.mem_of_getElem? hln
        obtain ⟨sp', c', hlok⟩ := hp.lanes ln hlnm
        have yl : (p.1.lanes.map Ln.law)[j.toNat]? = some ln.law := by simp [hln]
        have l2 : (iDs (sinceL x.T pre ++ (List.range j.toNat).map fun i : Nat => sinceOf x.T p.1 ((-p.2) % x.T) i)).length < sizeLine := by
          simp only [iDs_len, List.length_append, List.length_map, List.length_range]
          omega
        have l3 : (iDs (credL pre ++ (p.1.lanes.take j.toNat).map cred)).length < sizeLine := by
          simp only [iDs_len, List.length_append, List.length_map, List.length_take]
          omega
        have ejn : (j + 1).toNat = j.toNat + 1 := by omega
        have ejj : ((j.toNat : Nat) : Int) = j := by omega
        have etk : p.1.lanes.take (j.toNat + 1) = p.1.lanes.take j.toNat ++ [ln] := by
          rw [List.take_succ, hln]
          rfl
        have fin : ∀ d, d = D.int (cred ln) → BgJ s x pre p pre.length (j + 1) [some x.law, some (.cell s.length), some (.cell (s.length + 1)), some (.cell (s.length + 2)), some (.int pre.length), none, none, none, none, some p.1.law, some (.lst (lrows x.T p.1.ps N)), some (.int j), some ln.law, none]
            (s ++ [.lst (lightsD x.T (pre ++ [p])), .lst (iDs (sinceL x.T pre ++ (List.range j.toNat).map fun i : Nat => sinceOf x.T p.1 ((-p.2) % x.T) i) ++ [.int (sinceOf x.T p.1 ((-p.2) % x.T) j)]), .lst (iDs (credL pre ++ (p.1.lanes.take j.toNat).map cred) ++ [d])]) := by
          rintro d rfl
          refine ⟨_, _, by omega, by rw [hN], ?_⟩
          rw [ejn, etk, List.range_succ]
          simp [iDs, ejj]
        generalize iDs (sinceL x.T pre ++ (List.range j.toNat).map fun i : Nat => sinceOf x.T p.1 ((-p.2) % x.T) i) = A at l2 fin ⊢
        generalize iDs (credL pre ++ (p.1.lanes.take j.toNat).map cred) = B at l3 fin ⊢
        generalize lightsD x.T (pre ++ [p]) = C at fin ⊢
        rw [W_sSeq]
        simp [-W_sSeq, si_at3, atI_nn hj0, yl, -List.getElem?_map]
        rw [W_sSeq]
        simp [-W_sSeq, isL, si_at1, si_at2, sn, l2, D.bel]
        rcases ln with b | ⟨rm, q, b⟩
        · simp [Ln.law, str_ne', isL, l3, D.bel]
          exact fin _ rfl
        · obtain ⟨q0, q2⟩ := cred_row (s := []) (r := rm) (q := q) (b := b)
          have q0 : ∀ s, ixD s (Ln.law (.road rm q b)) (.int 0) = some (.str "road") := fun s => cred_row.1
          have q2 : ∀ s, ixD s (Ln.law (.road rm q b)) (.int 2) = some (rate q) := fun s => cred_row.2
          rcases q with _ | ⟨u, v, w⟩
          · simp [q0, q2, rate, isL, l3, D.bel]
            exact fin _ rfl
          · have hpc := hlok.pace rm u v w b rfl
            have ml : ∀ s, mulD s (.int u) (.int w) = some (.int (u * w)) := fun s => o_mull ⟨by omega, by omega⟩
            simp [q0, q2, rate, isL, l3, D.bel, ml]
            exact fin _ rfl
      · rintro ρ s' ⟨x11, x12, hj0, rfl, rfl⟩
        simp
        refine ⟨pre ++ [p], post, _, _, _, _, _, by simp [e], by simp, rfl, ?_⟩
        have en : p.1.n.toNat = p.1.lanes.length := by omega
        rw [sinceL_app, credL_app, en, List.take_of_length_le (by simp)]
  · rintro ρ s' ⟨pre, post, x4, x9, x10, x11, x12, e, hk, rfl, rfl⟩
    have hpost : post = [] := by
      rw [e] at hLl
      simp at hLl
      exact List.length_eq_zero_iff.mp (by omega)
    subst hpost
    simp at e
    subst e
    have sl := sinceL_all x.T x.sis x.offs hol.symm
    have cl := credL_all x.sis x.offs hol.symm
    have zz : ∀ (v : Int), (iDs (sinceL x.T (x.sis.zip x.offs))).map (fun _ => D.int v) = List.replicate (lnsT x.sis).length (.int v) := by
      intro v
      rw [List.map_const', iDs_len, sl]
    have seven : 7 ≤ sizeLine := by omega
    have one : 1 ≤ sizeLine := by omega
    have eight : 8 ≤ sizeLine := by omega
    simp [-W_sSeq]
    rw [W_sSeq]
    simp [-W_sSeq, Ct.d]
    rw [W_sSeq]
    simp [-W_sSeq, Ct.d]
    rw [W_sSeq]
    simp [-W_sSeq, Ct.d]
    rw [W_sSeq]
    simp [-W_sSeq, wipeE]
    refine (compF_all .int (fun _ => .int 0) (sinceL x.T (x.sis.zip x.offs)) ?_).mono ?_
    · intro v hv
      refine ⟨_, Tg_name, ?_⟩
      simp
    rintro ys s' ⟨rfl, rfl⟩
    rw [List.map_const', sl]
    simp [-W_sSeq]
    rw [W_sSeq]
    simp [-W_sSeq, wipeE]
    refine (compF_all .int (fun _ => .int (-1)) (sinceL x.T (x.sis.zip x.offs)) ?_).mono ?_
    · intro v hv
      refine ⟨_, Tg_name, ?_⟩
      simp
    rintro ys s' ⟨rfl, rfl⟩
    rw [List.map_const', sl]
    simp [-W_sSeq]
    rw [W_sSeq]
    simp [-W_sSeq, wipeE, tw3]
    refine (compF_all St.law (fun t => .tup (List.replicate t.t.toNat (.int 0))) x.sts ?_).mono ?_
    · intro t ht
      have tt := (h.sts.each t ht).t
      have e2 : ∀ s, ixD s t.law (.int 2) = some (.int t.t) := fun s => by unfold St.law; rfl
      refine ⟨_, Tg_name, ?_⟩
      simp [e2, wipeE]
      refine ⟨⟨by omega, by omega⟩, ?_⟩
      refine (compR_all (fun i : Nat => .int 0) t.t (by omega) ?_).mono ?_
      · intro i hi
        refine ⟨_, Tg_name, ?_⟩
        simp
      · rintro ys s' ⟨rfl, rfl⟩
        simp
        rw [List.map_const', List.length_range]
    rintro ys s' ⟨rfl, rfl⟩
    simp [-W_sSeq]
    rw [W_sSeq]
    simp [-W_sSeq, seven]
    rw [W_sSeq]
    simp [addD, one, eight]
    subst hU
    rw [cl]
    exact Post_retA (stD_bel x _) ⟨rfl, rfl⟩
end K63.P
end
section
set_option Elab.async false
set_option linter.all false
/-! P30: the law holds of the functional terms. -/
namespace K63.P
open PySem CL CL.CP
/-- numbers in tuples in tuples .. -/
def IT : Nat → D → Prop
  | 0, d => ∃ i, d = .int i
  | m + 1, d => (∃ i, d = .int i) ∨ ∃ xs, d = .tup xs ∧ xs.length ≤ 1000 ∧ ∀ x ∈ xs, IT m x
theorem same_int (m : Nat) (i : Int) (s : S) : F_law_same (m + 1) [.int i, .int i] s = .ok (.bl true) s := by
  have hi : ∀ s, F_law_is_int [.int i] s = .ok (.bl true) s := by
    intro s
    refine W_eq (runB_of rfl ?_)
    simp [isTyD]
    exact Post_ret0 rfl ⟨rfl, rfl⟩
  refine W_eq (runB_of rfl ?_)
  simp [isTyD, hi]
  exact Post_ret0 rfl ⟨rfl, rfl⟩
theorem same_ok : ∀ (m : Nat) (d : D), IT m d → ∀ s, F_law_same (m + 1) [d, d] s = .ok (.bl true) s
  | 0, d, h, s => by
    obtain ⟨i, rfl⟩ := h
    exact same_int 0 i s
  | m + 1, d, h, s => by
    rcases h with ⟨i, rfl⟩ | ⟨xs, rfl, hl, hx⟩
    · exact same_int _ i s
    · refine W_eq (runB_of rfl ?_)
      have szi : (100000 : Int) ≤ sizeLine := by decide
      simp [isTyD]
      refine ⟨by omega, ?_⟩
      refine W_forR (I := fun k ρ s' => 0 ≤ k ∧ E1 (fun x => [some (.tup xs), some (.tup xs), x]) ρ ∧ s' = s) xs.length ?_ ?_ xs.length 0 _ _ (by omega) (by omega) ⟨by omega, ⟨none, rfl⟩, rfl⟩
      · rintro k ρ s' hk ⟨hk0, ⟨x, rfl⟩, rfl⟩
        refine ⟨_, Tg_name, ?_⟩
        have hkl : k.toNat < xs.length := by omega
        have e1 : xs[k.toNat]? = some xs[k.toNat] := List.getElem?_eq_getElem hkl
        have ih := same_ok m _ (hx _ (List.getElem_mem hkl))
        generalize xs[k.toNat] = y at e1 ih
        have e2 : L2.atI xs k = some y := by rw [atI_nn hk0]; exact e1
        simp [e2, ih]
        exact ⟨by omega, _, rfl⟩
      · rintro ρ s' ⟨_, ⟨x, rfl⟩, rfl⟩
        simp
        exact Post_ret0 rfl ⟨rfl, rfl⟩
theorem it_ints {m : Nat} {xs : List Int} (h : xs.length ≤ 1000) : IT (m + 1) (.tup (iDs xs)) := .inr ⟨_, rfl, by simpa using h, fun x hx => by
  obtain ⟨i, _, rfl⟩ := List.mem_map.mp hx
  cases m with
  | zero => exact ⟨i, rfl⟩
  | succ m => exact .inl ⟨i, rfl⟩⟩
theorem it_reps {m n : Nat} {v : Int} (h : n ≤ 1000) : IT (m + 1) (.tup (List.replicate n (.int v))) := by
  have : List.replicate n (D.int v) = iDs (List.replicate n v) := by simp [iDs]
  rw [this]
  exact it_ints (by simpa using h)
theorem it_lit (b : Int) (l : Int × Int) : IT 4 (lit b l) := it_ints (xs := [b, l.1, l.2]) (by simp)
theorem stD_it {x : Tw} (h : x.ok) : IT 4 (stD x) := by
  have hl24 := h.lns
  have n4 := h.n.2
  have hol := h.olen
  have sl := sinceL_all x.T x.sis x.offs hol.symm
  have sf := h.sts.few
  refine .inr ⟨_, rfl, by simp, ?_⟩
  intro d hd
  simp only [List.mem_cons, List.not_mem_nil, or_false] at hd
  rcases hd with rfl | rfl | rfl | rfl | rfl | rfl | rfl | rfl
  · exact .inl ⟨0, rfl⟩
  · refine .inr ⟨_, rfl, by simp [lightsD]; omega, fun d hd => ?_⟩
    obtain ⟨p, _, rfl⟩ := List.mem_map.mp hd
    exact it_ints (xs := [(ltOf x.T p).1, (ltOf x.T p).2]) (by simp)
  · exact it_ints (by omega)
  · exact it_reps (by omega)
  · exact it_reps (by omega)
  · exact it_reps (by omega)
  · exact it_ints (by simp; omega)
  · refine .inr ⟨_, rfl, by simp; omega, fun d hd => ?_⟩
    obtain ⟨t, ht, rfl⟩ := List.mem_map.mp hd
    have := (h.sts.each t ht).t
    exact it_reps (by omega)
def QgI (s0 : S) (x : Tw) (k : Int) (ρ : List (Option D)) (s : S) : Prop := ∃ x3 x4 x5, 0 ≤ k ∧ ρ = [some (twO x), some x.law, some (stD x), x3, x4, x5] ∧ s = s0
theorem quiet_agrees_ok (s : S) {x : Tw} (h : x.ok) : F_law_quiet_agrees [twO x, x.law, stD x] s = .ok (.bl true) s := by
  refine W_eq (runB_of rfl ?_)
  obtain ⟨T2, T12⟩ := h.T
  obtain ⟨n1, n4⟩ := h.n
  have szi : (100000 : Int) ≤ sizeLine := by decide
  have szn : (100000 : Nat) ≤ sizeLine := by decide
  have md : ∀ s v, modD s (.int v) (.int x.T) = some (.int (v % x.T)) := fun s v => o_mod (by omega)
  have hol := h.olen
  rw [W_sSeq]
  simp [-W_sSeq, tw1]
  refine ⟨by omega, ?_⟩
  refine W_forR (QgI s x) x.sis.length ?_ ?_ x.sis.length 0 _ _ (by omega) (by omega) ⟨none, none, none, by omega, rfl, rfl⟩
  · rintro k ρ s' hk ⟨x3, x4, x5, hk0, rfl, rfl⟩
    refine ⟨_, Tg_name, ?_⟩
    have hkz : k.toNat < (x.sis.zip x.offs).length := by simp; omega
    obtain ⟨p, hz⟩ : ∃ p, (x.sis.zip x.offs)[k.toNat]? = some p := ⟨_, List.getElem?_eq_getElem hkz⟩
    obtain ⟨z1, z2⟩ := List.getElem?_zip_eq_some.mp hz
    obtain ⟨sp, hp⟩ := h.each _ (List.mem_of_getElem? z1)
    have hbk := hp.bk T2
    have b0 : 0 ≤ (-p.2) % x.T := Int.emod_nonneg _ (by omega)
    have b1 : (-p.2) % x.T < x.T := Int.emod_lt_of_pos _ (by omega)
    have qk := fun s => quiet_ok (rs := p.1.rivals) s hbk T12
    have y1 : L2.atI (x.sis.map (siO x.T)) k = some (siO x.T p.1) := by rw [atI_nn hk0]; simp [z1]
    have y2 : L2.atI (iDs x.offs) k = some (.int p.2) := by rw [atI_nn hk0]; simp [iDs, z2]
    have d1 : ∀ s, ixD s (stD x) (.int 1) = some (.tup (lightsD x.T (x.sis.zip x.offs))) := fun s => rfl
    have y3 : L2.atI (lightsD x.T (x.sis.zip x.offs)) k = some (ltD (ltOf x.T p)) := by rw [atI_nn hk0, lightsD, List.getElem?_map, hz]; rfl
    have er : L2.atI (qrows x.T p.1.ps x.T.toNat) ((-p.2) % x.T) = some (lit ((-p.2) % x.T) (ltOf x.T p)) := by
      rw [atI_nn b0]
      unfold qrows
      rw [List.getElem?_map, List.getElem?_range (by omega)]
      simp only [Option.map_some, ltOf]
      congr 2
      omega
    have ql : ((qrows x.T p.1.ps x.T.toNat).length : Int) = x.T := by simp [qrows]; omega
    have ad : ∀ s, addD s (.tup [.int ((-p.2) % x.T)]) (ltD (ltOf x.T p)) = some (lit ((-p.2) % x.T) (ltOf x.T p)) := by
      intro s
      simp only [ltD, addD, List.length_cons, List.length_nil]
      rw [if_pos (by omega)]
      rfl
    have sm := same_ok 4 _ (it_lit ((-p.2) % x.T) (ltOf x.T p))
    have one : 1 ≤ sizeLine := by omega
    have n0 : ∀ v : Int, 0 - v = -v := fun v => by omega
    generalize lit ((-p.2) % x.T) (ltOf x.T p) = li at er ad sm
    simp [tw2, tw0, y1, y2, y3, d1, md, qk, isTyD, ql, er, ad, sm, one, n0]
    exact ⟨_, _, _, by omega, rfl, rfl⟩
  · rintro ρ s' ⟨x3, x4, x5, hk0, rfl, rfl⟩
    simp
    exact Post_ret0 rfl ⟨rfl, rfl⟩
theorem runC_of {n all : Nat} {B : Sx} {ds : List D} {s : S} {Q : D → S → Prop} (hl : ds.length = n) (h : W (B (envOf ds (all - n)) s) fun f s' => match f with
    | .ret d => Q d s'
    | _ => False) : W (runC n all B ds s) Q := by
  unfold envOf at h
  rw [W_runC]
  exact ⟨hl, h⟩
theorem hand_ok (ns : List Int) (hl : ns.length ≤ 63) (k : Nat) (hk : k ≤ 1) (s : S) : W (F_law_hand [.scr ns, .int k] s) fun d s' => d = .cell s.length ∧ ∃ h, s' = s ++ [Hd.ct h] := by
  have hc : ∀ s, ∃ v, F_law_cell [.scr ns, .int k] s = .ok (.int v) s := by
    intro s
    have szn : (1000 : Nat) ≤ sizeLine := by decide
    by_cases h : k < ns.length
    · refine ⟨_, W_eq (d := .int (if ns[k] < 0 then -ns[k] else ns[k])) (runB_of rfl ?_)⟩
      have ex : ixD s (.scr ns) (.int k) = some (.int ns[k]) := by
        simp only [ixD, seqOf, Option.bind_some, atI_nat]
        rw [List.getElem?_map, List.getElem?_eq_getElem h]
        rfl
      have hi : (k : Int) < ns.length := by omega
      simp [lenD, seqOf, h, ex]
      exact Post_ret0 rfl ⟨rfl, rfl⟩
    · refine ⟨_, W_eq (d := .int 0) (runB_of rfl ?_)⟩
      have hi : ¬ (k : Int) < ns.length := by omega
      simp [lenD, seqOf, h]
      exact Post_ret0 rfl ⟨rfl, rfl⟩
  obtain ⟨v, hc⟩ := hc s
  refine runC_of rfl ?_
  have md : ∀ s x, modD s (.int x) (.int 2147483629) = some (.int (x % 2147483629)) := fun s x => o_mod (by omega)
  have ml : ∀ s, mulD s (.int 7) (.int k) = some (.int (7 * k)) := fun s => o_mull ⟨by omega, by omega⟩
  have pw : ∀ s, powD s (.int 10) (.int 18) = some (.int (10 ^ 18)) := fun s => by simp [powD]
  have four : 4 ≤ sizeLine := by decide
  simp [hc, md, ml, pw, four, D.bels, D.bel]
  exact ⟨⟨_, _, _, _⟩, rfl⟩
theorem law_ok (ns : List Int) (hl : ns.length ≤ 63) : ∃ s, F_law [.scr ns] [] = .ok (.bl true) s := by
  have : W (F_law [.scr ns] []) fun d _ => d = .bl true := by
    refine runB_of rfl ?_
    have szn : (1000 : Nat) ≤ sizeLine := by decide
    have four : 4 ≤ sizeLine := by omega
    rw [W_sSeq]
    simp [-W_sSeq]
    refine (hand_ok ns hl 0 (by omega) []).mono ?_
    rintro d s ⟨rfl, h0, rfl⟩
    simp [-W_sSeq]
    refine (town_ok [] h0 clo_nil).mono ?_
    rintro d s ⟨⟨x, rfl, hx⟩, h1, rfl⟩
    have hs1 : Clo [h1.ct] := by simp
    simp [-W_sSeq]
    rw [W_sSeq]
    simp [-W_sSeq, make_town_ok _ hs1 hx]
    rw [W_sSeq]
    simp [-W_sSeq, law_begin_ok _ hx]
    rw [W_sSeq]
    have sm := same_ok 4 _ (stD_it hx)
    simp [-W_sSeq, first_state_ok _ hx, sm, quiet_agrees_ok _ hx]
    rw [W_sSeq]
    simp [-W_sSeq]
    refine (hand_ok ns hl 1 (by omega) [h1.ct]).mono ?_
    rintro d s ⟨rfl, h2, rfl⟩
    have hs2 : Clo ([h1.ct] ++ h2.ct :: []) := by simp
    simp [-W_sSeq]
    refine (take_mid [h1.ct] [] h2 (m := 25) hs2 (by omega) (by omega)).mono ?_
    rintro d s ⟨mv, h3, rfl, m0, m1, rfl⟩
    simp [-W_sSeq]
    rw [W_sSeq]
    simp [-W_sSeq, tw0, tw1, tw2, tw3, wipeE]
    have hT := hx.T
    refine (compF_all .int (fun o => .int ((o + (mv - 12)) % x.T)) x.offs ?_).mono ?_
    · intro o ho
      refine ⟨_, Tg_name, ?_⟩
      simp [tw0, o_mod (show 0 < x.T by omega)]
    rintro ys s ⟨rfl, rfl⟩
    have et : D.tup [.int x.T, .lst (x.sis.map Si.law), .lst (x.offs.map fun o => .int ((o + (mv - 12)) % x.T)), .lst (x.sts.map St.law)] = (x.turn (mv - 12)).law := by
      simp [Tw.law, Tw.turn, iDs]
    have hx2 := Tw.turn_ok hx (mv - 12)
    have sm2 := same_ok 4 _ (stD_it hx2)
    have hs3 : Clo [h1.ct, h3.ct] := by simp
    simp only [W_aCons, W_aNil, W_e2, W_eC, W_eVar, look_zero, look_succ, Sm_some, tw3, An, List.length_cons, List.length_nil]
    refine ⟨by omega, ?_⟩
    rw [et]
    simp [-W_sSeq]
    rw [W_sSeq]
    simp [-W_sSeq, turned_ok _ hs3 hx, first_state_ok _ hx2, law_begin_ok _ hx2, sm2]
    rw [W_sSeq]
    simp [first_state_ok _ hx, sm]
    refine ⟨?_, rfl⟩
    rfl
  obtain ⟨d, s, e, rfl⟩ := this
  exact ⟨s, e⟩
end K63.P
end
section
set_option Elab.async false
set_option linter.all false
set_option maxRecDepth 100000
/-! Rep: which value of the layer stands for which datum; what stays true of it. -/
namespace CL
open PySem L2

/-- the classes' addresses, the fields' names -/
structure Cfg where
  Γ : Nat → Addr
  nm : Nat → Str
  ok : Nat → Prop
  inj : ∀ i j, ok i → ok j → nm i = nm j → i = j
def kD : Key → D
  | .inl i => .int i
  | .inr x => .str x
def kT (k : List Key) : D := .tup (k.map kD)
/-- a tuple of the written part -/
def StT (K : PySem.W.Frag) (a : Addr) (xs : List V) : Prop :=
  ∃ (o : Obj) (its : Array Value) (n : Nat), K.lookup a = some o ∧ o.cls = .type "tuple" ∧ o.data = .seq its n ∧ its.size ≤ sizeLine ∧ Vals xs its.toList
/-- a list of the written part -/
def StL (K : PySem.W.Frag) (a : Addr) (xs : List V) : Prop :=
  ∃ (o : Obj) (its : Array Value) (n : Nat), K.lookup a = some o ∧ o.cls = .type "list" ∧ o.dict = none ∧ o.data = .seq its n ∧ its.size ≤ sizeLine ∧ Vals xs its.toList
section
variable (K : PySem.W.Frag) (g : Cfg) (κ : List Addr) (L : Addr → Prop) (H : Hp)
mutual
def Rep : D → V → Prop
  | .non, v => v = .non
  | .bl b, v => v = .bl b
  | .int i, v => v = .int i
  | .str x, v => v = .str x
  | .tup ds, v => ∃ a vs, v = .ref a ∧ ((H a = some (.tup vs) ∧ ¬ L a) ∨ (vs = [] ∧ StT K a [])) ∧ Reps ds vs
  | .lst ds, v => ∃ a vs, v = .ref a ∧ ¬ L a ∧ Rd H a (.lst vs) ∧ Reps ds vs
  | .dic ks ds, v => ∃ a kvs, v = .ref a ∧ ¬ L a ∧ Rd H a (.dT kvs) ∧ ks = kvs.map (fun p => kT p.1) ∧ Reps ds (kvs.map (·.2))
  | .obj c ks ds, v => ∃ a dx fs, v = .ref a ∧ ¬ L a ∧ H a = some (.ins (g.Γ c) dx fs) ∧ Cls K (g.Γ c) ∧ fs.map (·.1) = ks.map g.nm ∧ (∀ k ∈ ks, g.ok k ∧ NoAttr K (g.Γ c) (g.nm k)) ∧ Reps ds (fs.map (·.2))
  | .cell k, v => ∃ a, v = .ref a ∧ κ[k]? = some a
  | .scr ns, v => ∃ a, v = .ref a ∧ ((¬ L a ∧ Rd H a (.lst (ns.map V.int))) ∨ StL K a (ns.map V.int))
def Reps : List D → List V → Prop
  | [], vs => vs = []
  | d :: ds, vs => ∃ v r, vs = v :: r ∧ Rep d v ∧ Reps ds r
end
end
section
variable {K : PySem.W.Frag} {g : Cfg} {κ κ' : List Addr} {L L' : Addr → Prop} {H H' : Hp}
/-- what a rep leans on stands as before -/
structure Stays (κ κ' : List Addr) (L L' : Addr → Prop) (H H' : Hp) : Prop where
  pre : ∃ t, κ' = κ ++ t
  nl : ∀ a, H a ≠ none → ¬ L a → ¬ L' a
  fr : ∀ b o, H b = some o → ¬ L b → H' b = some o
theorem some_ne {α : Type} {o : Option α} {a : α} (h : o = some a) : o ≠ none := by rw [h]; intro z; cases z
theorem Stays.rd {a : Addr} {u : HO} (t : Stays κ κ' L L' H H') (hl : ¬ L a) (h : Rd H a u) : Rd H' a u ∧ ¬ L' a := by
  rcases h with h | ⟨o, h⟩
  · exact ⟨.inl (t.fr _ _ h hl), t.nl _ (some_ne h) hl⟩
  · exact ⟨.inr ⟨o, t.fr _ _ h hl⟩, t.nl _ (some_ne h) hl⟩
mutual
theorem Rep.stays (t : Stays κ κ' L L' H H') : ∀ {d : D} {v : V}, Rep K g κ L H d v → Rep K g κ' L' H' d v
  | .non, _, h => h
  | .bl _, _, h => h
  | .int _, _, h => h
  | .str _, _, h => h
  | .tup ds, v, h => by
    obtain ⟨a, vs, e, h, r⟩ := h
    refine ⟨a, vs, e, ?_, Reps.stays t r⟩
    rcases h with ⟨h1, h2⟩ | h
    · exact .inl ⟨t.fr _ _ h1 h2, t.nl _ (some_ne h1) h2⟩
    · exact .inr h
  | .lst ds, v, h => by
    obtain ⟨a, vs, e, hl, h, r⟩ := h
    obtain ⟨h1, h2⟩ := t.rd hl h
    exact ⟨a, vs, e, h2, h1, Reps.stays t r⟩
  | .dic ks ds, v, h => by
    obtain ⟨a, kvs, e, hl, h, ek, r⟩ := h
    obtain ⟨h1, h2⟩ := t.rd hl h
    exact ⟨a, kvs, e, h2, h1, ek, Reps.stays t r⟩
  | .obj c ks ds, v, h => by
    obtain ⟨a, dx, fs, e, hl, h, hc, ek, hk, r⟩ := h
    exact ⟨a, dx, fs, e, t.nl _ (some_ne h) hl, t.fr _ _ h hl, hc, ek, hk, Reps.stays t r⟩
  | .cell k, v, h => by
    obtain ⟨a, e, h⟩ := h
    obtain ⟨u, e2⟩ := t.pre
    refine ⟨a, e, ?_⟩
    rw [e2, List.getElem?_append_left (List.getElem?_eq_some_iff.mp h).1]
    exact h
  | .scr ns, v, h => by
    obtain ⟨a, e, h⟩ := h
    refine ⟨a, e, h.imp (fun h => ?_) id⟩
    obtain ⟨h1, h2⟩ := t.rd h.1 h.2
    exact ⟨h2, h1⟩
theorem Reps.stays (t : Stays κ κ' L L' H H') : ∀ {ds : List D} {vs : List V}, Reps K g κ L H ds vs → Reps K g κ' L' H' ds vs
  | [], _, h => h
  | d :: ds, vs, h => by
    obtain ⟨v, r, e, h1, h2⟩ := h
    exact ⟨v, r, e, Rep.stays t h1, Reps.stays t h2⟩
end
/-- fewer are protected -/
theorem Stays.less (h : ∀ a, L' a → L a) : Stays κ κ L L' H H := ⟨⟨[], by simp⟩, fun a _ n z => n (h a z), fun _ _ e _ => e⟩
/-- a protected object is written -/
theorem Stays.upd {a : Addr} {o : HO} (h : L a) : Stays κ κ L L H (upd H a o) := ⟨⟨[], by simp⟩, fun _ _ n => n, fun b u e n => by rw [upd_ne (fun z => n (by rw [z]; exact h))]; exact e⟩
/-- something new is laid -/
theorem Stays.new {a : Addr} {o : HO} (h : H a = none) : Stays κ κ L L H (L2.upd H a o) := ⟨⟨[], by simp⟩, fun _ _ n => n, fun b u e _ => by rw [upd_ne (ne_of_none e h)]; exact e⟩
theorem Stays.trans {κ'' : List Addr} {L'' : Addr → Prop} {H'' : Hp} (t : Stays κ κ' L L' H H') (u : Stays κ' κ'' L' L'' H' H'') : Stays κ κ'' L L'' H H'' := by
  obtain ⟨x, ex⟩ := t.pre
  obtain ⟨y, ey⟩ := u.pre
  refine ⟨⟨x ++ y, by rw [ey, ex, List.append_assoc]⟩, fun a n l => ?_, fun b o e l => u.fr _ _ (t.fr _ _ e l) (t.nl _ (some_ne e) l)⟩
  have n2 : H' a ≠ none := by
    cases q : H a with
    | none => exact absurd q n
    | some o => exact some_ne (t.fr _ _ q l)
  exact u.nl a n2 (t.nl a n l)
mutual
/-- cells from n on are not leant on -/
theorem Rep.take {n : Nat} : ∀ {d : D} {v : V}, d.bel n = true → Rep K g κ L H d v → Rep K g (κ.take n) L H d v
  | .non, _, _, h => h
  | .bl _, _, _, h => h
  | .int _, _, _, h => h
  | .str _, _, _, h => h
  | .tup ds, v, b, h => by
    obtain ⟨a, vs, e, h, r⟩ := h
    exact ⟨a, vs, e, h, Reps.take b r⟩
  | .lst ds, v, b, h => by
    obtain ⟨a, vs, e, hl, h, r⟩ := h
    exact ⟨a, vs, e, hl, h, Reps.take b r⟩
  | .dic ks ds, v, b, h => by
    obtain ⟨a, kvs, e, hl, h, ek, r⟩ := h
    have b2 : (D.bels n ks && D.bels n ds) = true := b
    exact ⟨a, kvs, e, hl, h, ek, Reps.take (Bool.and_eq_true_iff.mp b2).2 r⟩
  | .obj c ks ds, v, b, h => by
    obtain ⟨a, dx, fs, e, hl, h, hc, ek, hk, r⟩ := h
    exact ⟨a, dx, fs, e, hl, h, hc, ek, hk, Reps.take b r⟩
  | .cell k, v, b, h => by
    obtain ⟨a, e, h⟩ := h
    have b2 : k < n := of_decide_eq_true b
    exact ⟨a, e, by rw [List.getElem?_take_of_lt b2]; exact h⟩
  | .scr ns, v, b, h => h
theorem Reps.take {n : Nat} : ∀ {ds : List D} {vs : List V}, D.bels n ds = true → Reps K g κ L H ds vs → Reps K g (κ.take n) L H ds vs
  | [], _, _, h => h
  | d :: ds, vs, b, h => by
    obtain ⟨v, r, e, h1, h2⟩ := h
    have b2 : (D.bel n d && D.bels n ds) = true := b
    obtain ⟨b3, b4⟩ := Bool.and_eq_true_iff.mp b2
    exact ⟨v, r, e, Rep.take b3 h1, Reps.take b4 h2⟩
end
mutual
theorem Rep.bel : ∀ {d : D} {v : V}, Rep K g κ L H d v → d.bel κ.length = true
  | .non, _, _ => rfl
  | .bl _, _, _ => rfl
  | .int _, _, _ => rfl
  | .str _, _, _ => rfl
  | .tup ds, v, h => by obtain ⟨a, vs, e, h, r⟩ := h; exact Reps.bel r
  | .lst ds, v, h => by obtain ⟨a, vs, e, hl, h, r⟩ := h; exact Reps.bel r
  | .dic ks ds, v, h => by
    obtain ⟨a, kvs, e, hl, h, ek, r⟩ := h
    show (D.bels _ ks && D.bels _ ds) = true
    rw [Reps.bel r, Bool.and_true, ek]
    have kb : ∀ (l : List Key), D.bels κ.length (l.map kD) = true := by
      intro l
      induction l with
      | nil => rfl
      | cons x r ih => show (D.bel κ.length (kD x) && D.bels κ.length (r.map kD)) = true; rw [ih]; cases x <;> rfl
    clear ek h r e
    induction kvs with
    | nil => rfl
    | cons x r ih => show (D.bels κ.length (x.1.map kD) && D.bels κ.length (r.map fun p => kT p.1)) = true; rw [ih, kb]; rfl
  | .obj c ks ds, v, h => by obtain ⟨a, dx, fs, e, hl, h, hc, ek, hk, r⟩ := h; exact Reps.bel r
  | .cell k, v, h => by
    obtain ⟨a, e, h⟩ := h
    exact decide_eq_true (List.getElem?_eq_some_iff.mp h).1
  | .scr ns, v, h => rfl
theorem Reps.bel : ∀ {ds : List D} {vs : List V}, Reps K g κ L H ds vs → D.bels κ.length ds = true
  | [], _, _ => rfl
  | d :: ds, vs, h => by
    obtain ⟨v, r, e, h1, h2⟩ := h
    show (D.bel _ d && D.bels _ ds) = true
    rw [Rep.bel h1, Reps.bel h2]; rfl
end
mutual
/-- what has nothing in it that could be written leans on no protection of such -/
theorem Rep.pure {L2 : Addr → Prop} (ht : ∀ a, L2 a → ¬ L a → ∀ xs, H a ≠ some (.tup xs)) : ∀ {d : D} {v : V}, d.pure = true → Rep K g κ L H d v → Rep K g κ L2 H d v
  | .non, _, _, h => h
  | .bl _, _, _, h => h
  | .int _, _, _, h => h
  | .str _, _, _, h => h
  | .tup ds, v, b, h => by
    obtain ⟨a, vs, e, h, r⟩ := h
    refine ⟨a, vs, e, ?_, Reps.pure ht b r⟩
    rcases h with ⟨h1, h2⟩ | h
    · exact .inl ⟨h1, fun z => ht a z h2 _ h1⟩
    · exact .inr h
  | .lst ds, v, b, h => by cases (show false = true from b)
  | .dic ks ds, v, b, h => by cases (show false = true from b)
  | .obj c ks ds, v, b, h => by cases (show false = true from b)
  | .cell k, v, b, h => h
  | .scr ns, v, b, h => by cases (show false = true from b)
theorem Reps.pure {L2 : Addr → Prop} (ht : ∀ a, L2 a → ¬ L a → ∀ xs, H a ≠ some (.tup xs)) : ∀ {ds : List D} {vs : List V}, D.pures ds = true → Reps K g κ L H ds vs → Reps K g κ L2 H ds vs
  | [], _, _, h => h
  | d :: ds, vs, b, h => by
    obtain ⟨v, r, e, h1, h2⟩ := h
    have b2 : (D.pure d && D.pures ds) = true := b
    obtain ⟨b3, b4⟩ := Bool.and_eq_true_iff.mp b2
    exact ⟨v, r, e, Rep.pure ht b3 h1, Reps.pure ht b4 h2⟩
end
theorem Reps.nil : Reps K g κ L H [] [] := rfl
theorem Reps.cons {d : D} {v : V} {ds : List D} {vs : List V} (h : Rep K g κ L H d v) (r : Reps K g κ L H ds vs) : Reps K g κ L H (d :: ds) (v :: vs) := ⟨v, vs, rfl, h, r⟩
theorem Reps.length : ∀ {ds : List D} {vs : List V}, Reps K g κ L H ds vs → ds.length = vs.length
  | [], _, h => by cases (show _ = _ from h); rfl
  | d :: ds, vs, h => by
    obtain ⟨v, r, e, h1, h2⟩ := h
    subst e
    simp [Reps.length h2]
theorem Reps.append : ∀ {ds es : List D} {vs us : List V}, Reps K g κ L H ds vs → Reps K g κ L H es us → Reps K g κ L H (ds ++ es) (vs ++ us)
  | [], _, _, _, h, h' => by cases (show _ = _ from h); exact h'
  | d :: ds, es, vs, us, h, h' => by
    obtain ⟨v, r, e, h1, h2⟩ := h
    subst e
    exact .cons h1 (Reps.append h2 h')
theorem Reps.get : ∀ {ds : List D} {vs : List V} {i : Nat} {d : D}, Reps K g κ L H ds vs → ds[i]? = some d → ∃ v, vs[i]? = some v ∧ Rep K g κ L H d v
  | [], _, _, _, _, e => by simp at e
  | d :: ds, vs, 0, _, h, e => by
    obtain ⟨v, r, e', h1, h2⟩ := h
    subst e'
    simp at e; subst e
    exact ⟨v, by simp, h1⟩
  | d :: ds, vs, i + 1, x, h, e => by
    obtain ⟨v, r, e', h1, h2⟩ := h
    subst e'
    obtain ⟨u, e1, e2⟩ := Reps.get h2 (show ds[i]? = some x by simpa using e)
    exact ⟨u, by simpa using e1, e2⟩
theorem Reps.take' : ∀ {ds : List D} {vs : List V} (n : Nat), Reps K g κ L H ds vs → Reps K g κ L H (ds.take n) (vs.take n)
  | _, _, 0, _ => by simp; exact Reps.nil
  | [], _, n + 1, h => by cases (show _ = _ from h); exact Reps.nil
  | d :: ds, vs, n + 1, h => by
    obtain ⟨v, r, e, h1, h2⟩ := h
    subst e
    exact .cons h1 (Reps.take' n h2)
theorem Reps.drop : ∀ {ds : List D} {vs : List V} (n : Nat), Reps K g κ L H ds vs → Reps K g κ L H (ds.drop n) (vs.drop n)
  | _, _, 0, h => by simpa using h
  | [], _, n + 1, h => by cases (show _ = _ from h); exact Reps.nil
  | d :: ds, vs, n + 1, h => by
    obtain ⟨v, r, e, h1, h2⟩ := h
    subst e
    exact Reps.drop n h2
theorem Reps.set : ∀ {ds : List D} {vs : List V} (n : Nat) {d : D} {v : V}, Reps K g κ L H ds vs → Rep K g κ L H d v → Reps K g κ L H (ds.set n d) (vs.set n v)
  | [], _, n, _, _, h, _ => by cases (show _ = _ from h); exact Reps.nil
  | d :: ds, vs, 0, _, _, h, h' => by
    obtain ⟨v, r, e, h1, h2⟩ := h
    subst e
    exact .cons h' h2
  | d :: ds, vs, n + 1, _, _, h, h' => by
    obtain ⟨v, r, e, h1, h2⟩ := h
    subst e
    exact .cons h1 (Reps.set n h2 h')
theorem Reps.eraseIdx : ∀ {ds : List D} {vs : List V} (n : Nat), Reps K g κ L H ds vs → Reps K g κ L H (ds.eraseIdx n) (vs.eraseIdx n)
  | [], _, n, h => by cases (show _ = _ from h); exact Reps.nil
  | d :: ds, vs, 0, h => by
    obtain ⟨v, r, e, h1, h2⟩ := h
    subst e
    exact h2
  | d :: ds, vs, n + 1, h => by
    obtain ⟨v, r, e, h1, h2⟩ := h
    subst e
    exact .cons h1 (Reps.eraseIdx n h2)
theorem Reps.inv_cons {d : D} {ds : List D} {vs : List V} (h : Reps K g κ L H (d :: ds) vs) : ∃ v r, vs = v :: r ∧ Rep K g κ L H d v ∧ Reps K g κ L H ds r := h
theorem Reps.inv_nil {vs : List V} (h : Reps K g κ L H [] vs) : vs = [] := h
theorem Reps.replicate {ds : List D} {vs : List V} (h : Reps K g κ L H ds vs) : ∀ n : Nat, Reps K g κ L H (List.replicate n ds).flatten (List.replicate n vs).flatten
  | 0 => Reps.nil
  | n + 1 => by
    rw [List.replicate_succ, List.replicate_succ, List.flatten_cons, List.flatten_cons]
    exact Reps.append h (Reps.replicate h n)
end
end CL
end
section
set_option Elab.async false
set_option linter.all false
set_option maxRecDepth 100000
/-! Rules: the layer's rules, read by data. -/
namespace CL
open PySem L2

/-- the cells' addresses that are written -/
def lv (κ : List Addr) (s : S) (a : Addr) : Prop := ∃ (k : Nat) (c : Ct), κ[k]? = some a ∧ s[k]? = some c ∧ c ≠ Ct.dead
/-- the protected addresses -/
abbrev pr (κ : List Addr) (s : S) (Z : Addr → Prop) (a : Addr) : Prop := lv κ s a ∨ Z a
section
variable (K : PySem.W.Frag) (g : Cfg)
def CtR (κ : List Addr) (L : Addr → Prop) (H : Hp) (a : Addr) : Ct → Prop
  | .dead => True
  | .lst xs => ∃ vs, H a = some (.lst vs) ∧ Reps K g κ L H xs vs
  | .dic ks xs => ∃ kvs, H a = some (.dT kvs) ∧ ks = kvs.map (fun p => kT p.1) ∧ Reps K g κ L H xs (kvs.map (·.2))
  | .obj c ks xs => ∃ dx fs, H a = some (.ins (g.Γ c) dx fs) ∧ Cls K (g.Γ c) ∧ fs.map (·.1) = ks.map g.nm ∧ (∀ k ∈ ks, g.ok k ∧ NoAttr K (g.Γ c) (g.nm k)) ∧ Reps K g κ L H xs (fs.map (·.2))
structure Held (κ : List Addr) (s : S) (Z : Addr → Prop) (H : Hp) : Prop where
  len : κ.length = s.length
  nd : κ.Nodup
  trk : ∀ a ∈ κ, H a ≠ none
  ztrk : ∀ a, Z a → H a ≠ none
  zdis : ∀ a, Z a → ¬ lv κ s a
  znt : ∀ a, Z a → ∀ xs, H a ≠ some (.tup xs)
  ct : ∀ (k : Nat) (a : Addr) (c : Ct), κ[k]? = some a → s[k]? = some c → CtR K g κ (pr κ s Z) H a c
/-- from one state to a later one -/
structure Ext (Z : Addr → Prop) (κ : List Addr) (s : S) (H : Hp) (κ' : List Addr) (s' : S) (H' : Hp) : Prop where
  pre : ∃ t, κ' = κ ++ t
  lv : ∀ a, lv κ' s' a → lv κ s a ∨ H a = none
  fr : ∀ b o, H b = some o → ¬ CL.lv κ s b → H' b = some o
  trk : ∀ b, H b ≠ none → H' b ≠ none
  held : Held K g κ' s' Z H'
/-- an exception -/
def XRep (κ : List Addr) (L : Addr → Prop) (H : Hp) (C : Value) (d : Option Addr) (x : Xc) : Prop :=
  C = .ref (g.Γ x.c) ∧ (x.ks = [] ∨ ∃ a fs, d = some a ∧ H a = some (.xd fs) ∧ fs.map (·.1) = x.ks.map g.nm ∧ (∀ k ∈ x.ks, g.ok k) ∧ Reps K g κ L H x.vs (fs.map (·.2)))
def PostG {α : Type} (Z : Addr → Prop) (E : XK) (κ : List Addr) (s : S) (H : Hp) (r : R α) (Ok : α → List Addr → S → Hp → Prop) : Prop := match r with
  | .fail => False
  | .ok a s' => ∀ κ' H', Ext K g Z κ s H κ' s' H' → Ok a κ' s' H'
  | .exc x s' => ∀ C d κ' H', Ext K g Z κ s H κ' s' H' → XRep K g κ' (pr κ' s' Z) H' C d x → E C d H'
/-- sizes, as every heap that is held has them -/
def Sz (H : Hp) : Prop := ∀ a xs, (Rd H a (.lst xs) ∨ Rd H a (.tup xs)) → xs.length ≤ sizeLine
structure ERep (κ : List Addr) (L : Addr → Prop) (H : Hp) (σ : St) (ρ : Env) : Prop where
  len : σ.length = ρ.length
  at_ : ∀ (i : Nat) (d : D), ρ[i]? = some (some d) → ∃ v, σ[i]? = some (some v) ∧ Rep K g κ L H d v
abbrev OkD (Z : Addr → Prop) (Q : VK) : D → List Addr → S → Hp → Prop := fun d κ s H => ∀ v, Rep K g κ (pr κ s Z) H d v → Q v H
abbrev OkB (Q : Bool → Hp → Prop) : Bool → List Addr → S → Hp → Prop := fun k _ _ H => Q k H
abbrev OkA (Z : Addr → Prop) (Q : List V → Hp → Prop) : List D → List Addr → S → Hp → Prop := fun ds κ s H => ∀ vs, Reps K g κ (pr κ s Z) H ds vs → Q vs H
abbrev OkS (Z : Addr → Prop) (Dn : Ends) : Fl → List Addr → S → Hp → Prop := fun f κ s H => match f with
  | .nx ρ => ∀ σ, ERep K g κ (pr κ s Z) H σ ρ → Dn.nx σ H
  | .bk ρ => ∀ σ, ERep K g κ (pr κ s Z) H σ ρ → Dn.bk σ H
  | .ct ρ => ∀ σ, ERep K g κ (pr κ s Z) H σ ρ → Dn.ct σ H
  | .ret d => ∀ v, Rep K g κ (pr κ s Z) H d v → Dn.rt v H
/-- a state of data -/
structure At (Z : Addr → Prop) (κ : List Addr) (s : S) (H : Hp) (σ : St) (ρ : Env) : Prop where
  env : ERep K g κ (pr κ s Z) H σ ρ
  held : Held K g κ s Z H
def tD (E : XK) (f : Ex) : TE := fun σ H Q => Sz H → ∃ Z κ s ρ, At K g Z κ s H σ ρ ∧ PostG K g Z E κ s H (f ρ s) (OkD K g Z Q)
def tB (E : XK) (f : Tx) : TT := fun σ H Q => Sz H → ∃ Z κ s ρ, At K g Z κ s H σ ρ ∧ PostG K g Z E κ s H (f ρ s) (OkB Q)
def tA (E : XK) (f : Ax) : TA := fun σ H Q => Sz H → ∃ Z κ s ρ, At K g Z κ s H σ ρ ∧ PostG K g Z E κ s H (f ρ s) (OkA K g Z Q)
def tS (E : XK) (f : Sx) : TS := fun Dn σ H => Sz H → ∃ Z κ s ρ, At K g Z κ s H σ ρ ∧ PostG K g Z E κ s H (f ρ s) (OkS K g Z Dn)
end

section
variable {K : PySem.W.Frag} {g : Cfg} {Z : Addr → Prop} {E : XK} {κ κ' κ'' : List Addr} {s s' s'' : S} {H H' H'' : Hp} {σ : St} {ρ : Env}
theorem lv.lt {a : Addr} (h : lv κ s a) (hd : Held K g κ s Z H) : H a ≠ none := by
  obtain ⟨k, c, e, _, _⟩ := h
  exact hd.trk a (List.mem_of_getElem? e)
theorem pr.lt {a : Addr} (h : pr κ s Z a) (hd : Held K g κ s Z H) : H a ≠ none := by
  rcases h with h | h
  · exact h.lt hd
  · exact hd.ztrk a h
theorem Ext.stays (x : Ext K g Z κ s H κ' s' H') : Stays κ κ' (pr κ s Z) (pr κ' s' Z) H H' where
  pre := x.pre
  nl := fun a n h z => by
    rcases z with z | z
    · rcases x.lv a z with q | q
      · exact h (.inl q)
      · exact n q
    · exact h (.inr z)
  fr := fun b o e n => x.fr b o e fun z => n (.inl z)
theorem Ext.refl (hd : Held K g κ s Z H) : Ext K g Z κ s H κ s H := ⟨⟨[], by simp⟩, fun _ h => .inl h, fun _ _ e _ => e, fun _ n => n, hd⟩
theorem Ext.trans (x : Ext K g Z κ s H κ' s' H') (y : Ext K g Z κ' s' H' κ'' s'' H'') : Ext K g Z κ s H κ'' s'' H'' := by
  obtain ⟨u, e1⟩ := x.pre
  obtain ⟨v, e2⟩ := y.pre
  refine ⟨⟨u ++ v, by rw [e2, e1, List.append_assoc]⟩, fun a h => ?_, fun b o e n => ?_, fun b n => y.trk b (x.trk b n), y.held⟩
  · rcases y.lv a h with q | q
    · exact x.lv a q
    · right
      cases z : H a with
      | none => rfl
      | some o => exact absurd q (x.trk a (some_ne z))
  · refine y.fr b o (x.fr b o e n) fun q => ?_
    rcases x.lv b q with q | q
    · exact n q
    · rw [q] at e; cases e
theorem ERep.stays {L L' : Addr → Prop} (t : Stays κ κ' L L' H H') (r : ERep K g κ L H σ ρ) : ERep K g κ' L' H' σ ρ :=
  ⟨r.len, fun i d e => let ⟨v, e1, e2⟩ := r.at_ i d e; ⟨v, e1, e2.stays t⟩⟩
theorem At.ext (a : At K g Z κ s H σ ρ) (x : Ext K g Z κ s H κ' s' H') : At K g Z κ' s' H' σ ρ := ⟨a.env.stays x.stays, x.held⟩
theorem PostG.ext {α : Type} {r : R α} {Ok : α → List Addr → S → Hp → Prop} (p : PostG K g Z E κ s H r Ok) (x : Ext K g Z κ s H κ' s' H') : PostG K g Z E κ' s' H' r Ok := by
  cases r with
  | fail => exact p
  | ok a t => exact fun κ2 H2 y => p κ2 H2 (x.trans y)
  | exc c t => exact fun C d κ2 H2 y => p C d κ2 H2 (x.trans y)
theorem PostG.mono {α : Type} {r : R α} {Ok Ok' : α → List Addr → S → Hp → Prop} (p : PostG K g Z E κ s H r Ok) (h : ∀ a κ' s' H', Ext K g Z κ s H κ' s' H' → Ok a κ' s' H' → Ok' a κ' s' H') : PostG K g Z E κ s H r Ok' := by
  cases r with
  | fail => exact p
  | ok a t => exact fun κ2 H2 y => h _ _ _ _ y (p κ2 H2 y)
  | exc c t => exact p
/-- the first of two steps -/
theorem PostG.bind {α β : Type} {r : R α} {k : α → S → R β} {Ok : β → List Addr → S → Hp → Prop} (p : PostG K g Z E κ s H (r.b k) Ok) :
    PostG K g Z E κ s H r (fun a κ' s' H' => PostG K g Z E κ' s' H' (k a s') Ok) := by
  cases r with
  | fail => exact p
  | ok a t => exact fun κ2 H2 y => PostG.ext p y
  | exc c t => exact p
theorem PostG.of {α : Type} {o : Option α} {Ok : α → List Addr → S → Hp → Prop} (p : PostG K g Z E κ s H (R.of o s) Ok) (hd : Held K g κ s Z H) : ∃ a, o = some a ∧ Ok a κ s H ∧ ∀ κ' H', Ext K g Z κ s H κ' s H' → Ok a κ' s H' := by
  cases o with
  | none => exact p.elim
  | some a => exact ⟨a, rfl, p κ H (.refl hd), p⟩

/-! ### the layer's judgements, weakened -/
theorem sz_of {X : Cx} {pins : List (Addr × Obj)} {σ : St} {H : Hp} {s : Shared} (I : Inv X pins σ H s) : Sz H := by
  intro a xs h
  rcases h with h | h
  · obtain ⟨z, _⟩ := (show ObjOk X.prog X.w H s.heap a (.lst xs) from h.ok I.hok)
    exact z
  · obtain ⟨z, _⟩ := (show ObjOk X.prog X.w H s.heap a (.tup xs) from h.ok I.hok)
    exact z
section
variable {X : Cx} {e : Expr} {t t' : TE} {u u' : TT}
theorem PE.imp (h : PE X e t) (i : ∀ σ H Q, Sz H → t' σ H Q → t σ H Q) : PE X e t' := ⟨fun pins s σ H Q I q => h.run pins s σ H Q I (i σ H Q (sz_of I) q)⟩
theorem PT.imp (h : PT X e u) (i : ∀ σ H Q, Sz H → u' σ H Q → u σ H Q) : PT X e u' := ⟨fun pins s σ H Q I q => h.run pins s σ H Q I (i σ H Q (sz_of I) q)⟩
theorem PW.imp (h : PW X e u) (i : ∀ σ H Q, Sz H → u' σ H Q → u σ H Q) : PW X e u' := ⟨fun wh pins s σ H Q I q => h.run wh pins s σ H Q I (i σ H Q (sz_of I) q)⟩
theorem PA.imp {es : List Expr} {a a' : TA} (h : PA X es a) (i : ∀ σ H Q, Sz H → a' σ H Q → a σ H Q) : PA X es a' := ⟨fun pos pins s σ H Q I q => h.run pos pins s σ H Q I (i σ H Q (sz_of I) q)⟩
theorem PS.imp {st : Stmt} {a a' : TS} (h : PS X st a) (i : ∀ Dn σ H, Sz H → a' Dn σ H → a Dn σ H) : PS X st a' := ⟨fun pins s σ H Dn I q => h.run pins s σ H Dn I (i Dn σ H (sz_of I) q)⟩
theorem PSs.imp {st : List Stmt} {a a' : TS} (h : PSs X st a) (i : ∀ Dn σ H, Sz H → a' Dn σ H → a Dn σ H) : PSs X st a' := ⟨fun pins s σ H Dn I q => h.run pins s σ H Dn I (i Dn σ H (sz_of I) q)⟩
end
/-- a part's reading from what is known of its data -/
theorem tD.mk {f : Ex} {Q : VK} (a : At K g Z κ s H σ ρ) (p : PostG K g Z E κ s H (f ρ s) (OkD K g Z Q)) : tD K g E f σ H Q := fun _ => ⟨Z, κ, s, ρ, a, p⟩
theorem tB.mk {f : Tx} {Q : Bool → Hp → Prop} (a : At K g Z κ s H σ ρ) (p : PostG K g Z E κ s H (f ρ s) (OkB Q)) : tB K g E f σ H Q := fun _ => ⟨Z, κ, s, ρ, a, p⟩
theorem tA.mk {f : Ax} {Q : List V → Hp → Prop} (a : At K g Z κ s H σ ρ) (p : PostG K g Z E κ s H (f ρ s) (OkA K g Z Q)) : tA K g E f σ H Q := fun _ => ⟨Z, κ, s, ρ, a, p⟩
theorem tS.mk {f : Sx} {Dn : Ends} (a : At K g Z κ s H σ ρ) (p : PostG K g Z E κ s H (f ρ s) (OkS K g Z Dn)) : tS K g E f Dn σ H := fun _ => ⟨Z, κ, s, ρ, a, p⟩
end
end CL
end
section
set_option Elab.async false
set_option linter.all false
set_option maxRecDepth 100000
/-! Ops: operations on data. -/
namespace CL
open PySem L2
section
variable {K : PySem.W.Frag} {g : Cfg} {Z : Addr → Prop} {E : XK} {κ κ' κ'' : List Addr} {s s' s'' : S} {H H' H'' : Hp} {σ : St} {ρ : Env}

/-- an answer that leaves the heap as it is, or lays something new -/
abbrev Ans (K : PySem.W.Frag) (g : Cfg) (Z : Addr → Prop) (κ : List Addr) (s : S) (H : Hp) (d : D) (Q : VK) : Prop := ∀ κ' H', Ext K g Z κ s H κ' s H' → ∀ v, Rep K g κ' (pr κ' s Z) H' d v → Q v H'
def U1 (K : PySem.W.Frag) (g : Cfg) (op : S → D → Option D) (r : V → Hp → VK → Prop) : Prop :=
  ∀ (Z : Addr → Prop) (κ : List Addr) (s : S) (H : Hp) (d d' : D) (v : V) (Q : VK), Held K g κ s Z H → Rep K g κ (pr κ s Z) H d v → op s d = some d' → Ans K g Z κ s H d' Q → r v H Q
def B2 (K : PySem.W.Frag) (g : Cfg) (op : S → D → D → Option D) (r : V → V → Hp → VK → Prop) : Prop :=
  ∀ (Z : Addr → Prop) (κ : List Addr) (s : S) (H : Hp) (d1 d2 d' : D) (v1 v2 : V) (Q : VK), Held K g κ s Z H → Rep K g κ (pr κ s Z) H d1 v1 → Rep K g κ (pr κ s Z) H d2 v2 → op s d1 d2 = some d' → Ans K g Z κ s H d' Q → r v1 v2 H Q
theorem Ans.here {d : D} {Q : VK} {v : V} (q : Ans K g Z κ s H d Q) (hd : Held K g κ s Z H) (r : Rep K g κ (pr κ s Z) H d v) : Q v H := q κ H (.refl hd) v r

section
variable {X : Cx} {e a b c : Expr} {f f1 f2 f3 : Ex} {pos : Pos}
theorem pd_un {op : S → D → Option D} {r : V → Hp → VK → Prop} (h : PE X e (tUn r (tD K g E f))) (ho : U1 K g op r) : PE X e (tD K g E (e1 op f)) := by
  refine PE.imp h fun σ H Q sz q => ?_
  obtain ⟨Z, κ, s, ρ, at0, p⟩ := q sz
  refine tD.mk at0 (PostG.mono (PostG.bind p) fun x κ1 s1 H1 x1 p1 v rv => ?_)
  obtain ⟨d', e', _, q'⟩ := p1.of x1.held
  exact ho Z κ1 s1 H1 x d' v Q x1.held rv e' q'
theorem pd_bin {op : S → D → D → Option D} {r : V → V → Hp → VK → Prop} (h : PE X e (tOp r (tD K g E f1) (tD K g E f2))) (ho : B2 K g op r) : PE X e (tD K g E (e2 op f1 f2)) := by
  refine PE.imp h fun σ H Q sz q => ?_
  obtain ⟨Z, κ, s, ρ, at0, p⟩ := q sz
  refine tD.mk at0 (PostG.mono (PostG.bind p) fun x κ1 s1 H1 x1 p1 v rv => ?_)
  refine tD.mk (at0.ext x1) (PostG.mono (PostG.bind p1) fun y κ2 s2 H2 x2 p2 u ru => ?_)
  obtain ⟨d', e', _, q'⟩ := p2.of x2.held
  exact ho Z κ2 s2 H2 x y d' v u Q x2.held (rv.stays x2.stays) ru e' q'
/-- a name -/
theorem pd_var (i : Nat) (h : PE X e (tVar i)) : PE X e (tD K g E (eVar i)) := by
  refine PE.imp h fun σ H Q sz q => ?_
  obtain ⟨Z, κ, s, ρ, at0, p⟩ := q sz
  unfold eVar at p
  cases e1 : ρ[i]? with
  | none => rw [e1] at p; exact p.elim
  | some o =>
    rw [e1] at p
    cases o with
    | none => exact p.elim
    | some d =>
      obtain ⟨v, e2, rv⟩ := at0.env.at_ i d e1
      exact ⟨v, e2, p κ H (.refl at0.held) v rv⟩
theorem pd_c {d : D} {v : V} (h : PE X e (tC v)) (hr : ∀ κ L H, Rep K g κ L H d v) : PE X e (tD K g E (eC d)) := by
  refine PE.imp h fun σ H Q sz q => ?_
  obtain ⟨Z, κ, s, ρ, at0, p⟩ := q sz
  exact p κ H (.refl at0.held) v (hr _ _ _)
theorem pd_no {t : TE} (h : PE X e t) : PE X e (tD K g E eNo) := by
  refine PE.imp h fun σ H Q sz q => ?_
  obtain ⟨Z, κ, s, ρ, at0, p⟩ := q sz
  exact p.elim
/-- a op b op' c -/
theorem pd_ch {op op' : S → D → D → Option D} {r r' : R2} (h : PE X e (tChain r r' (tD K g E f1) (tD K g E f2) (tD K g E f3))) (ho : B2 K g op r) (ho' : B2 K g op' r') : PE X e (tD K g E (eCh op op' f1 f2 f3)) := by
  refine PE.imp h fun σ H Q sz q => ?_
  obtain ⟨Z, κ, s, ρ, at0, p⟩ := q sz
  refine tD.mk at0 (PostG.mono (PostG.bind p) fun x κ1 s1 H1 x1 p1 v rv => ?_)
  refine tD.mk (at0.ext x1) (PostG.mono (PostG.bind p1) fun y κ2 s2 H2 x2 p2 u ru => ?_)
  cases eo : op s2 x y with
  | none => rw [eo] at p2; exact p2.elim
  | some d =>
    rw [eo] at p2
    cases d with
    | bl k =>
      refine ho Z κ2 s2 H2 x y (.bl k) v u _ x2.held (rv.stays x2.stays) ru eo fun κ3 H3 x3 w rw' => ⟨k, rw', ?_⟩
      cases k with
      | false =>
        rw [if_neg Bool.false_ne_true]
        exact p2 κ3 H3 x3 _ rfl
      | true =>
        rw [if_pos rfl]
        have p3 : PostG K g Z E κ2 s2 H2 ((f3 ρ s2).b fun z s => R.of (op' s y z) s) (OkD K g Z Q) := p2
        refine tD.mk (at0.ext (x1.trans (x2.trans x3))) (PostG.mono (PostG.bind (p3.ext x3)) fun z κ4 s4 H4 x4 p4 w' rw'' => ?_)
        obtain ⟨d', e', _, q'⟩ := p4.of x4.held
        exact ho' Z κ4 s4 H4 y z d' u w' Q x4.held (ru.stays (x3.trans x4).stays) rw'' e' q'
    | _ => exact p2.elim
theorem pd_and (h : PE X e (tAndV (tD K g E f1) (tD K g E f2))) : PE X e (tD K g E (eAnd f1 f2)) := by
  refine PE.imp h fun σ H Q sz q => ?_
  obtain ⟨Z, κ, s, ρ, at0, p⟩ := q sz
  refine tD.mk at0 (PostG.mono (PostG.bind p) fun x κ1 s1 H1 x1 p1 v rv => ?_)
  cases x with
  | bl k =>
    refine ⟨k, rv, ?_⟩
    cases k with
    | true => rw [if_pos rfl]; exact tD.mk (at0.ext x1) p1
    | false => rw [if_neg Bool.false_ne_true]; exact p1 κ1 H1 (.refl x1.held) _ rfl
  | _ => exact p1.elim
theorem pd_or (h : PE X e (tOrV (tD K g E f1) (tD K g E f2))) : PE X e (tD K g E (eOr f1 f2)) := by
  refine PE.imp h fun σ H Q sz q => ?_
  obtain ⟨Z, κ, s, ρ, at0, p⟩ := q sz
  refine tD.mk at0 (PostG.mono (PostG.bind p) fun x κ1 s1 H1 x1 p1 v rv => ?_)
  cases x with
  | bl k =>
    refine ⟨k, rv, ?_⟩
    cases k with
    | false => rw [if_neg Bool.false_ne_true]; exact tD.mk (at0.ext x1) p1
    | true => rw [if_pos rfl]; exact p1 κ1 H1 (.refl x1.held) _ rfl
  | _ => exact p1.elim
theorem pd_if {t : Tx} (h : PE X e (tIf (tB K g E t) (tD K g E f1) (tD K g E f2))) : PE X e (tD K g E (eIf t f1 f2)) := by
  refine PE.imp h fun σ H Q sz q => ?_
  obtain ⟨Z, κ, s, ρ, at0, p⟩ := q sz
  refine tB.mk at0 (PostG.mono (PostG.bind p) fun k κ1 s1 H1 x1 p1 => ?_)
  cases k with
  | true =>
    show if true = true then _ else _
    rw [if_pos rfl]; rw [if_pos rfl] at p1
    exact tD.mk (at0.ext x1) p1
  | false =>
    show if false = true then _ else _
    rw [if_neg Bool.false_ne_true]; rw [if_neg Bool.false_ne_true] at p1
    exact tD.mk (at0.ext x1) p1
/-! tests -/
variable {t t1 t2 : Tx}
theorem pb_val (h : PT X e (L2.tB (tD K g E f))) : PT X e (tB K g E (tVal f)) := by
  refine PT.imp h fun σ H Q sz q => ?_
  obtain ⟨Z, κ, s, ρ, at0, p⟩ := q sz
  refine tD.mk at0 (PostG.mono (PostG.bind p) fun x κ1 s1 H1 x1 p1 v rv => ?_)
  cases x with
  | bl k => exact ⟨k, rv, p1 κ1 H1 (.refl x1.held)⟩
  | _ => exact p1.elim
theorem pb_test (h : PT X e (tTest (tD K g E f))) : PT X e (tB K g E (tVal f)) := pb_val h
theorem truV_of {d : D} {v : V} {k : Bool} (rv : Rep K g κ (pr κ s Z) H d v) (hd : Held K g κ s Z H) (h : truD s d = some k) : TruV K v H k := by
  cases d with
  | non => cases rv; cases h; rfl
  | bl b => cases rv; cases h; rfl
  | int i => cases rv; cases h; rfl
  | tup xs =>
    obtain ⟨a, vs, rfl, e, r⟩ := rv
    cases h
    refine .inr (.inl ⟨vs, ?_, ?_⟩)
    · rcases e with ⟨e, _⟩ | ⟨ev, e⟩
      · exact SqT.of e
      · subst ev; exact .inr e
    · have := r.length
      cases xs <;> cases vs <;> simp_all
  | lst xs =>
    obtain ⟨a, vs, rfl, _, e, r⟩ := rv
    cases h
    refine .inl ⟨vs, .inl e, ?_⟩
    have := r.length
    cases xs <;> cases vs <;> simp_all
  | cell n =>
    obtain ⟨a, rfl, e⟩ := rv
    cases ec : s[n]? with
    | none => simp only [truD, ec] at h; cases h
    | some ct =>
      simp only [truD, ec] at h
      cases ct with
      | lst xs =>
        cases h
        obtain ⟨vs, e2, r⟩ := hd.ct n a _ e ec
        refine .inl ⟨vs, SqL.of e2, ?_⟩
        have := r.length
        cases xs <;> cases vs <;> simp_all
      | _ => cases h
  | _ => cases h
theorem pb_tru (hK : X.K = K) (h : PT X e (fun σ H Q => tD K g E f σ H fun x H' => ∃ k, TruV X.K x H' k ∧ Q k H')) : PT X e (tB K g E (tTru f)) := by
  subst hK
  refine PT.imp h fun σ H Q sz q => ?_
  obtain ⟨Z, κ, s, ρ, at0, p⟩ := q sz
  refine tD.mk at0 (PostG.mono (PostG.bind p) fun x κ1 s1 H1 x1 p1 v rv => ?_)
  obtain ⟨k, e', q', _⟩ := p1.of x1.held
  exact ⟨k, truV_of rv x1.held e', q'⟩
theorem pb_and (h : PW X e (L2.tAnd (tB K g E t1) (tB K g E t2))) : PW X e (tB K g E (tAnd t1 t2)) := by
  refine PW.imp h fun σ H Q sz q => ?_
  obtain ⟨Z, κ, s, ρ, at0, p⟩ := q sz
  refine tB.mk at0 (PostG.mono (PostG.bind p) fun k κ1 s1 H1 x1 p1 => ?_)
  cases k with
  | true =>
    show if true = true then _ else _
    rw [if_pos rfl]; rw [if_pos rfl] at p1
    exact tB.mk (at0.ext x1) p1
  | false =>
    show if false = true then _ else _
    rw [if_neg Bool.false_ne_true]; rw [if_neg Bool.false_ne_true] at p1
    exact p1 κ1 H1 (.refl x1.held)
theorem pb_or (h : PW X e (L2.tOr (tB K g E t1) (tB K g E t2))) : PW X e (tB K g E (tOr t1 t2)) := by
  refine PW.imp h fun σ H Q sz q => ?_
  obtain ⟨Z, κ, s, ρ, at0, p⟩ := q sz
  refine tB.mk at0 (PostG.mono (PostG.bind p) fun k κ1 s1 H1 x1 p1 => ?_)
  cases k with
  | true =>
    show if true = true then _ else _
    rw [if_pos rfl]; rw [if_pos rfl] at p1
    exact p1 κ1 H1 (.refl x1.held)
  | false =>
    show if false = true then _ else _
    rw [if_neg Bool.false_ne_true]; rw [if_neg Bool.false_ne_true] at p1
    exact tB.mk (at0.ext x1) p1
theorem pb_not (h : PT X e (L2.tNot (tB K g E t))) : PT X e (tB K g E (tNot t)) := by
  refine PT.imp h fun σ H Q sz q => ?_
  obtain ⟨Z, κ, s, ρ, at0, p⟩ := q sz
  exact tB.mk at0 (PostG.mono (PostG.bind p) fun k κ1 s1 H1 x1 p1 => p1 κ1 H1 (.refl x1.held))
/-! arguments, displays -/
variable {es : List Expr} {A1 : Ax}
theorem pda_nil (h : PA X es tNil) : PA X es (tA K g E aNil) := by
  refine PA.imp h fun σ H Q sz q => ?_
  obtain ⟨Z, κ, s, ρ, at0, p⟩ := q sz
  exact p κ H (.refl at0.held) [] Reps.nil
theorem pda_cons (h : PA X es (tCons (tD K g E f) (tA K g E A1))) : PA X es (tA K g E (aCons f A1)) := by
  refine PA.imp h fun σ H Q sz q => ?_
  obtain ⟨Z, κ, s, ρ, at0, p⟩ := q sz
  refine tD.mk at0 (PostG.mono (PostG.bind p) fun x κ1 s1 H1 x1 p1 v rv => ?_)
  refine tA.mk (at0.ext x1) (PostG.mono (PostG.bind p1) fun xs κ2 s2 H2 x2 p2 vs rvs => ?_)
  exact p2 κ2 H2 (.refl x2.held) _ (.cons (rv.stays x2.stays) rvs)
/-- something new that is no cell is laid -/
theorem Ext.lay {p : Addr} {o : HO} (hd : Held K g κ s Z H) (hp : H p = none) : Ext K g Z κ s H κ s (upd H p o) := by
  refine ⟨⟨[], by simp⟩, fun _ h => .inl h, fun b u e _ => by rw [upd_ne (ne_of_none e hp)]; exact e, fun b n => ?_, ⟨hd.len, hd.nd, fun a ha => ?_, fun a ha => ?_, hd.zdis, fun a ha xs => by rw [upd_ne (fun q => hd.ztrk a ha (by rw [q]; exact hp))]; exact hd.znt a ha xs, fun k a c e1 e2 => ?_⟩⟩
  · by_cases q : b = p
    · subst q; rw [upd_same]; intro z; cases z
    · rw [upd_ne q]; exact n
  · rw [upd_ne (fun q => hd.trk a ha (by rw [q]; exact hp))]; exact hd.trk a ha
  · rw [upd_ne (fun q => hd.ztrk a ha (by rw [q]; exact hp))]; exact hd.ztrk a ha
  · have na : a ≠ p := fun q => hd.trk a (List.mem_of_getElem? e1) (by rw [q]; exact hp)
    have st : Stays κ κ (pr κ s Z) (pr κ s Z) H (upd H p o) := Stays.new hp
    have h := hd.ct k a c e1 e2
    cases c with
    | dead => exact h
    | lst xs => obtain ⟨vs, h1, h2⟩ := h; exact ⟨vs, by rw [upd_ne na]; exact h1, h2.stays st⟩
    | dic ks xs => obtain ⟨kvs, h1, h2, h3⟩ := h; exact ⟨kvs, by rw [upd_ne na]; exact h1, h2, h3.stays st⟩
    | obj c' ks xs => obtain ⟨dx, fs, h1, h2, h3, h4, h5⟩ := h; exact ⟨dx, fs, by rw [upd_ne na]; exact h1, h2, h3, h4, h5.stays st⟩
theorem free_pr {p : Addr} (hd : Held K g κ s Z H) (hp : H p = none) : ¬ pr κ s Z p := fun z => z.lt hd hp
theorem new_tup {p : Addr} {xs : List D} {vs : List V} (hd : Held K g κ s Z H) (hp : H p = none) (r : Reps K g κ (pr κ s Z) H xs vs) : Rep K g κ (pr κ s Z) (upd H p (.tup vs)) (.tup xs) (.ref p) :=
  ⟨p, vs, rfl, .inl ⟨upd_same, free_pr hd hp⟩, r.stays (Stays.new hp)⟩
theorem new_lst {p : Addr} {xs : List D} {vs : List V} (hd : Held K g κ s Z H) (hp : H p = none) (r : Reps K g κ (pr κ s Z) H xs vs) : Rep K g κ (pr κ s Z) (upd H p (.lst vs)) (.lst xs) (.ref p) :=
  ⟨p, vs, rfl, free_pr hd hp, .inl upd_same, r.stays (Stays.new hp)⟩
theorem pd_tup (h : PE X e (tTup (tA K g E A1))) : PE X e (tD K g E (eTup A1)) := by
  refine PE.imp h fun σ H Q sz q => ?_
  obtain ⟨Z, κ, s, ρ, at0, p⟩ := q sz
  refine tA.mk at0 (PostG.mono (PostG.bind p) fun xs κ1 s1 H1 x1 p1 vs rvs => ?_)
  split at p1
  · rename_i hz
    refine ⟨by rw [← rvs.length]; exact hz, fun q hq => ?_⟩
    exact p1 κ1 _ (Ext.lay x1.held hq) _ (new_tup x1.held hq rvs)
  · exact p1.elim
theorem pd_lst (h : PE X e (tLst (tA K g E A1))) : PE X e (tD K g E (eLst A1)) := by
  refine PE.imp h fun σ H Q sz q => ?_
  obtain ⟨Z, κ, s, ρ, at0, p⟩ := q sz
  refine tA.mk at0 (PostG.mono (PostG.bind p) fun xs κ1 s1 H1 x1 p1 vs rvs => ?_)
  split at p1
  · rename_i hz
    refine ⟨by rw [← rvs.length]; exact hz, fun q hq => ?_⟩
    exact p1 κ1 _ (Ext.lay x1.held hq) _ (new_lst x1.held hq rvs)
  · exact p1.elim
end
end
end CL
end
section
set_option Elab.async false
set_option linter.all false
set_option maxRecDepth 100000
/-! Ops2: each operation. -/
namespace CL
open PySem PySem.Spec PyProof.Rows L2
section
variable {X : Cx} {pins : List (Addr × Obj)} {σ : L2.St} {H : Hp} {s : Shared}
/-- a list that is read -/
theorem rd_list (I : Inv X pins σ H s) {l : Addr} {xs : List V} (h : Rd H l (.lst xs)) : xs.length ≤ sizeLine ∧ ∃ (its : List Value) (n : Nat), Vals xs its ∧ xs.length = its.length ∧ s.heap.get? l = some { cls := .type "list", data := .seq its.toArray n } := by
  obtain ⟨z, its, n, r, e⟩ := (show ObjOk X.prog X.w H s.heap l (.lst xs) from h.ok I.hok)
  exact ⟨z, its, n, r, r.length, e⟩
def rCatR : R2 := fun x y H Q => ∃ l b xs zs, x = .ref l ∧ y = .ref b ∧ Rd H l (.lst xs) ∧ Rd H b (.lst zs) ∧ xs.length + zs.length ≤ sizeLine ∧ ∀ p, H p = none → Q (.ref p) (upd H p (.lst (xs ++ zs)))
theorem op_catR : OpR X (binaryOp .Add) rCatR := by
  intro pins s σ H x y v u Q I rx ry h
  obtain ⟨l, b, xs, zs, rfl, rfl, hH, hB, hz, q⟩ := h
  cases rx
  cases ry
  obtain ⟨z, its, n, r, hl, e⟩ := rd_list I hH
  obtain ⟨z2, its2, n2, r2, hl2, e2⟩ := rd_list I hB
  refine PySem.P.add_list e e2 ?_ (by rw [List.size_toArray, List.size_toArray]; omega)
  have ea : its.toArray ++ its2.toArray = (its ++ its2).toArray := by simp
  rw [ea]
  exact ⟨.ref _, _, I.lnew (t' := s.toks) (r.append r2) (by rw [List.length_append]; omega), rfl, q _ I.fresh⟩
end
section
variable {K : PySem.W.Frag} {g : Cfg} {Z : Addr → Prop} {E : XK} {κ κ' κ'' : List Addr} {s s' s'' : S} {H H' H'' : Hp} {σ : L2.St} {ρ : Env} {X : Cx}
def rStr : R2 := fun x y H Q => ∃ i j, x = .str i ∧ y = .str j ∧ i.length + j.length ≤ sizeLine ∧ Q (.str (i ++ j)) H
def rAddA (K : PySem.W.Frag) : R2 := fun x y H Q => rI0 (fun i j => .int (i + j)) x y H Q ∨ (rStr x y H Q ∨ (rCatA K x y H Q ∨ rCatR x y H Q))
theorem op_addA : OpR X (binaryOp .Add) (rAddA X.K) := op_add.or (OpR.or op_add_str (OpR.or op_catA op_catR))
theorem sqT_of {a : Addr} {vs : List V} {L : Addr → Prop} (h : (H a = some (.tup vs) ∧ ¬ L a) ∨ (vs = [] ∧ StT K a [])) : SqT K H a vs := by
  rcases h with ⟨e, _⟩ | ⟨ev, e⟩
  · exact SqT.of e
  · subst ev; exact .inr e
theorem b_add : B2 K g addD (rAddA K) := by
  intro Z κ s H d1 d2 d' v1 v2 Q hd r1 r2 e q
  cases d1 with
  | int i =>
    cases d2 with
    | int j => cases r1; cases r2; cases e; exact .inl ⟨i, j, rfl, rfl, q.here hd rfl⟩
    | _ => cases e
  | str a =>
    cases d2 with
    | str b =>
      cases r1; cases r2
      simp only [addD] at e
      split at e
      · rename_i h; cases e; exact .inr (.inl ⟨a, b, rfl, rfl, h, q.here hd rfl⟩)
      · cases e
    | _ => cases e
  | tup xs =>
    cases d2 with
    | tup ys =>
      obtain ⟨a, vs, rfl, ea, ra⟩ := r1
      obtain ⟨b, us, rfl, eb, rb⟩ := r2
      simp only [addD] at e
      split at e
      · rename_i h; cases e
        refine .inr (.inr (.inl ⟨a, b, vs, us, rfl, rfl, sqT_of ea, sqT_of eb, by rw [← ra.length, ← rb.length]; exact h, fun z => ?_, fun z z2 => ?_, fun _ _ p hp => ?_⟩))
        · subst z
          have : xs = [] := by cases xs with | nil => rfl | cons x r => obtain ⟨v, r', e, _⟩ := ra; cases e
          subst this
          exact q.here hd ⟨b, us, rfl, eb, rb⟩
        · subst z2
          have : ys = [] := by cases ys with | nil => rfl | cons x r => obtain ⟨v, r', e, _⟩ := rb; cases e
          subst this
          rw [List.append_nil] at q
          exact q.here hd ⟨a, vs, rfl, ea, ra⟩
        · exact q κ _ (Ext.lay hd hp) _ (new_tup hd hp (ra.append rb))
      · cases e
    | _ => cases e
  | lst xs =>
    cases d2 with
    | lst ys =>
      obtain ⟨a, vs, rfl, la, ea, ra⟩ := r1
      obtain ⟨b, us, rfl, lb, eb, rb⟩ := r2
      simp only [addD] at e
      split at e
      · rename_i h; cases e
        refine .inr (.inr (.inr ⟨a, b, vs, us, rfl, rfl, ea, eb, by rw [← ra.length, ← rb.length]; exact h, fun p hp => ?_⟩))
        exact q κ _ (Ext.lay hd hp) _ (new_lst hd hp (ra.append rb))
      · cases e
    | _ => cases e
  | _ => cases e
theorem b_ints {op : S → D → D → Option D} {C : Int → Int → Prop} {f : Int → Int → D} {f' : Int → Int → V} (h : ∀ s d1 d2 d', op s d1 d2 = some d' → ∃ i j, d1 = .int i ∧ d2 = .int j ∧ C i j ∧ d' = f i j)
    (hr : ∀ i j κ L H, Rep K g κ L H (f i j) (f' i j)) : B2 K g op (rI C f') := by
  intro Z κ s H d1 d2 d' v1 v2 Q hd r1 r2 e q
  obtain ⟨i, j, rfl, rfl, c, rfl⟩ := h s d1 d2 d' e
  cases r1; cases r2
  exact ⟨i, j, rfl, rfl, c, q.here hd (hr _ _ _ _ _)⟩
theorem b_ints0 {op : S → D → D → Option D} {f : Int → Int → D} {f' : Int → Int → V} (h : ∀ s d1 d2 d', op s d1 d2 = some d' → ∃ i j, d1 = .int i ∧ d2 = .int j ∧ d' = f i j)
    (hr : ∀ i j κ L H, Rep K g κ L H (f i j) (f' i j)) : B2 K g op (rI0 f') := by
  intro Z κ s H d1 d2 d' v1 v2 Q hd r1 r2 e q
  obtain ⟨i, j, rfl, rfl, rfl⟩ := h s d1 d2 d' e
  cases r1; cases r2
  exact ⟨i, j, rfl, rfl, q.here hd (hr _ _ _ _ _)⟩
theorem ite_some {α : Type} {c : Prop} [Decidable c] {a b : α} (h : (if c then some a else none) = some b) : c ∧ b = a := by
  by_cases hc : c
  · rw [if_pos hc] at h; cases h; exact ⟨hc, rfl⟩
  · rw [if_neg hc] at h; cases h
theorem b_sub : B2 K g subD (rI0 fun i j => .int (i - j)) := b_ints0 (f := fun i j => .int (i - j)) (fun s d1 d2 d' e => by cases d1 <;> cases d2 <;> first | (cases e; exact ⟨_, _, rfl, rfl, rfl⟩) | cases e) fun _ _ _ _ _ => rfl
theorem b_mod : B2 K g modD (rI (fun _ j => 0 < j) fun i j => .int (i % j)) := b_ints (f := fun i j => .int (i % j)) (fun s d1 d2 d' e => by
  cases d1 <;> cases d2 <;> first | (obtain ⟨h, e2⟩ := ite_some e; exact ⟨_, _, rfl, rfl, h, e2⟩) | cases e) fun _ _ _ _ _ => rfl
theorem b_fdiv : B2 K g fdivD (rI CDiv fun i j => .int (i / j)) := b_ints (f := fun i j => .int (i / j)) (fun s d1 d2 d' e => by
  cases d1 <;> cases d2 <;> first | (obtain ⟨h, e2⟩ := ite_some e; exact ⟨_, _, rfl, rfl, h, e2⟩) | cases e) fun _ _ _ _ _ => rfl
theorem b_pow : B2 K g powD (rI CPow fun i j => .int (i ^ j.toNat)) := b_ints (f := fun i j => .int (i ^ j.toNat)) (fun s d1 d2 d' e => by
  cases d1 <;> cases d2 <;> first | (obtain ⟨h, e2⟩ := ite_some e; exact ⟨_, _, rfl, rfl, h, e2⟩) | cases e) fun _ _ _ _ _ => rfl
theorem b_lt : B2 K g ltD (rI0 fun i j => .bl (decide (i < j))) := b_ints0 (f := fun i j => .bl (decide (i < j))) (fun s d1 d2 d' e => by cases d1 <;> cases d2 <;> first | (cases e; exact ⟨_, _, rfl, rfl, rfl⟩) | cases e) fun _ _ _ _ _ => rfl
theorem b_le : B2 K g leD (rI0 fun i j => .bl (decide (i ≤ j))) := b_ints0 (f := fun i j => .bl (decide (i ≤ j))) (fun s d1 d2 d' e => by cases d1 <;> cases d2 <;> first | (cases e; exact ⟨_, _, rfl, rfl, rfl⟩) | cases e) fun _ _ _ _ _ => rfl
theorem b_gt : B2 K g gtD (rI0 fun i j => .bl (decide (j < i))) := b_ints0 (f := fun i j => .bl (decide (j < i))) (fun s d1 d2 d' e => by cases d1 <;> cases d2 <;> first | (cases e; exact ⟨_, _, rfl, rfl, rfl⟩) | cases e) fun _ _ _ _ _ => rfl
theorem b_ge : B2 K g geD (rI0 fun i j => .bl (decide (j ≤ i))) := b_ints0 (f := fun i j => .bl (decide (j ≤ i))) (fun s d1 d2 d' e => by cases d1 <;> cases d2 <;> first | (cases e; exact ⟨_, _, rfl, rfl, rfl⟩) | cases e) fun _ _ _ _ _ => rfl
/-! * -/
theorem tuple_mul1 (l : Addr) (items : Array Value) (n : Nat) (dd : Option Addr) (sl : Array (Option Value)) (u : Tok) :
    Meets (Builtin.«tuple.__mul__» ⟨[.ref l, .int 1 u], []⟩) (fun _ R s => s.heap.get? l = some { cls := .type "tuple", dict := dd, data := .seq items n, slots := sl } ∧
      R (.ok (.ret (Value.ref l))) s) :=
  .of_wp fun prog w A R s h => by
    obtain ⟨hp, g, d, tk, os⟩ := s
    obtain ⟨hl, h⟩ := h
    have f1 := AutoSeq1.idx_int
    have c1 : (items.isEmpty || (1 : Int) == 1) = true := by simp
    wp_walk using wpAny_loadPart' hl
    repeat (first
      | (refine wpAny_ite_false (decide_eq_false (by decide)) ?_; wp_walk using wpAny_loadPart' hl)
      | (refine wpAny_ite_true (decide_eq_true (by simp)) ?_; wp_walk using wpAny_loadPart' hl))
    exact ⟨_, rfl, h⟩
def rRep1 (K : PySem.W.Frag) : R2 := fun x y H Q => ∃ l xs, x = .ref l ∧ y = .int 1 ∧ SqT K H l xs ∧ Q (.ref l) H
theorem op_rep1 {X : Cx} : OpR X (binaryOp .Mult) (rRep1 X.K) := by
  intro pins s σ H x y v u Q I rx ry h
  obtain ⟨l, xs, rfl, rfl, hT, q⟩ := h
  cases rx
  obtain ⟨t, rfl⟩ := ry
  obtain ⟨its, r, ⟨⟨cls, dd, data, sl⟩, ho, hc, n, hd⟩, hs⟩ := I.tuple hT
  simp only at hc hd
  subst hc hd
  refine wpAny_binaryOp_repeat_ref (T := "tuple") (U := "int") (by decide) ⟨_, ho, rfl⟩ (fun s' => typeIs_int s' 1 t) noFill_tuple_mul F.fills_int_mul F.slot_int_rmul repeat_tuple F.slot_int_index.lookup
    (call_meets F.slot_int_rmul (typeIs_int s 1 t) F.entry_int_rmul (F.args_int_rmul_2 _ _) (int_rmul_tuple 1 t l its.toArray n dd sl)
      ⟨ho, rfl, ⟨_, ho, rfl⟩, call_meets F.slot_tuple_mul ⟨_, ho, rfl⟩ F.entry_tuple_mul (F.args_tuple_mul_2 _ _) (tuple_mul1 l its.toArray n dd sl t) ⟨ho, ?_⟩⟩)
  exact ⟨.ref l, H, I, rfl, q⟩
def rMulA (K : PySem.W.Frag) : R2 := fun x y H Q => rI CMul (fun i j => .int (i * j)) x y H Q ∨ (rRepT K x y H Q ∨ rRep1 K x y H Q)
theorem op_mulA {X : Cx} : OpR X (binaryOp .Mult) (rMulA X.K) := op_mul.or (OpR.or op_repT op_rep1)
theorem b_mul : B2 K g mulD (rMulA K) := by
  intro Z κ s H d1 d2 d' v1 v2 Q hd r1 r2 e q
  cases d1 with
  | int i =>
    cases d2 with
    | int j =>
      cases r1; cases r2
      obtain ⟨h, rfl⟩ := ite_some e
      exact .inl ⟨i, j, rfl, rfl, h, q.here hd rfl⟩
    | _ => cases e
  | tup xs =>
    cases d2 with
    | int n =>
      obtain ⟨a, vs, rfl, ea, ra⟩ := r1
      cases r2
      obtain ⟨⟨h1, h2, h3, h4⟩, rfl⟩ := ite_some e
      have hl := ra.length
      by_cases hn : n = 1
      · subst hn
        refine .inr (.inr ⟨a, vs, rfl, rfl, sqT_of ea, q.here hd ?_⟩)
        simp only [Int.toNat_one, List.replicate_succ, List.replicate_zero, List.flatten_cons, List.flatten_nil, List.append_nil]
        exact ⟨a, vs, rfl, ea, ra⟩
      · refine .inr (.inl ⟨a, n, vs, rfl, rfl, sqT_of ea, fun z => by rw [z, List.length_nil] at hl; omega, by omega, by omega, by omega, fun p hp => ?_⟩)
        exact q κ _ (Ext.lay hd hp) _ (new_tup hd hp (ra.replicate n.toNat))
    | _ => cases e
  | _ => cases e
/-! == -/
mutual
theorem dp_of : ∀ {d : D} {v : V} {x : PyData}, Rep K g κ (pr κ s Z) H d v → toPy d = some x → Dp K H v x
  | .non, _, _, r, e => by cases r; cases e; exact .non
  | .bl b, _, _, r, e => by cases r; cases e; exact .bl b
  | .int i, _, _, r, e => by cases r; cases e; exact .int i
  | .str x, _, _, r, e => by cases r; cases e; exact .str x
  | .tup ds, _, _, r, e => by
    obtain ⟨a, vs, rfl, ea, ra⟩ := r
    simp only [toPy, Option.map_eq_some_iff] at e
    obtain ⟨xs, e, rfl⟩ := e
    exact .tup (sqT_of ea) (dps_of ra e)
  | .lst ds, _, _, r, e => by
    obtain ⟨a, vs, rfl, la, ea, ra⟩ := r
    simp only [toPy, Option.map_eq_some_iff] at e
    obtain ⟨xs, e, rfl⟩ := e
    exact .lst (.inl ea) (dps_of ra e)
  | .dic _ _, _, _, _, e => by cases e
  | .obj _ _ _, _, _, _, e => by cases e
  | .cell _, _, _, _, e => by cases e
  | .scr _, _, _, _, e => by cases e
theorem dps_of : ∀ {ds : List D} {vs : List V} {xs : List PyData}, Reps K g κ (pr κ s Z) H ds vs → toPys ds = some xs → DpAll K H vs xs
  | [], _, _, r, e => by cases (show _ = _ from r); cases e; exact .nil
  | d :: ds, _, _, r, e => by
    obtain ⟨v, vs, rfl, r1, r2⟩ := r
    simp only [toPys] at e
    cases e1 : toPy d with
    | none => rw [e1] at e; cases e
    | some x =>
      cases e2 : toPys ds with
      | none => rw [e1, e2] at e; cases e
      | some xs => rw [e1, e2] at e; cases e; exact .cons (dp_of r1 e1) (dps_of r2 e2)
end
def rEqA (K : PySem.W.Frag) : R2 := fun x y H Q => rEq x y H Q ∨ rEqD K x y H Q
def rNeA (K : PySem.W.Frag) : R2 := fun x y H Q => rNe x y H Q ∨ rNeD K x y H Q
theorem op_eqA (hu : X.A.units + 64 < cLine) : OpR X (compareOp .Eq) (rEqA X.K) := op_eq.or (op_eqD hu)
theorem op_neA (hu : X.A.units + 64 < cLine) : OpR X (compareOp .NotEq) (rNeA X.K) := op_ne.or (op_neD hu)
theorem scal_of {d1 d2 : D} {v1 v2 : V} (r1 : Rep K g κ (pr κ s Z) H d1 v1) (r2 : Rep K g κ (pr κ s Z) H d2 v2) (h : scalD d1 d2 = true) : scal v1 v2 = true ∧ decide (v1 = v2) = decide (d1 = d2) := by
  cases d1 <;> cases d2 <;> first | (cases (show false = true from h)) | (cases r1; cases r2; exact ⟨rfl, by rw [Bool.eq_iff_iff]; simp⟩)
theorem eqB_of {d1 d2 : D} {v1 v2 : V} {k : Bool} (r1 : Rep K g κ (pr κ s Z) H d1 v1) (r2 : Rep K g κ (pr κ s Z) H d2 v2) (h : eqB d1 d2 = some k) :
    (scal v1 v2 = true ∧ decide (v1 = v2) = k) ∨ ∃ x y, Dp K H v1 x ∧ Dp K H v2 y ∧ SeqAt.shaped x = true ∧ SeqAt.shaped y = true ∧ PyData.eqv x y = k := by
  unfold eqB at h
  split at h
  · rename_i hs
    cases h
    exact .inl (scal_of r1 r2 hs)
  · cases e1 : toPy d1 with
    | none => rw [e1] at h; cases h
    | some x =>
      cases e2 : toPy d2 with
      | none => rw [e1, e2] at h; cases h
      | some y =>
        rw [e1, e2] at h
        simp only at h
        split at h
        · rename_i hs
          cases h
          obtain ⟨a, b⟩ := Bool.and_eq_true_iff.mp hs
          exact .inr ⟨x, y, dp_of r1 e1, dp_of r2 e2, a, b, rfl⟩
        · cases h
theorem b_eq : B2 K g eqD (rEqA K) := by
  intro Z κ s H d1 d2 d' v1 v2 Q hd r1 r2 e q
  obtain ⟨k, e1, rfl⟩ := Option.map_eq_some_iff.mp e
  rcases eqB_of r1 r2 e1 with ⟨a, b⟩ | ⟨x, y, h1, h2, h3, h4, h5⟩
  · exact .inl ⟨a, q.here hd (by show _ = _; rw [b])⟩
  · exact .inr ⟨x, y, h1, h2, h3, h4, q.here hd (by show _ = _; rw [h5])⟩
theorem b_ne : B2 K g neD (rNeA K) := by
  intro Z κ s H d1 d2 d' v1 v2 Q hd r1 r2 e q
  obtain ⟨k, e1, rfl⟩ := Option.map_eq_some_iff.mp e
  rcases eqB_of r1 r2 e1 with ⟨a, b⟩ | ⟨x, y, h1, h2, h3, h4, h5⟩
  · exact .inl ⟨a, q.here hd (by show _ = _; rw [b])⟩
  · exact .inr ⟨x, y, h1, h2, h3, h4, q.here hd (by show _ = _; rw [h5])⟩
theorem non_iff {d : D} {v : V} (r : Rep K g κ (pr κ s Z) H d v) : decide (v = .non) = decide (d = .non) := by
  cases d with
  | non => cases r; rfl
  | bl b => cases r; simp
  | int b => cases r; simp
  | str b => cases r; simp
  | tup xs => obtain ⟨a, vs, rfl, _⟩ := r; simp
  | lst xs => obtain ⟨a, vs, rfl, _⟩ := r; simp
  | dic ks vs => obtain ⟨a, vs, rfl, _⟩ := r; simp
  | obj c ks vs => obtain ⟨a, dx, fs, rfl, _⟩ := r; simp
  | cell k => obtain ⟨a, rfl, _⟩ := r; simp
  | scr ns => obtain ⟨a, rfl, _⟩ := r; simp
theorem b_is : B2 K g isD (fun x y H Q => y = .non ∧ Q (.bl (decide (x = .non))) H) := by
  intro Z κ s H d1 d2 d' v1 v2 Q hd r1 r2 e q
  unfold isD at e
  split at e
  · rename_i h; subst h; cases e; exact ⟨r2, q.here hd (by show _ = _; rw [non_iff r1])⟩
  · cases e
theorem b_isn : B2 K g isnD (fun x y H Q => y = .non ∧ Q (.bl (!decide (x = .non))) H) := by
  intro Z κ s H d1 d2 d' v1 v2 Q hd r1 r2 e q
  unfold isnD at e
  split at e
  · rename_i h; subst h; cases e; exact ⟨r2, q.here hd (by show _ = _; rw [non_iff r1])⟩
  · cases e
/-! in -/
theorem flat_key {d : D} {v : V} (r : Rep K g κ (pr κ s Z) H d v) (h : d.key1 = true) : ∃ k : Key, d = kD k ∧ v = kV k ∧ flatV v = true := by
  cases d with
  | int i => cases r; exact ⟨.inl i, rfl, rfl, rfl⟩
  | str x => cases r; exact ⟨.inr x, rfl, rfl, rfl⟩
  | _ => cases h
theorem kD_inj {a b : Key} (h : kD a = kD b) : a = b := by cases a <;> cases b <;> first | (cases h; rfl) | cases h
theorem eqV_key (a b : Key) : eqV (kV a) (kV b) = decide (a = b) := by
  cases a with
  | inl i => cases b with
    | inl j =>
      show decide (i = j) = _
      by_cases e : i = j
      · subst e; simp
      · rw [decide_eq_false e, decide_eq_false (fun z => e (Sum.inl.inj z))]
    | inr y => rw [decide_eq_false (fun z => by cases z)]; rfl
  | inr x => cases b with
    | inl j => rw [decide_eq_false (fun z => by cases z)]; rfl
    | inr y =>
      show decide (x = y) = _
      by_cases e : x = y
      · subst e; simp
      · rw [decide_eq_false e, decide_eq_false (fun z => e (Sum.inr.inj z))]
theorem inV_of {x : D} {v : V} (rx : Rep K g κ (pr κ s Z) H x v) (hx : x.key1 = true) : ∀ {xs : List D} {vs : List V}, Reps K g κ (pr κ s Z) H xs vs → xs.all D.key1 = true → inV v vs = decide (x ∈ xs) ∧ vs.all flatV = true
  | [], _, r, _ => by cases (show _ = _ from r); exact ⟨by simp [inV], rfl⟩
  | d :: ds, _, r, h => by
    obtain ⟨u, us, rfl, r1, r2⟩ := r
    rw [List.all_cons] at h
    obtain ⟨h1, h2⟩ := Bool.and_eq_true_iff.mp h
    obtain ⟨e1, e2⟩ := inV_of rx hx r2 h2
    obtain ⟨a, rfl, rfl, f1⟩ := flat_key rx hx
    obtain ⟨b, rfl, rfl, f2⟩ := flat_key r1 h1
    refine ⟨?_, by rw [List.all_cons, f2, e2]; rfl⟩
    have e1' : us.any (fun y => eqV y (kV a)) = decide (kD a ∈ ds) := e1
    show (kV b :: us).any (fun y => eqV y (kV a)) = _
    rw [List.any_cons, e1', eqV_key]
    by_cases e : b = a
    · subst e; simp
    · have n : ¬ kD a = kD b := fun z => e (kD_inj z).symm
      simp [e, n]
theorem mem_keys {x : List Key} {kvs : List (List Key × V)} : decide (kT x ∈ kvs.map fun p => kT p.1) = (kvs.any fun p => decide (p.1 = x)) := by
  induction kvs with
  | nil => simp
  | cons p r ih =>
    rw [List.any_cons, ← ih, List.map_cons]
    have inj : ∀ {a b : List Key}, kT a = kT b → a = b := by
      intro a
      induction a with
      | nil => intro b e; cases b with | nil => rfl | cons y r => cases e
      | cons x r ih =>
        intro b e
        cases b with
        | nil => cases e
        | cons y q =>
          have e2 : (kD x :: r.map kD) = (kD y :: q.map kD) := by injection e
          injection e2 with e3 e4
          rw [kD_inj e3, ih (show kT r = kT q by unfold kT; rw [e4])]
    by_cases e : p.1 = x
    · simp [e]
    · have n : ¬ kT x = kT p.1 := fun z => e (inj z).symm
      simp [e, n]
def rInA (K : PySem.W.Frag) : R2 := fun x y H Q => rIn K false x y H Q ∨ ∃ (c : Nat) (z : Str), x = .str ⟨#[c]⟩ ∧ y = .str z ∧ Q (.bl (decide (c ∈ z.cps.toList))) H
theorem op_inA : OpR X (compareOp .In) (rInA X.K) := op_in_seq.or op_in_sign
theorem one_sign {y : Str} (h : y.length = 1) : y = ⟨#[y.cps.getD 0 0]⟩ := by
  obtain ⟨⟨l⟩⟩ := y
  have h' : l.length = 1 := h
  match l, h' with
  | [c], _ => rfl
theorem b_in : B2 K g inD (rInA K) := by
  intro Z κ s H d1 d2 d' v1 v2 Q hd r1 r2 e q
  have seq : ∀ (xs : List D) (a : Addr) (vs : List V), v2 = .ref a → (SqL K H a vs ∨ SqT K H a vs) → Reps K g κ (pr κ s Z) H xs vs → (if (d1.key1 && xs.all D.key1) = true then some (D.bl (decide (d1 ∈ xs))) else none) = some d' → rInA K v1 v2 H Q := by
    intro xs a vs ea hs ra e2
    obtain ⟨h, rfl⟩ := ite_some e2
    obtain ⟨h1, h2⟩ := Bool.and_eq_true_iff.mp h
    obtain ⟨i1, i2⟩ := inV_of r1 h1 ra h2
    obtain ⟨k, _, _, f1⟩ := flat_key r1 h1
    subst ea
    exact .inl ⟨a, vs, rfl, hs, f1, i2, q.here hd (by show _ = _; rw [if_neg Bool.false_ne_true, i1])⟩
  cases d2 with
  | tup xs =>
    obtain ⟨a, vs, ea, h, ra⟩ := r2
    exact seq xs a vs ea (.inr (sqT_of h)) ra e
  | lst xs =>
    obtain ⟨a, vs, ea, _, h, ra⟩ := r2
    exact seq xs a vs ea (.inl (.inl h)) ra e
  | str z =>
    cases d1 with
    | str y =>
      cases r1; cases r2
      obtain ⟨h, rfl⟩ := ite_some e
      refine .inr ⟨y.cps.getD 0 0, z, ?_, rfl, q.here hd rfl⟩
      rw [← one_sign h]
    | _ => cases e
  | cell k =>
    obtain ⟨a, ea, h⟩ := r2
    cases ec : s[k]? with
    | none => simp only [inD, ec] at e; cases e
    | some ct =>
      simp only [inD, ec] at e
      cases ct with
      | lst xs =>
        obtain ⟨vs, e2, ra⟩ := hd.ct k a _ h ec
        exact seq xs a vs ea (.inl (SqL.of e2)) ra e
      | _ => cases e
  | _ => cases e
theorem key_tup {x : D} {v : V} (r : Rep K g κ (pr κ s Z) H x v) (h : x.keyT = true) : ∃ (k : List Key) (b : Addr), x = kT k ∧ v = .ref b ∧ H b = some (.tup (k.map kV)) := by
  cases x with
  | tup xs =>
    obtain ⟨b, vs, rfl, hb, ra⟩ := r
    have h' : (!xs.isEmpty && xs.all D.key1) = true := h
    obtain ⟨h1, h2⟩ := Bool.and_eq_true_iff.mp h'
    have go : ∀ {xs : List D} {vs : List V}, Reps K g κ (pr κ s Z) H xs vs → xs.all D.key1 = true → ∃ k : List Key, xs = k.map kD ∧ vs = k.map kV := by
      intro xs
      induction xs with
      | nil => intro vs r _; cases (show _ = _ from r); exact ⟨[], rfl, rfl⟩
      | cons x t ih =>
        intro vs r h
        obtain ⟨v, us, rfl, r1, r2⟩ := r
        rw [List.all_cons] at h
        obtain ⟨h1, h2⟩ := Bool.and_eq_true_iff.mp h
        obtain ⟨k, rfl, rfl, _⟩ := flat_key r1 h1
        obtain ⟨l, rfl, rfl⟩ := ih r2 h2
        exact ⟨k :: l, rfl, rfl⟩
    obtain ⟨k, rfl, rfl⟩ := go ra h2
    refine ⟨k, b, rfl, rfl, ?_⟩
    rcases hb with ⟨hb, _⟩ | ⟨hb, _⟩
    · exact hb
    · cases k with
      | nil => cases h1
      | cons y r => cases hb
  | _ => cases h
theorem dic_rep {d : D} {v : V} {ks vs : List D} (hd : Held K g κ s Z H) (r : Rep K g κ (pr κ s Z) H d v) (h : dicOf s d = some (ks, vs)) : ∃ a kvs, v = .ref a ∧ Rd H a (.dT kvs) ∧ ks = kvs.map (fun p => kT p.1) ∧ Reps K g κ (pr κ s Z) H vs (kvs.map (·.2)) := by
  cases d with
  | dic ks' vs' => cases h; obtain ⟨a, kvs, ea, _, h1, h2, h3⟩ := r; exact ⟨a, kvs, ea, h1, h2, h3⟩
  | cell k =>
    obtain ⟨a, ea, hk⟩ := r
    cases ec : s[k]? with
    | none => simp only [dicOf, ec] at h; cases h
    | some ct =>
      simp only [dicOf, ec] at h
      cases ct with
      | dic ks' vs' => cases h; obtain ⟨kvs, h1, h2, h3⟩ := hd.ct k a _ hk ec; exact ⟨a, kvs, ea, .inl h1, h2, h3⟩
      | _ => cases h
  | _ => cases h
theorem kT_inj {a b : List Key} (h : kT a = kT b) : a = b := by
  have h2 : a.map kD = b.map kD := by injection h
  clear h
  induction a generalizing b with
  | nil => cases b with | nil => rfl | cons y r => cases h2
  | cons x r ih =>
    cases b with
    | nil => cases h2
    | cons y q =>
      injection h2 with e3 e4
      rw [kD_inj e3, ih e4]
theorem dfind_of {k : List Key} : ∀ {kvs : List (List Key × V)} {vs : List D}, Reps K g κ (pr κ s Z) H vs (kvs.map (·.2)) →
    match dfind (kvs.map fun p => kT p.1) vs (kT k) with
    | none => valV kvs k = none
    | some d => ∃ v, valV kvs k = some v ∧ Rep K g κ (pr κ s Z) H d v
  | [], vs, r => by
    cases vs with
    | nil => exact rfl
    | cons x t => obtain ⟨_, _, e, _⟩ := r; cases e
  | p :: t, vs, r => by
    cases vs with
    | nil => cases (show _ = _ from r)
    | cons x u =>
      obtain ⟨v, us, e, r1, r2⟩ := r
      injection e with e1 e2
      subst e1 e2
      show match (if kT p.1 = kT k then some x else dfind (t.map fun p => kT p.1) u (kT k)) with | none => _ | some d => _
      by_cases hk : p.1 = k
      · rw [if_pos (by rw [hk])]
        exact ⟨p.2, by simp [valV, hk], r1⟩
      · rw [if_neg (fun z => hk (kT_inj z))]
        have e3 : valV (p :: t) k = valV t k := by simp [valV, hk]
        rw [e3]
        exact dfind_of r2
end
end CL
end
section
set_option Elab.async false
set_option linter.all false
set_option maxRecDepth 100000
/-! Calls: defs by what they are worth. -/
namespace CL
open PySem PySem.Spec PyProof.Rows L2
section
variable (K : PySem.W.Frag) (g : Cfg)
/-- the promise of a def that is worth φ -/
def spF (n : Nat) (φ : Fn) : Sp := fun vs H Q E => vs.length = n ∧ ∃ Z κ s ds, Held K g κ s Z H ∧ Reps K g κ (pr κ s Z) H ds vs ∧ PostG K g Z E κ s H (φ ds s) (OkD K g Z Q)
end
section
variable {K : PySem.W.Frag} {g : Cfg} {Z : Addr → Prop} {E : XK} {κ κ' κ'' : List Addr} {s s' s'' : S} {H H' H'' : Hp} {σ : L2.St} {ρ : Env}
section
variable {X : Cx} {e a b c : Expr} {f f1 f2 f3 : Ex} {A1 : Ax} {φ : Fn} {n : Nat} {pos : Pos}
theorem pd_call (h : PE X e (tCall (spF K g n φ) [] E (tA K g E A1))) (hn : ∀ ds s, ds.length ≠ n → φ ds s = .fail) : PE X e (tD K g E (eCall φ A1)) := by
  refine PE.imp h fun σ H Q sz q => ?_
  obtain ⟨Z, κ, s, ρ, at0, p⟩ := q sz
  refine tA.mk at0 (PostG.mono (PostG.bind p) fun ds κ1 s1 H1 x1 p1 vs rvs => ?_)
  show spF K g n φ (vs ++ []) H1 Q E
  rw [List.append_nil]
  have hl : ds.length = n := by
    by_cases hl : ds.length = n
    · exact hl
    · rw [hn ds s1 hl] at p1; exact p1.elim
  exact ⟨by rw [← rvs.length]; exact hl, Z, κ1, s1, ds, x1.held, rvs, p1⟩
theorem pd_callD {dd : List D} {dvs : List V} (hdd : ∀ κ L H, Reps K g κ L H dd dvs) (h : PE X e (tCall (spF K g n φ) dvs E (tA K g E A1))) (hn : ∀ ds s, ds.length ≠ n → φ ds s = .fail) : PE X e (tD K g E (eCallD dd φ A1)) := by
  refine PE.imp h fun σ H Q sz q => ?_
  obtain ⟨Z, κ, s, ρ, at0, p⟩ := q sz
  refine tA.mk at0 (PostG.mono (PostG.bind p) fun ds κ1 s1 H1 x1 p1 vs rvs => ?_)
  have hl : (ds ++ dd).length = n := by
    by_cases hl : (ds ++ dd).length = n
    · exact hl
    · rw [hn _ s1 hl] at p1; exact p1.elim
  have r2 := rvs.append (hdd κ1 (pr κ1 s1 Z) H1)
  exact ⟨by rw [← r2.length]; exact hl, Z, κ1, s1, ds ++ dd, x1.held, r2, p1⟩
/-- an instance of the class c -/
theorem cls_rep {d : D} {v : V} {c : Nat} (hd : Held K g κ s Z H) (r : Rep K g κ (pr κ s Z) H d v) (h : clsOf s d = some c) : ∃ a dx fs ks ds, v = .ref a ∧ H a = some (.ins (g.Γ c) dx fs) ∧ Cls K (g.Γ c) ∧ fs.map (·.1) = ks.map g.nm ∧ (∀ k ∈ ks, g.ok k ∧ NoAttr K (g.Γ c) (g.nm k)) ∧ Reps K g κ (pr κ s Z) H ds (fs.map (·.2)) ∧ ∀ f, fldD f s d = fget ks ds f := by
  cases d with
  | obj c' ks vs =>
    cases h
    obtain ⟨a, dx, fs, ea, _, h1, h2, h3, h4, h5⟩ := r
    exact ⟨a, dx, fs, ks, vs, ea, h1, h2, h3, h4, h5, fun f => rfl⟩
  | cell k =>
    obtain ⟨a, ea, hk⟩ := r
    cases ec : s[k]? with
    | none => simp only [clsOf, ec] at h; cases h
    | some ct =>
      simp only [clsOf, ec] at h
      cases ct with
      | obj c' ks' vs' =>
        cases h
        obtain ⟨dx, fs, h1, h2, h3, h4, h5⟩ := hd.ct k a _ hk ec
        exact ⟨a, dx, fs, ks', vs', ea, h1, h2, h3, h4, h5, fun f => by simp only [fldD, ec]⟩
      | _ => cases h
  | _ => cases h
/-- the names of methods are no fields -/
def NoFld (g : Cfg) (m : Str) : Prop := ∀ k, g.ok k → g.nm k ≠ m
theorem lookup_none {m : Str} (hm : NoFld g m) : ∀ {fs : List (Str × V)} {ks : List Nat}, fs.map (·.1) = ks.map g.nm → (∀ k ∈ ks, g.ok k) → fs.lookup m = none
  | [], _, _, _ => rfl
  | p :: r, [], h, _ => by cases h
  | p :: r, k :: ks, h, hk => by
    injection h with h1 h2
    have n : ¬ m = p.1 := fun z => hm k (hk k (List.mem_cons_self ..)) (by rw [← h1, z])
    have e : (m == p.1) = false := beq_eq_false_iff_ne.mpr n
    obtain ⟨x, y⟩ := p
    simp only [List.lookup, e]
    exact lookup_none hm h2 fun k hk' => hk k (List.mem_cons_of_mem _ hk')
theorem pd_meth {m : Str} {c : Nat} (hm : NoFld g m) (h : PE X e (tMeth (g.Γ c) m (spF K g (n + 1) φ) [] E (tD K g E f) (tA K g E A1))) (hn : ∀ ds s, ds.length ≠ n + 1 → φ ds s = .fail) : PE X e (tD K g E (eMeth c φ f A1)) := by
  refine PE.imp h fun σ H Q sz q => ?_
  obtain ⟨Z, κ, s, ρ, at0, p⟩ := q sz
  refine tD.mk at0 (PostG.mono (PostG.bind p) fun x κ1 s1 H1 x1 p1 v rv => ?_)
  split at p1
  · rename_i hc
    obtain ⟨a, dx, fs, ks, ds, rfl, h1, _, h3, h4, _⟩ := cls_rep x1.held rv hc
    refine ⟨a, dx, fs, rfl, h1, lookup_none hm h3 fun k hk => (h4 k hk).1, tA.mk (at0.ext x1) (PostG.mono (PostG.bind p1) fun ds κ2 s2 H2 x2 p2 vs rvs => ?_)⟩
    show spF K g (n + 1) φ (.ref a :: (vs ++ [])) H2 Q E
    rw [List.append_nil]
    have hl : (x :: ds).length = n + 1 := by
      by_cases hl : (x :: ds).length = n + 1
      · exact hl
      · rw [hn _ s2 hl] at p2; exact p2.elim
    have r2 : Reps K g κ2 (pr κ2 s2 Z) H2 (x :: ds) (.ref a :: vs) := .cons (rv.stays x2.stays) rvs
    exact ⟨by rw [← r2.length]; exact hl, Z, κ2, s2, x :: ds, x2.held, r2, p2⟩
  · exact p1.elim
theorem pd_prop {c : Nat} (h : PE X e (tProp (g.Γ c) (spF K g 1 φ) [] E (tD K g E f))) : PE X e (tD K g E (eProp c φ f)) := by
  refine PE.imp h fun σ H Q sz q => ?_
  obtain ⟨Z, κ, s, ρ, at0, p⟩ := q sz
  refine tD.mk at0 (PostG.mono (PostG.bind p) fun x κ1 s1 H1 x1 p1 v rv => ?_)
  split at p1
  · rename_i hc
    obtain ⟨a, dx, fs, ks, ds, rfl, h1, _⟩ := cls_rep x1.held rv hc
    exact ⟨a, dx, fs, rfl, h1, rfl, Z, κ1, s1, [x], x1.held, .cons rv .nil, p1⟩
  · exact p1.elim
theorem pd_alt {f' : Ex} (h : PE X e (tD K g E f)) (h' : PE X e (tD K g E f')) : PE X e (tD K g E (eAlt f f')) := by
  refine ⟨fun pins s0 σ H Q I q => ?_⟩
  obtain ⟨Z, κ, s, ρ, at0, p⟩ := q (sz_of I)
  unfold eAlt at p
  cases hf : f ρ s with
  | fail => rw [hf] at p; exact h'.run pins s0 σ H Q I (tD.mk at0 p)
  | ok d s2 => rw [hf] at p; exact h.run pins s0 σ H Q I (tD.mk at0 (by rw [hf]; exact p))
  | exc x s2 => rw [hf] at p; exact h.run pins s0 σ H Q I (tD.mk at0 (by rw [hf]; exact p))
theorem fget_lookup : ∀ {ks : List Nat} {ds : List D} {fs : List (Str × V)} {f : Nat} {d : D}, fs.map (·.1) = ks.map g.nm → (∀ k ∈ ks, g.ok k) → Reps K g κ (pr κ s Z) H ds (fs.map (·.2)) → fget ks ds f = some d → f ∈ ks ∧ ∃ v, fs.lookup (g.nm f) = some v ∧ Rep K g κ (pr κ s Z) H d v
  | [], _, _, _, _, _, _, _, h => by simp [fget] at h
  | k :: ks, [], _, _, _, _, _, _, h => by simp [fget] at h
  | k :: ks, x :: xs, fs, f, d, h1, h2, h3, h => by
    cases fs with
    | nil => cases h1
    | cons p r =>
      injection h1 with h4 h5
      obtain ⟨v, us, e, r1, r2⟩ := h3
      injection e with e1 e2
      subst e1 e2
      obtain ⟨p1, p2⟩ := p
      have h4' : p1 = g.nm k := h4
      subst h4'
      simp only [fget] at h
      split at h
      · rename_i hk
        subst hk
        cases h
        exact ⟨List.mem_cons_self .., p2, by simp [List.lookup], r1⟩
      · rename_i hk
        obtain ⟨m1, v, m2, m3⟩ := fget_lookup h5 (fun k hk' => h2 k (List.mem_cons_of_mem _ hk')) r2 h
        have n : ¬ g.nm f = g.nm k := fun z => hk (g.inj _ _ (h2 k (List.mem_cons_self ..)) (h2 f (List.mem_cons_of_mem _ m1)) z.symm)
        have e : (g.nm f == g.nm k) = false := beq_eq_false_iff_ne.mpr n
        exact ⟨List.mem_cons_of_mem _ m1, v, by simp only [List.lookup, e]; exact m2, m3⟩
/-- e.f -/
theorem pd_fld {fl : Nat} (h : PE X e (tFld K (tD K g E f) (g.nm fl))) : PE X e (tD K g E (e1 (fldD fl) f)) := by
  refine PE.imp h fun σ H Q sz q => ?_
  obtain ⟨Z, κ, s, ρ, at0, p⟩ := q sz
  refine tD.mk at0 (PostG.mono (PostG.bind p) fun x κ1 s1 H1 x1 p1 v rv => ?_)
  obtain ⟨d', e', q', _⟩ := p1.of x1.held
  have hc : ∃ c, clsOf s1 x = some c := by
    cases x with
    | obj c ks vs => exact ⟨c, rfl⟩
    | cell k =>
      cases ec : s1[k]? with
      | none => simp only [fldD, ec] at e'; cases e'
      | some ct =>
        cases ct with
        | obj c ks vs => exact ⟨c, by simp only [clsOf, ec]⟩
        | _ => simp only [fldD, ec] at e'; cases e'
    | _ => cases e'
  obtain ⟨c, hc⟩ := hc
  obtain ⟨a, dx, fs, ks, ds, rfl, h1, h2, h3, h4, h5, h6⟩ := cls_rep x1.held rv hc
  rw [h6] at e'
  obtain ⟨m1, w, m2, m3⟩ := fget_lookup h3 (fun k hk => (h4 k hk).1) h5 e'
  exact ⟨a, _, dx, fs, w, rfl, h1, h2, (h4 _ m1).2, m2, q' w m3⟩
end
end
end CL
end
section
set_option Elab.async false
set_option linter.all false
set_option maxRecDepth 100000
/-! Stmts: statements and loops by data. -/
namespace CL
open PySem PySem.Spec PyProof.Rows L2
section
variable {K : PySem.W.Frag} {g : Cfg} {Z : Addr → Prop} {E : XK} {κ κ' κ'' : List Addr} {s s' s'' : S} {H H' H'' : Hp} {σ : L2.St} {ρ : Env}
section
variable {X : Cx} {st : Stmt} {sts : List Stmt} {e a b c : Expr} {f f1 f2 f3 : Ex} {F G : Sx} {t : Tx} {pos : Pos}
theorem pds_nil (h : PSs X sts tNext) : PSs X sts (tS K g E sNil) := by
  refine PSs.imp h fun Dn σ H sz q => ?_
  obtain ⟨Z, κ, s, ρ, at0, p⟩ := q sz
  exact p κ H (.refl at0.held) σ at0.env
theorem pds_cons (h : PSs X sts (tSeq (tS K g E F) (tS K g E G))) : PSs X sts (tS K g E (sSeq F G)) := by
  refine PSs.imp h fun Dn σ H sz q => ?_
  obtain ⟨Z, κ, s, ρ, at0, p⟩ := q sz
  refine tS.mk at0 (PostG.mono (PostG.bind p) fun fl κ1 s1 H1 x1 p1 => ?_)
  cases fl with
  | nx ρ1 => exact fun σ1 er => tS.mk ⟨er, x1.held⟩ p1
  | ret d => exact p1 κ1 H1 (.refl x1.held)
  | bk ρ1 => exact p1 κ1 H1 (.refl x1.held)
  | ct ρ1 => exact p1 κ1 H1 (.refl x1.held)
/-- a step that the text does not have: a cell is not written any more -/
theorem pds_ghost {G : Sx} {i : Nat} (h : PSs X sts (tS K g E G)) : PSs X sts (tS K g E (sSeq (sFrz i) G)) := by
  refine PSs.imp h fun Dn σ H sz q => ?_
  obtain ⟨Z, κ, s, ρ, at0, p⟩ := q sz
  have p1 := PostG.bind (show PostG K g Z E κ s H ((eFrz (eVar i) ρ s).b fun d s => match (Tg.name i).set d ρ with | some ρ' => G ρ' s | none => .fail) (OkS K g Z Dn) from by
    unfold sSeq sFrz sSet at p
    cases hx : eFrz (eVar i) ρ s with
    | fail => rw [hx] at p; exact p
    | ok d s1 => rw [hx] at p; exact p
    | exc x s1 => rw [hx] at p; exact p)
  cases hρ : ρ[i]? with
  | none => simp only [eFrz, eVar, hρ] at p1; exact p1.elim
  | some o =>
    cases o with
    | none => simp only [eFrz, eVar, hρ] at p1; exact p1.elim
    | some d =>
      cases d with
      | cell k =>
        have go : ∀ (ct : Ct) (d : D), s[k]? = some ct → ct ≠ .dead → (∀ v a, v = .ref a → κ[k]? = some a → CtR K g κ (pr κ (s.set k .dead) Z) H a ct → ¬ pr κ (s.set k .dead) Z a → Rep K g κ (pr κ (s.set k .dead) Z) H d v) →
            PostG K g Z E κ (s.set k .dead) H (G (ρ.set i (some d)) (s.set k .dead)) (OkS K g Z Dn) → tS K g E G Dn σ H := by
          intro ct d ec nd hr pg
          obtain ⟨v, ev, a, rfl, ek⟩ := at0.env.at_ i _ hρ
          have hl : lv κ s a := ⟨k, ct, ek, ec, nd⟩
          have less : ∀ x, lv κ (s.set k .dead) x → lv κ s x := by
            rintro x ⟨j, c, e1, e2, e3⟩
            refine ⟨j, c, e1, ?_, e3⟩
            by_cases hj : j = k
            · subst hj
              rw [List.getElem?_set_self (List.getElem?_eq_some_iff.mp ec).1] at e2
              cases e2; exact absurd rfl e3
            · rw [List.getElem?_set_ne (Ne.symm hj)] at e2; exact e2
          have st : Stays κ κ (pr κ s Z) (pr κ (s.set k .dead) Z) H H := Stays.less fun x z => z.imp (less x) id
          have nl : ¬ pr κ (s.set k .dead) Z a := by
            rintro (⟨j, c, e1, e2, e3⟩ | z)
            · have hj : j = k := by
                have hjl := (List.getElem?_eq_some_iff.mp e1)
                have hkl := (List.getElem?_eq_some_iff.mp ek)
                exact (List.getElem_inj at0.held.nd).mp (hjl.2.trans hkl.2.symm)
              subst hj
              rw [List.getElem?_set_self (List.getElem?_eq_some_iff.mp ec).1] at e2
              cases e2; exact e3 rfl
            · exact at0.held.zdis a z hl
          have hd2 : Held K g κ (s.set k .dead) Z H := by
            refine ⟨by rw [List.length_set]; exact at0.held.len, at0.held.nd, at0.held.trk, at0.held.ztrk, fun x z q => at0.held.zdis x z (less x q), at0.held.znt, fun j x c e1 e2 => ?_⟩
            by_cases hj : j = k
            · subst hj
              rw [List.getElem?_set_self (List.getElem?_eq_some_iff.mp ec).1] at e2
              cases e2; exact True.intro
            · rw [List.getElem?_set_ne (Ne.symm hj)] at e2
              have h := at0.held.ct j x c e1 e2
              cases c with
              | dead => exact h
              | lst xs => obtain ⟨vs, h1, h2⟩ := h; exact ⟨vs, h1, h2.stays st⟩
              | dic ks xs => obtain ⟨kvs, h1, h2, h3⟩ := h; exact ⟨kvs, h1, h2, h3.stays st⟩
              | obj c' ks xs => obtain ⟨dx, fs, h1, h2, h3, h4, h5⟩ := h; exact ⟨dx, fs, h1, h2, h3, h4, h5.stays st⟩
          have hc : CtR K g κ (pr κ (s.set k .dead) Z) H a ct := by
            have h := at0.held.ct k a ct ek ec
            cases ct with
            | dead => exact h
            | lst xs => obtain ⟨vs, h1, h2⟩ := h; exact ⟨vs, h1, h2.stays st⟩
            | dic ks xs => obtain ⟨kvs, h1, h2, h3⟩ := h; exact ⟨kvs, h1, h2, h3.stays st⟩
            | obj c' ks xs => obtain ⟨dx, fs, h1, h2, h3, h4, h5⟩ := h; exact ⟨dx, fs, h1, h2, h3, h4, h5.stays st⟩
          refine tS.mk (Z := Z) (κ := κ) (s := s.set k .dead) (ρ := ρ.set i (some d)) ⟨⟨by rw [List.length_set]; exact at0.env.len, fun j y e => ?_⟩, hd2⟩ pg
          by_cases hj : j = i
          · subst hj
            rw [List.getElem?_set_self (List.getElem?_eq_some_iff.mp hρ).1] at e
            cases e
            exact ⟨_, ev, hr _ a rfl ek hc nl⟩
          · rw [List.getElem?_set_ne (Ne.symm hj)] at e
            obtain ⟨u, e1, e2⟩ := at0.env.at_ j y e
            exact ⟨u, e1, e2.stays st⟩
        have pr1 : PostG K g Z E κ s H ((eFrz (eVar i) ρ s).b fun d s => match (Tg.name i).set d ρ with | some ρ' => G ρ' s | none => .fail) (OkS K g Z Dn) := by
          unfold sSeq sFrz sSet at p
          cases hx : eFrz (eVar i) ρ s with
          | fail => rw [hx] at p; exact p
          | ok d s1 => rw [hx] at p; exact p
          | exc x s1 => rw [hx] at p; exact p
        have deadExt : ∀ ct, s[k]? = some ct → ∀ {r : R Fl}, PostG K g Z E κ s H r (OkS K g Z Dn) → PostG K g Z E κ (s.set k .dead) H r (OkS K g Z Dn) := by
          intro ct ec r pq
          have less : ∀ x, lv κ (s.set k .dead) x → lv κ s x := by
            rintro x ⟨j, c, e1, e2, e3⟩
            refine ⟨j, c, e1, ?_, e3⟩
            by_cases hj : j = k
            · subst hj
              rw [List.getElem?_set_self (List.getElem?_eq_some_iff.mp ec).1] at e2
              cases e2; exact absurd rfl e3
            · rw [List.getElem?_set_ne (Ne.symm hj)] at e2; exact e2
          have tr : ∀ {κ2 s2 H2}, Ext K g Z κ (s.set k .dead) H κ2 s2 H2 → Ext K g Z κ s H κ2 s2 H2 := fun y => ⟨y.pre, fun x q => (y.lv x q).imp (less x) id, fun b o e n => y.fr b o e fun q => n (less b q), y.trk, y.held⟩
          cases r with
          | fail => exact pq
          | ok f t => exact fun κ2 H2 y => pq κ2 H2 (tr y)
          | exc x t => exact fun C d κ2 H2 y => pq C d κ2 H2 (tr y)
        cases ec : s[k]? with
        | none => simp only [eFrz, eVar, hρ, R.b_ok, ec, R.b_fail] at pr1; exact pr1.elim
        | some ct =>
          simp only [eFrz, eVar, hρ, R.b_ok, ec] at pr1
          cases ct with
          | dead => exact pr1.elim
          | lst xs => exact go _ (.lst xs) ec (fun z => by cases z) (fun v a ev ek hc nl => by obtain ⟨vs, h1, h2⟩ := hc; exact ⟨a, vs, ev, nl, .inl h1, h2⟩) (deadExt _ ec pr1)
          | dic ks xs => exact go _ (.dic ks xs) ec (fun z => by cases z) (fun v a ev ek hc nl => by obtain ⟨kvs, h1, h2, h3⟩ := hc; exact ⟨a, kvs, ev, nl, .inl h1, h2, h3⟩) (deadExt _ ec pr1)
          | obj c ks xs => exact go _ (.obj c ks xs) ec (fun z => by cases z) (fun v a ev ek hc nl => by obtain ⟨dx, fs, h1, h2, h3, h4, h5⟩ := hc; exact ⟨a, dx, fs, ev, nl, h1, h2, h3, h4, h5⟩) (deadExt _ ec pr1)
      | _ => simp only [eFrz, eVar, hρ] at p1; exact p1.elim
theorem pds_one (h : PSs X sts (tS K g E F)) : PSs X sts (tS K g E F) := h
theorem ps_one' (h : PS X st (tS K g E F)) : PSs X [st] (tS K g E F) := pss_one h
theorem pst_expr (h : PS X st (tDrop (tD K g E f))) : PS X st (tS K g E (sExpr f)) := by
  refine PS.imp h fun Dn σ H sz q => ?_
  obtain ⟨Z, κ, s, ρ, at0, p⟩ := q sz
  exact tD.mk at0 (PostG.mono (PostG.bind p) fun x κ1 s1 H1 x1 p1 v rv => p1 κ1 H1 (.refl x1.held) σ (at0.ext x1).env)
theorem pst_ret (h : PS X st (tRet (tD K g E f))) : PS X st (tS K g E (sRet f)) := by
  refine PS.imp h fun Dn σ H sz q => ?_
  obtain ⟨Z, κ, s, ρ, at0, p⟩ := q sz
  exact tD.mk at0 (PostG.mono (PostG.bind p) fun x κ1 s1 H1 x1 p1 v rv => p1 κ1 H1 (.refl x1.held) v rv)
theorem pst_retN (h : PS X st tRetN) : PS X st (tS K g E sRetN) := by
  refine PS.imp h fun Dn σ H sz q => ?_
  obtain ⟨Z, κ, s, ρ, at0, p⟩ := q sz
  exact p κ H (.refl at0.held) .non rfl
theorem pst_if (h : PS X st (tIfS (tB K g E t) (tS K g E F) (tS K g E G))) : PS X st (tS K g E (sIf t F G)) := by
  refine PS.imp h fun Dn σ H sz q => ?_
  obtain ⟨Z, κ, s, ρ, at0, p⟩ := q sz
  refine tB.mk at0 (PostG.mono (PostG.bind p) fun k κ1 s1 H1 x1 p1 => ?_)
  cases k with
  | true =>
    show if true = true then _ else _
    rw [if_pos rfl]; rw [if_pos rfl] at p1
    exact tS.mk (at0.ext x1) p1
  | false =>
    show if false = true then _ else _
    rw [if_neg Bool.false_ne_true]; rw [if_neg Bool.false_ne_true] at p1
    exact tS.mk (at0.ext x1) p1
theorem pst_no {u : TS} (h : PS X st u) : PS X st (tS K g E sNo) := by
  refine PS.imp h fun Dn σ H sz q => ?_
  obtain ⟨Z, κ, s, ρ, at0, p⟩ := q sz
  exact p.elim
theorem pds_no {u : TS} (h : PSs X sts u) : PSs X sts (tS K g E sNo) := by
  refine PSs.imp h fun Dn σ H sz q => ?_
  obtain ⟨Z, κ, s, ρ, at0, p⟩ := q sz
  exact p.elim
theorem pst_pass (h : PS X st tNext) : PS X st (tS K g E sNil) := by
  refine PS.imp h fun Dn σ H sz q => ?_
  obtain ⟨Z, κ, s, ρ, at0, p⟩ := q sz
  exact p κ H (.refl at0.held) σ at0.env
theorem pst_brk (h : PS X st tBreak) : PS X st (tS K g E sBrk) := by
  refine PS.imp h fun Dn σ H sz q => ?_
  obtain ⟨Z, κ, s, ρ, at0, p⟩ := q sz
  exact p κ H (.refl at0.held) σ at0.env
theorem pst_ct (h : PS X st tCont) : PS X st (tS K g E sCt) := by
  refine PS.imp h fun Dn σ H sz q => ?_
  obtain ⟨Z, κ, s, ρ, at0, p⟩ := q sz
  exact p κ H (.refl at0.held) σ at0.env
/-! targets -/
/-- a target, by data: it stores at these places -/
def GOk (K : PySem.W.Frag) (g : Cfg) (G : D → Env → Option Env) (gg : TG) (is : List Nat) : Prop := ∀ (κ : List Addr) (L : Addr → Prop) (H : Hp) (σ : L2.St) (ρ ρ' : Env) (d : D) (v : V) (Q : L2.St → Hp → Prop),
  ERep K g κ L H σ ρ → Rep K g κ L H d v → G d ρ = some ρ' → (∀ σ', ERep K g κ L H σ' ρ' → (∀ vs : List Nat, (∀ i ∈ is, i ∈ vs) → wipe σ' vs = wipe σ vs) → Q σ' H) → gg v σ H Q
theorem ERep.set {L : Addr → Prop} {i : Nat} {d : D} {v : V} (er : ERep K g κ L H σ ρ) (r : Rep K g κ L H d v) : ERep K g κ L H (σ.set i (some v)) (ρ.set i (some d)) := by
  refine ⟨by rw [List.length_set, List.length_set]; exact er.len, fun j y e => ?_⟩
  by_cases hj : j = i
  · subst hj
    by_cases hl : j < ρ.length
    · rw [List.getElem?_set_self hl] at e
      cases e
      exact ⟨v, List.getElem?_set_self (by rw [er.len]; exact hl), r⟩
    · rw [List.getElem?_eq_none (by rw [List.length_set]; omega)] at e; cases e
  · rw [List.getElem?_set_ne (Ne.symm hj)] at e
    obtain ⟨u, e1, e2⟩ := er.at_ j y e
    exact ⟨u, by rw [List.getElem?_set_ne (Ne.symm hj)]; exact e1, e2⟩
theorem wipe_set (σ : L2.St) (i : Nat) (v : Option V) : ∀ vs : List Nat, i ∈ vs → wipe (σ.set i v) vs = wipe σ vs
  | [], h => by cases h
  | j :: r, h => by
    show (wipe (σ.set i v) r).set j none = (wipe σ r).set j none
    by_cases hr : i ∈ r
    · rw [wipe_set σ i v r hr]
    · have e : i = j := by
        rcases List.mem_cons.mp h with e | e
        · exact e
        · exact absurd e hr
      subst e
      have go : ∀ (l : List Nat), i ∉ l → wipe (σ.set i v) l = (wipe σ l).set i v := by
        intro l
        induction l with
        | nil => intro _; rfl
        | cons k t ih =>
          intro hk
          have n1 : i ≠ k := fun z => hk (z ▸ List.mem_cons_self ..)
          show (wipe (σ.set i v) t).set k none = ((wipe σ t).set k none).set i v
          rw [ih fun z => hk (List.mem_cons_of_mem _ z), List.set_comm _ _ n1]
      rw [go r hr, List.set_set]
theorem g_name (i : Nat) : GOk K g (Tg.name i).set (gName i) [i] := by
  intro κ L H σ ρ ρ' d v Q er r e q
  cases e
  exact q _ (er.set r) fun vs h => wipe_set σ i _ vs (h i (List.mem_singleton.mpr rfl))
def gNs : List Nat → TGs
  | [] => gNil
  | i :: r => gCons (gName i) (gNs r)
theorem gNs_ok {L : Addr → Prop} : ∀ {is : List Nat} {ds : List D} {vs : List V} {σ : L2.St} {ρ ρ' : Env} {Q : L2.St → Hp → Prop}, ERep K g κ L H σ ρ → Reps K g κ L H ds vs → setAll is ds ρ = some ρ' →
    (∀ σ', ERep K g κ L H σ' ρ' → (∀ vs : List Nat, (∀ i ∈ is, i ∈ vs) → wipe σ' vs = wipe σ vs) → Q σ' H) → gNs is vs σ H Q
  | [], [], _, σ, ρ, ρ', Q, er, r, e, q => by cases (show _ = _ from r); cases e; exact ⟨rfl, q σ er fun _ _ => rfl⟩
  | [], _ :: _, _, _, _, _, _, _, _, e, _ => by cases e
  | _ :: _, [], _, _, _, _, _, _, _, e, _ => by cases e
  | i :: is, d :: ds, _, σ, ρ, ρ', Q, er, r, e, q => by
    obtain ⟨v, us, rfl, r1, r2⟩ := r
    exact ⟨v, us, rfl, gNs_ok (er.set r1) r2 e fun σ' er' w => q σ' er' fun vs h => (w vs fun j hj => h j (List.mem_cons_of_mem _ hj)).trans (wipe_set σ i _ vs (h i (List.mem_cons_self ..)))⟩
theorem setAll_len : ∀ {is : List Nat} {ds : List D} {ρ ρ' : Env}, setAll is ds ρ = some ρ' → is.length = ds.length
  | [], [], _, _, _ => rfl
  | [], _ :: _, _, _, e => by cases e
  | _ :: _, [], _, _, e => by cases e
  | i :: is, d :: ds, ρ, ρ', e => by
    have := setAll_len (is := is) (ds := ds) (show setAll is ds _ = some ρ' from e)
    simp [this]
theorem g_tup (is : List Nat) {n : Nat} (hn : n = is.length) : GOk K g (Tg.tup is).set (gTup K n (gNs is)) is := by
  intro κ L H σ ρ ρ' d v Q er r e q
  cases d with
  | tup xs =>
    obtain ⟨a, vs, rfl, h, ra⟩ := r
    have e' : setAll is xs ρ = some ρ' := e
    refine ⟨a, vs, rfl, ?_, by rw [← ra.length, hn, setAll_len e'], gNs_ok er ra e' q⟩
    rcases h with ⟨h, _⟩ | ⟨ev, h⟩
    · exact SqT.of h
    · subst ev; exact .inr h
  | _ => cases e
theorem pst_set {G : Tg} {gg : TG} {is : List Nat} (hG : GOk K g G.set gg is) (h : PS X st (tAsg (tD K g E f) gg)) : PS X st (tS K g E (sSet G f)) := by
  refine PS.imp h fun Dn σ H sz q => ?_
  obtain ⟨Z, κ, s, ρ, at0, p⟩ := q sz
  refine tD.mk at0 (PostG.mono (PostG.bind p) fun x κ1 s1 H1 x1 p1 v rv => ?_)
  cases hg : G.set x ρ with
  | none => rw [hg] at p1; exact p1.elim
  | some ρ' =>
    rw [hg] at p1
    exact hG κ1 _ H1 σ ρ ρ' x v _ (at0.ext x1).env rv hg fun σ' er _ => p1 κ1 H1 (.refl x1.held) σ' er
end
end
end CL
end
section
set_option Elab.async false
set_option linter.all false
set_option maxRecDepth 100000
/-! EnumT: enumerate over a tuple. -/
namespace PySem
open Sem (wp)
open AutoSeq1 (wpAny_loadPart')
theorem cl_enum_newT (l : Addr) (items : Array Value) (n : Nat) (dct : Option Addr) (sl : Array (Option Value)) :
    Meets (Builtin.«enumerate.__new__» ⟨[.type "enumerate", .ref l], []⟩) (fun _ R s => s.heap.get? l = some { cls := .type "tuple", dict := dct, data := .seq items n, slots := sl } ∧
      R (.ok (.ret (.ref (s.heap.push { cls := .type "tuple_iterator", data := .fields #[.ref l, .int 0 0] }).objs.size)))
        { s with heap := (s.heap.push { cls := .type "tuple_iterator", data := .fields #[.ref l, .int 0 0] }).push { cls := .type "enumerate", data := .fields #[.none, .bool false, .ref s.heap.objs.size, rawInt 0, .none, .none] } }) :=
  .of_wp fun prog w A R s h => by
    obtain ⟨hp, g, d, tk, os⟩ := s; obtain ⟨hl, h⟩ := h
    have hsub := sub_enumerate
    have hL : Heap.IsTuple (Shared.heap ⟨hp, g, d, tk, os⟩) l items := ⟨_, hl, rfl, n, rfl⟩
    wp_walk using wpAny_loadPart' hl
    refine wpAny_stack_any fun st => wpAny_pure ?_
    split
    · rename_i c _ _ _ _ _
      cases (c == Value.type "enumerate")
      · wp_walk using wpAny_loadPart' hl, wpAny_pyIter_tuple hL
        exact ⟨_, rfl, h⟩
      · wp_walk using wpAny_loadPart' hl, wpAny_pyIter_tuple hL
        exact ⟨_, rfl, h⟩
    · wp_walk using wpAny_loadPart' hl, wpAny_pyIter_tuple hL
      exact ⟨_, rfl, h⟩
theorem cl_call_enumT {prog : Program} {w : World} {A : Around} {E : Value → Shared → Prop} {s : Shared} {l : Addr} {items : Array Value} {Q : Value → Shared → Prop} (hL : s.heap.IsTuple l items)
    (h : ∀ h', IsEnum h' (s.heap.objs.size + 1) s.heap.objs.size 0 .none → h'.IsTupleIter s.heap.objs.size l 0 → h'.objs.size = s.heap.objs.size + 2 →
      (∀ b o, s.heap.get? b = some o → h'.get? b = some o) → Q (.ref (s.heap.objs.size + 1)) { s with heap := h' }) :
    wpAny (model prog w) A (call (.type "enumerate") [.ref l]) Q E s := by
  obtain ⟨⟨c, dct, dt, sl⟩, hl, hc, n, hd⟩ := hL
  replace hc : c = .type "tuple" := hc
  replace hd : dt = .seq items n := hd
  subst hc hd
  refine callType_new F.called_enumerate (by decide) (F.typeCall_enumerate_1 _) (F.newCall_enumerate_1 _) (fun obj => F.args_object_init_2 obj _) F.entry_enumerate_new
    (cl_enum_newT l items n dct sl) ⟨hl, ?_⟩
  have hz : (s.heap.push { cls := .type "tuple_iterator", data := .fields #[.ref l, .int 0 0] }).objs.size = s.heap.objs.size + 1 := Heap.size_push ..
  show _ ∧ _
  rw [hz]
  have he : IsEnum ((s.heap.push { cls := .type "tuple_iterator", data := .fields #[.ref l, .int 0 0] }).push
      { cls := .type "enumerate", data := .fields #[.none, .bool false, .ref s.heap.objs.size, rawInt 0, .none, .none] }) (s.heap.objs.size + 1) s.heap.objs.size 0 .none := by
    have := Heap.get?_push_size (s.heap.push { cls := .type "tuple_iterator", data := .fields #[.ref l, .int 0 0] })
      (o := { cls := .type "enumerate", data := .fields #[.none, .bool false, .ref s.heap.objs.size, rawInt 0, .none, .none] }) rfl
    rw [hz] at this; exact this
  refine ⟨⟨_, he, rfl⟩, h _ he ⟨_, Heap.get?_push_of_some _ (Heap.get?_push_size _ rfl), rfl, rfl⟩ (by rw [Heap.size_push, hz]) fun b o x => Heap.get?_push_of_some _ (Heap.get?_push_of_some _ x)⟩
end PySem
namespace L2
open PySem PySem.Spec PyProof.Rows
/-- the tuple at a as it stands at each turn, each item in a new pair -/
def IteT (K : PySem.W.Frag) (a : Addr) : It :=
  ⟨fun i H => ∃ (xs : List V) (x : V), SqT K H a xs ∧ xs[i]? = some x, fun i H v H' => ∃ T x, v = .ref T ∧ H T = none ∧ H' = upd H T (.tup [.int (i : Nat), x]) ∧ ∀ xs, SqT K H a xs → xs[i]? = some x, fun i H => ∃ xs : List V, SqT K H a xs ∧ xs.length ≤ i⟩
theorem turn_enumT {P : Program} {w : World} {K : PySem.W.Frag} {elts : List Expr} {kk : Nat} {tpos : Pos} (a e it : Addr) (hait : a ≠ it) :
    Turn P w K (.Tuple elts kk tpos) (IteT K a) [e, it] e (fun i h => (∃ old, IsEnum h e it ((i : Nat) : Int) old) ∧ h.IsTupleIter it a i ∧ e ≠ it ∧ e ≠ a) where
  mem := by simp
  obj := fun i h st b hb => by
    obtain ⟨⟨old, he⟩, ⟨o, ho, hc, hd⟩, _⟩ := st
    have e' : b = e ∨ b = it := by simpa using hb
    rcases e' with z | z
    · rw [z]; exact ⟨_, he, fun v q => nomatch q⟩
    · rw [z]; exact ⟨o, ho, fun v q => by rw [hd] at q; cases q⟩
  keep := fun i h h' st k => let ⟨⟨old, he⟩, hi, hne⟩ := st; ⟨⟨old, k e (by simp) _ he⟩, hi.at fun o q => k it (by simp) o q, hne⟩
  item := by
    intro X hP hw hK hc i pins s σ H E I hf st hg
    subst hP hw hK
    obtain ⟨⟨old, he⟩, hit, hne, hea⟩ := st
    obtain ⟨xs, x, hq, hx⟩ := hg
    obtain ⟨its, rv, p, hz⟩ := I.tuple hq
    obtain ⟨u, hu, ru⟩ := rv.get hx
    have hel : e < s.heap.objs.size := Heap.lt_size he
    have hil : it < s.heap.objs.size := by obtain ⟨_, q, _⟩ := hit; exact Heap.lt_size q
    have hi : i < its.toArray.size := by have := (List.getElem?_eq_some_iff.mp hu).1; simpa using this
    have hef : e ∉ [it, a] := by simp; exact ⟨hne, hea⟩
    refine wpAny_pyNext_enum_itemD (Draws.tuple (A := X.A.in1) (I.ok.hd hc) it a hait its.toArray) he ⟨hit, p⟩ hi hne hef fun y h' tk hy ho hit' hT hsz hk => ?_
    have ey : y = u := by
      have e1 : its[i]? = some y := by simpa using hy
      rw [hu] at e1; exact (Option.some.inj e1).symm
    subst ey
    refine ⟨_, rfl, wpAny_letOwnedTupleGo_enum (s := { s with heap := h', toks := tk + 1 }) ho fun h'' he' sb => ?_⟩
    have hT2 : h''.get? s.heap.objs.size = some { cls := .type "tuple", data := .seq #[.int i tk, y] } := (sb.2 _ (Nat.ne_of_gt hel)).trans hT
    have new : ObjOk X.prog X.w (upd H s.heap.objs.size (.tup [.int (i : Nat), x])) h'' s.heap.objs.size (.tup [.int (i : Nat), x]) :=
      ⟨by show 2 ≤ sizeLine; decide, [.int i tk, y], .cons ⟨_, rfl⟩ (.cons ru .nil), ⟨_, hT2, rfl, _, rfl⟩⟩
    have I1 : Inv X pins σ (upd H s.heap.objs.size (.tup [.int (i : Nat), x])) { s with heap := h'', toks := tk + 1 } :=
      I.turnedNew (ch := [e, it]) (fun b ob hb q => (sb.2 b (fun z => hb (by simp [z]))).trans (hk b ob (fun z => hb (by simp [z])) (fun z => hb (by simp [z])) q)) hf (Nat.le_refl _) new
    refine ⟨.ref s.heap.objs.size, _, I1, rfl, ⟨_, x, rfl, I.hok.fresh (Nat.le_refl _), rfl, fun ys hy => by rw [I.tuple_inj hy hq]; exact hx⟩, ⟨⟨y, ?_⟩, hit'.1.at fun o q => (sb.2 it (Ne.symm hne)).trans q, hne, hea⟩, fun b hb => ?_⟩
    · have e1 : ((i + 1 : Nat) : Int) = (i : Int) + 1 := by omega
      rw [e1]; exact he'
    · have hb' : b < s.heap.objs.size := by
        have e' : b = e ∨ b = it := by simpa using hb
        rcases e' with z | z
        · rw [z]; exact hel
        · rw [z]; exact hil
      rw [upd_ne (Nat.ne_of_lt hb')]
      exact (hf b hb).1
  done := by
    intro X hP hw hK hc i pins s σ H E I hf st hg
    subst hP hw hK
    obtain ⟨⟨old, he⟩, hit, hne, hea⟩ := st
    obtain ⟨xs, hq, hx⟩ := hg
    obtain ⟨its, rv, p, hz⟩ := I.tuple hq
    obtain ⟨f0, f1, f2, f3, f4, f5⟩ := hf it (by simp)
    have hl := rv.length
    have hT : s.TypeIs (.ref e) "enumerate" := ⟨_, he, rfl⟩
    unfold pyNext
    refine wpAny_bind (wpAny_attempt (wpAny_callSpecial?_slot (name := Str.ofString "__next__") hT PySem.F.slot_enumerate_next
      (wpAny_call_entry PySem.F.slot_enumerate_next hT PySem.F.entry_enumerate_next ?_ (PySem.F.args_enumerate_next_1 _))))
    show wpAny _ _ (field (.ref e) 2 >>= _) _ _ _
    refine wpAny_bind (wpAny_field he rfl (x := .ref it) rfl ?_)
    refine wpAny_bind (wpAny_nextOf_tuple_end (A := X.A.in1) (I.ok.hd hc) hit p (by simp; omega) fun h' x he' hx' => ?_)
    obtain ⟨o, ho, hc'⟩ := hx'
    refine wpAny_bind (wpAny_isInstance (T := "StopIteration") (b := true) ⟨o, ho, hc'⟩ isSubtype_stop ?_)
    exact wpAny_pure ⟨rfl, I.turned (t' := s.toks) (fun b o hb q => he' b o hb q) f0 f1 f3 f4 f5⟩
  self := fun A i s Q E st h => let ⟨⟨_, he⟩, _⟩ := st; wpAny_pyIter_enum he h
def iEnumA (K : PySem.W.Frag) (ta : TA) : TI := fun σ H R => ta σ H fun vs H1 => ∃ a xs, vs = [.ref a] ∧ ((SqL K H1 a xs ∧ R (Ite K a) H1) ∨ (SqT K H1 a xs ∧ R (IteT K a) H1))
theorem pi_enumA {X : Cx} {e : Expr} {ta : TA} {p pos tpos : Pos} {elts : List Expr} {kk : Nat} (hg : Gl X "enumerate") (hm : X.mg "enumerate" = none) (ha : PA X [e] ta) (hs : starEach [e] X.env = [(false, eval e X.env)] := by rfl) :
    PI X (.Tuple elts kk tpos) (.Call (.Name "enumerate" p) [e] [] pos) (iEnumA X.K ta) := by
  refine ⟨fun pins s σ H R I h => ?_⟩
  refine Call_ (ld_blt I hg hm boot_enumerate (PyProof.Rows.callWith_type1 (thn (ha.run pos pins s σ H _ I h) fun us s1 ⟨vs, H1, I1, r1, q1⟩ => ?_) hs rfl))
  obtain ⟨a, xs, ex, q⟩ := q1
  subst ex
  cases r1 with
  | cons r rr =>
    cases rr
    cases r
    have fresh : ∀ b, b ∈ [s1.heap.objs.size + 1, s1.heap.objs.size] → FpOk X pins H1 b := fun b hb => by
      have e' : b = s1.heap.objs.size + 1 ∨ b = s1.heap.objs.size := by simpa using hb
      have hle : s1.heap.objs.size ≤ b := by
        rcases e' with z | z
        · rw [z]; exact Nat.le_add_right _ _
        · rw [z]; exact Nat.le_refl _
      exact I1.fpOk hle (I1.hok.fresh hle)
    rcases q with ⟨hq, q⟩ | ⟨hq, q⟩
    · obtain ⟨its, rv, p', hz⟩ := I1.list hq
      refine call_enumerate_list p'.isList fun h' he hit hsz hk => wpAny_pyIter_enum he ?_
      have I2 : Inv X pins σ H1 { s1 with heap := h' } := I1.kept (t' := s1.toks) hk
      exact ⟨s1.heap.objs.size + 1, [s1.heap.objs.size + 1, s1.heap.objs.size], _, _, H1, rfl, I2, turn_enum a (s1.heap.objs.size + 1) s1.heap.objs.size, ⟨⟨.none, he⟩, hit, Nat.succ_ne_self _⟩, fresh, q⟩
    · obtain ⟨its, rv, p', hz⟩ := I1.tuple hq
      have hal : a < s1.heap.objs.size := by obtain ⟨_, q, _⟩ := p'; exact Heap.lt_size q
      refine cl_call_enumT p' fun h' he hit hsz hk => wpAny_pyIter_enum he ?_
      have I2 : Inv X pins σ H1 { s1 with heap := h' } := I1.kept (t' := s1.toks) hk
      exact ⟨s1.heap.objs.size + 1, [s1.heap.objs.size + 1, s1.heap.objs.size], _, _, H1, rfl, I2, turn_enumT a (s1.heap.objs.size + 1) s1.heap.objs.size (Nat.ne_of_lt hal), ⟨⟨.none, he⟩, hit, Nat.succ_ne_self _, Nat.ne_of_gt (Nat.lt_succ_of_lt hal)⟩, fresh, q⟩
end L2
end
section
set_option Elab.async false
set_option linter.all false
set_option maxRecDepth 100000
/-! ItemsT: d.items() of a locked dict with tuple keys. -/
namespace L2
open PySem PySem.Spec PyProof.Rows
/-- the pairs, each a new tuple: the key's own tuple, the value -/
def ItiT (d : Addr) (o : Obj) (kvs : List (List Key × V)) : It :=
  ⟨fun i H => H d = some (.frz o (.dT kvs)) ∧ i < kvs.length, fun i H x H' => ∃ T k v q, kvs[i]? = some (k, v) ∧ x = .ref T ∧ H T = none ∧ H q = some (.tup (k.map kV)) ∧ H' = upd H T (.tup [.ref q, v]), fun i H => H d = some (.frz o (.dT kvs)) ∧ kvs.length ≤ i⟩
theorem frzT_val {X : Cx} {pins : List (Addr × Obj)} {σ : St} {H : Hp} {s : Shared} {d : Addr} {o : Obj} {kvs : List (List Key × V)} (I : Inv X pins σ H s) (h : H d = some (.frz o (.dT kvs))) {es : Array DictEntry} {ep : Nat} (hdt : o.data = .dict es ep) :
    ∀ (i : Nat) (k : List Key) (v : V), kvs[i]? = some (k, v) → ∃ (en : DictEntry) (q : Addr), es[i]? = some en ∧ en.key = .ref q ∧ H q = some (.tup (k.map kV)) ∧ RelV v en.val := by
  intro i k v e
  obtain ⟨hd, z, hs, xs, pr, o', es2, ep2, ho, hx, hdt2, he, _⟩ := I.hok d _ h
  rw [hd] at ho
  cases ho
  obtain ⟨rfl, rfl⟩ := dict_ep hdt hdt2
  obtain ⟨b, hb, e1, e2, e3⟩ := paired_get pr e
  have q := entry_at he i
  rw [hb] at q
  exact ⟨_, b.2.1, q, rfl, e2, e3⟩
section
variable {P : Program} {w : World} {K : PySem.W.Frag} {d : Addr} {o : Obj} {es : Array DictEntry} {ep : Nat}
theorem turn_itemsT {kvs : List (List Key × V)} {elts : List Expr} {kk : Nat} {tpos : Pos} (it : Addr) (hod : o.data = .dict es ep) :
    Turn P w K (.Tuple elts kk tpos) (ItiT d o kvs) [it] it (fun i h => ∃ ok ov, IsItemIter h it d i kvs.length ep ok ov) where
  mem := by simp
  obj := fun i h st b hb => by
    have e : b = it := by simpa using hb
    subst e
    obtain ⟨ok, ov, e⟩ := st
    exact ⟨_, e, fun v z => nomatch z⟩
  keep := fun i h h' st k => let ⟨ok, ov, e⟩ := st; ⟨ok, ov, k it (by simp) _ e⟩
  item := by
    intro X hP hw hK hc i pins s σ H E I hf st hg
    subst hP hw hK
    obtain ⟨hd, hi⟩ := hg
    obtain ⟨hs, hgd, hx, es', ep', hdt, hsz, ent⟩ := I.frzT hd
    obtain ⟨rfl, rfl⟩ := dict_ep hod hdt
    obtain ⟨⟨k, v⟩, hkv⟩ : ∃ p, kvs[i]? = some p := ⟨kvs[i], List.getElem?_eq_getElem hi⟩
    obtain ⟨en, q, hen, hkey, hq, rv⟩ := frzT_val I hd hdt i k v hkv
    obtain ⟨ok, ov, he⟩ := st
    rw [← hsz] at he
    have hlt : it < s.heap.objs.size := Heap.lt_size he
    have hm : DT.Raw s.heap d es' ep' := ⟨o, hgd, hx, hdt⟩
    obtain ⟨hi2, hee⟩ := Array.getElem?_eq_some_iff.mp hen
    refine DT.nextI he hm hi2 fun h' ho hT hz hk => ?_
    refine ⟨_, rfl, wpAny_letOwnedTupleGo_items (s := { s with heap := h' }) ho fun h'' he' sb => ?_⟩
    have hT2 : h''.get? s.heap.objs.size = some { cls := .type "tuple", data := .seq #[es'[i].key, es'[i].val] } := (sb.2 _ (Nat.ne_of_gt hlt)).trans hT
    have r1 : RelV (V.ref q) es'[i].key := by rw [hee]; exact hkey
    have r2 : RelV v es'[i].val := by rw [hee]; exact rv
    have new : ObjOk X.prog X.w (upd H s.heap.objs.size (.tup [.ref q, v])) h'' s.heap.objs.size (.tup [.ref q, v]) :=
      ⟨by show 2 ≤ sizeLine; decide, [es'[i].key, es'[i].val], .cons r1 (.cons r2 .nil), ⟨_, hT2, rfl, _, rfl⟩⟩
    have I1 : Inv X pins σ (upd H s.heap.objs.size (.tup [.ref q, v])) { s with heap := h'' } :=
      I.turnedNew (t' := s.toks) (ch := [it]) (fun b ob hb q => (sb.2 b (by simpa using hb)).trans (hk b ob (by simpa using hb) q)) hf (Nat.le_refl _) new
    refine ⟨.ref s.heap.objs.size, _, I1, rfl, ⟨_, k, v, q, hkv, rfl, I.hok.fresh (Nat.le_refl _), hq, rfl⟩, ⟨es'[i].key, es'[i].val, ?_⟩, fun b hb => ?_⟩
    · rw [← hsz]; exact he'
    · have e : b = it := by simpa using hb
      rw [e, upd_ne (Nat.ne_of_lt hlt)]
      exact (hf it (by simp)).1
  done := by
    intro X hP hw hK hc i pins s σ H E I hf st hg
    subst hP hw hK
    obtain ⟨hd, hi⟩ := hg
    obtain ⟨f0, f1, f2, f3, f4, f5⟩ := hf it (by simp)
    obtain ⟨hs, hgd, hx, es', ep', hdt, hsz, ent⟩ := I.frzT hd
    obtain ⟨rfl, rfl⟩ := dict_ep hod hdt
    obtain ⟨ok, ov, he⟩ := st
    rw [← hsz] at he
    exact DT.endI (I.ok.hd hc) he ⟨o, hgd, hx, hdt⟩ (by omega) fun h' eb => ⟨rfl, I.turned (t' := s.toks) (fun b ob hb e => eb b ob hb e) f0 f1 f3 f4 f5⟩
  self := fun A i s Q E st h => let ⟨_, _, e⟩ := st; PySem.W.kcp_self e h
end
def iItemsT (td : TE) : TI := fun σ H R => td σ H fun x H1 => ∃ d o kvs, x = .ref d ∧ H1 d = some (.frz o (.dT kvs)) ∧ R (ItiT d o kvs) H1
section
variable {X : Cx} {e : Expr} {td : TE} {apos cpos : Pos}
theorem pi_itemsT {elts : List Expr} {kk : Nat} {tpos : Pos} (he : PE X e td) (hbase : attributeBase e "items" X.env (eval e X.env) = eval e X.env := by rfl) (hline : (apos.endLine == cpos.line) = true := by rfl) :
    PI X (.Tuple elts kk tpos) (.Call (.Attribute e "items" apos) [] [] cpos) (iItemsT td) := by
  refine ⟨fun pins s σ H R I h => ?_⟩
  refine wpAny_Call_method (T := "dict") (id := "dict.items") hbase rfl hline F.plainAttrs_dict F.slot_dict_items F.type_dict_items (thn (he.run pins s σ H _ I h) fun u s1 ⟨x, H1, I1, rx, d, o, kvs, ex, hd, q⟩ => ?_)
  subst ex
  obtain rfl : u = Value.ref d := rx
  obtain ⟨hs, hgd, hx, es, ep, hdt, hsz, ent⟩ := I1.frzT hd
  have hm : DT.Raw s1.heap d es ep := ⟨o, hgd, hx, hdt⟩
  refine ⟨hm.typeIs, fun b q => ?_, ?_⟩
  · cases q; exact ⟨o, hgd, hx.2.1⟩
  have I2 : Inv X pins σ H1 { s1 with heap := s1.heap.push { cls := .type "dict_items", data := .fields #[.ref d] } } := I1.kept (t' := s1.toks) fun b ob q => Heap.get?_push_of_some _ q
  show wpAny _ _ (callWith cpos (.builtin "dict.items") [.ref d] [] []) _ X.xe s1
  refine Calls.callWith_builtin rfl (PySem.evalArgs_none ?_)
  refine DT.callItems hs hm ?_
  refine DT.iterI (d := d) (es := es) (ep := ep) ⟨_, Heap.get?_push_size _ rfl, rfl, rfl⟩ (hm.push _) (pi_one (tk := s1.toks) I2 _ (turn_itemsT _ hdt) ⟨.none, .none, ?_⟩ q)
  rw [← hsz]
  exact Heap.get?_push_size _ rfl
end
end L2
end
section
set_option Elab.async false
set_option linter.all false
set_option maxRecDepth 100000
/-! Loops: for and comprehensions by data. -/
namespace CL
open PySem PySem.Spec PyProof.Rows L2
section
variable {K : PySem.W.Frag} {g : Cfg} {Z : Addr → Prop} {E : XK} {κ κ' κ'' : List Addr} {s s' s'' : S} {H H' H'' : Hp} {σ : L2.St} {ρ : Env}
/-- an iterator over the data ds, as long as St stands -/
structure ItF (K : PySem.W.Frag) (g : Cfg) (J : It) (ds : List D) (St : List Addr → (Addr → Prop) → Hp → Prop) : Prop where
  small : ∀ κ L H, Sz H → St κ L H → ds.length ≤ sizeLine
  keep : ∀ κ κ' L L' H H', Stays κ κ' L L' H H' → St κ L H → St κ' L' H'
  stop : ∀ Z i κ s H, Held K g κ s Z H → St κ (pr κ s Z) H → ds.length ≤ i → J.stop i H
  go : ∀ Z i κ s H, Held K g κ s Z H → St κ (pr κ s Z) H → i < ds.length → J.go i H
  yld : ∀ Z (i : Nat) d κ s H x H', Held K g κ s Z H → St κ (pr κ s Z) H → ds[i]? = some d → J.yld i H x H' → Ext K g Z κ s H κ s H' ∧ Rep K g κ (pr κ s Z) H' d x
/-- the containers cs stand -/
abbrev StC (K : PySem.W.Frag) (g : Cfg) (cs : List D) (us : List V) : List Addr → (Addr → Prop) → Hp → Prop := fun κ L H => Reps K g κ L H cs us
abbrev OkI (K : PySem.W.Frag) (g : Cfg) (Z : Addr → Prop) (R : It → Hp → Prop) : List D → List Addr → S → Hp → Prop := fun ds κ s H => ∀ J St, ItF K g J ds St → St κ (pr κ s Z) H → R J H
def IOk (K : PySem.W.Frag) (g : Cfg) (E : XK) (it : Ix) (wi : TI) : Prop := ∀ (Z : Addr → Prop) (κ : List Addr) (s : S) (H : Hp) (σ : L2.St) (ρ : Env) (R : It → Hp → Prop), At K g Z κ s H σ ρ →
  PostG K g Z E κ s H (it ρ s) (OkI K g Z R) → wi σ H R
theorem seq_of {d : D} {v : V} {xs : List D} (r : Rep K g κ (pr κ s Z) H d v) (h : d = .lst xs ∨ d = .tup xs) : ∃ a vs, v = .ref a ∧ (d = .lst xs → SqL K H a vs) ∧ (d = .tup xs → SqT K H a vs) ∧ Reps K g κ (pr κ s Z) H xs vs := by
  rcases h with rfl | rfl
  · obtain ⟨a, vs, ev, _, h, ra⟩ := r
    exact ⟨a, vs, ev, fun _ => .inl h, fun z => (by cases z), ra⟩
  · obtain ⟨a, vs, ev, h, ra⟩ := r
    exact ⟨a, vs, ev, fun z => (by cases z), fun _ => sqT_of h, ra⟩
theorem sz_l {a : Addr} {xs : List D} {L : Addr → Prop} (sz : Sz H) (r : Reps K g κ L H [.lst xs] [.ref a]) : xs.length ≤ sizeLine := by
  obtain ⟨v, us, e, r1, _⟩ := r
  injection e with e1 e2; subst e1
  obtain ⟨b, vs, eb, _, h, ra⟩ := r1
  cases eb
  rw [ra.length]
  exact sz _ _ (.inl h)
theorem sz_t {a : Addr} {xs : List D} {L : Addr → Prop} (sz : Sz H) (r : Reps K g κ L H [.tup xs] [.ref a]) : xs.length ≤ sizeLine := by
  obtain ⟨v, us, e, r1, _⟩ := r
  injection e with e1 e2; subst e1
  obtain ⟨b, vs, eb, h, ra⟩ := r1
  cases eb
  rw [ra.length]
  rcases h with ⟨h, _⟩ | ⟨e, _⟩
  · exact sz _ _ (.inr (.inl h))
  · subst e; exact Nat.zero_le _
theorem it_list {a : Addr} {xs : List D} : ItF K g (Itl K a) xs (StC K g [.lst xs] [.ref a]) where
  keep := fun _ _ _ _ _ _ t r => r.stays t
  small := fun κ L H sz r => sz_l sz r
  stop := fun Z i κ s H hd r hi => by
    obtain ⟨v, us, e, r1, _⟩ := r
    injection e with e1 e2; subst e1
    obtain ⟨b, vs, eb, h1, _, ra⟩ := seq_of r1 (.inl rfl)
    cases eb
    exact ⟨vs, h1 rfl, by rw [← ra.length]; exact hi⟩
  go := fun Z i κ s H hd r hi => by
    obtain ⟨v, us, e, r1, _⟩ := r
    injection e with e1 e2; subst e1
    obtain ⟨b, vs, eb, h1, _, ra⟩ := seq_of r1 (.inl rfl)
    cases eb
    have hl := ra.length
    exact ⟨vs, vs[i], h1 rfl, by simp⟩
  yld := fun Z i d κ s H x H' hd r ei y => by
    obtain ⟨v, us, e, r1, _⟩ := r
    injection e with e1 e2; subst e1
    obtain ⟨b, vs, eb, h1, _, ra⟩ := seq_of r1 (.inl rfl)
    cases eb
    obtain ⟨rfl, y⟩ := y
    obtain ⟨w, ew, rw'⟩ := ra.get ei
    have := y vs (h1 rfl)
    rw [ew] at this; cases this
    exact ⟨.refl hd, rw'⟩
theorem it_tup {a : Addr} {xs : List D} : ItF K g (Itt K a) xs (StC K g [.tup xs] [.ref a]) where
  keep := fun _ _ _ _ _ _ t r => r.stays t
  small := fun κ L H sz r => sz_t sz r
  stop := fun Z i κ s H hd r hi => by
    obtain ⟨v, us, e, r1, _⟩ := r
    injection e with e1 e2; subst e1
    obtain ⟨b, vs, eb, _, h1, ra⟩ := seq_of r1 (.inr rfl)
    cases eb
    exact ⟨vs, h1 rfl, by rw [← ra.length]; exact hi⟩
  go := fun Z i κ s H hd r hi => by
    obtain ⟨v, us, e, r1, _⟩ := r
    injection e with e1 e2; subst e1
    obtain ⟨b, vs, eb, _, h1, ra⟩ := seq_of r1 (.inr rfl)
    cases eb
    have hl := ra.length
    exact ⟨vs, vs[i], h1 rfl, by simp⟩
  yld := fun Z i d κ s H x H' hd r ei y => by
    obtain ⟨v, us, e, r1, _⟩ := r
    injection e with e1 e2; subst e1
    obtain ⟨b, vs, eb, _, h1, ra⟩ := seq_of r1 (.inr rfl)
    cases eb
    obtain ⟨rfl, y⟩ := y
    obtain ⟨w, ew, rw'⟩ := ra.get ei
    have := y vs (h1 rfl)
    rw [ew] at this; cases this
    exact ⟨.refl hd, rw'⟩
theorem range_get {lo hi : Int} {i : Nat} {d : D} (h : (rangeD lo hi)[i]? = some d) : i < (hi - lo).toNat ∧ d = .int (lo + (i : Nat)) := by
  unfold rangeD at h
  rw [List.getElem?_map] at h
  obtain ⟨j, h1, h2⟩ := Option.map_eq_some_iff.mp h
  obtain ⟨h3, h4⟩ := List.getElem?_eq_some_iff.mp h1
  simp at h3 h4
  subst h4
  exact ⟨by omega, h2.symm⟩
theorem range_len {lo hi : Int} : (rangeD lo hi).length = (hi - lo).toNat := by simp [rangeD]
theorem it_rng {lo hi : Int} {n : Nat} (hn : n = (hi - lo).toNat) (hz : (hi - lo).toNat ≤ sizeLine) : ItF K g (Itr lo n) (rangeD lo hi) (fun _ _ _ => True) where
  keep := fun _ _ _ _ _ _ _ _ => True.intro
  small := fun κ L H sz r => by rw [range_len]; exact hz
  stop := fun Z i κ s H hd r h => by rw [range_len] at h; show n ≤ i; omega
  go := fun Z i κ s H hd r h => by rw [range_len] at h; show i < n; omega
  yld := fun Z i d κ s H x H' hd r ei y => by
    obtain ⟨rfl, rfl⟩ := y
    obtain ⟨_, rfl⟩ := range_get ei
    exact ⟨.refl hd, rfl⟩
theorem enum_len : ∀ {xs : List D} {n : Nat}, (enumD n xs).length = xs.length
  | [], _ => rfl
  | _ :: r, n => by show (enumD (n + 1) r).length + 1 = _; rw [enum_len]; rfl
theorem enum_get : ∀ {xs : List D} {n i : Nat} {d : D}, (enumD n xs)[i]? = some d → ∃ x, xs[i]? = some x ∧ d = .tup [.int ((n + i : Nat) : Int), x]
  | [], _, _, _, h => by simp [enumD] at h
  | x :: r, n, 0, d, h => by simp [enumD] at h; exact ⟨x, by simp, by simp [h]⟩
  | x :: r, n, i + 1, d, h => by
    obtain ⟨y, e1, e2⟩ := enum_get (xs := r) (n := n + 1) (i := i) (d := d) (by simpa [enumD] using h)
    exact ⟨y, by simpa using e1, by rw [e2, show n + 1 + i = n + (i + 1) by omega]⟩
theorem it_enum {a : Addr} {xs : List D} : ItF K g (Ite K a) (enumD 0 xs) (StC K g [.lst xs] [.ref a]) where
  keep := fun _ _ _ _ _ _ t r => r.stays t
  small := fun κ L H sz r => by rw [enum_len]; exact sz_l sz r
  stop := fun Z i κ s H hd r hi => by
    obtain ⟨v, us, e, r1, _⟩ := r
    injection e with e1 e2; subst e1
    obtain ⟨b, vs, eb, h1, _, ra⟩ := seq_of r1 (.inl rfl)
    cases eb
    rw [enum_len] at hi
    exact ⟨vs, h1 rfl, by rw [← ra.length]; exact hi⟩
  go := fun Z i κ s H hd r hi => by
    obtain ⟨v, us, e, r1, _⟩ := r
    injection e with e1 e2; subst e1
    obtain ⟨b, vs, eb, h1, _, ra⟩ := seq_of r1 (.inl rfl)
    cases eb
    have hl := ra.length
    rw [enum_len] at hi
    exact ⟨vs, vs[i], h1 rfl, by simp⟩
  yld := fun Z i d κ s H x H' hd r ei y => by
    obtain ⟨v, us, e, r1, _⟩ := r
    injection e with e1 e2; subst e1
    obtain ⟨b, vs, eb, h1, _, ra⟩ := seq_of r1 (.inl rfl)
    cases eb
    obtain ⟨T, x', rfl, hT, rfl, y⟩ := y
    obtain ⟨dx, ex, rfl⟩ := enum_get ei
    obtain ⟨w, ew, rw'⟩ := ra.get ex
    have := y vs (h1 rfl)
    rw [ew] at this; cases this
    refine ⟨Ext.lay hd hT, new_tup hd hT (.cons (by show _ = _; rw [Nat.zero_add]) (.cons rw' .nil))⟩
theorem it_enumT {a : Addr} {xs : List D} : ItF K g (IteT K a) (enumD 0 xs) (StC K g [.tup xs] [.ref a]) where
  keep := fun _ _ _ _ _ _ t r => r.stays t
  small := fun κ L H sz r => by rw [enum_len]; exact sz_t sz r
  stop := fun Z i κ s H hd r hi => by
    obtain ⟨v, us, e, r1, _⟩ := r
    injection e with e1 e2; subst e1
    obtain ⟨b, vs, eb, _, h1, ra⟩ := seq_of r1 (.inr rfl)
    cases eb
    rw [enum_len] at hi
    exact ⟨vs, h1 rfl, by rw [← ra.length]; exact hi⟩
  go := fun Z i κ s H hd r hi => by
    obtain ⟨v, us, e, r1, _⟩ := r
    injection e with e1 e2; subst e1
    obtain ⟨b, vs, eb, _, h1, ra⟩ := seq_of r1 (.inr rfl)
    cases eb
    have hl := ra.length
    rw [enum_len] at hi
    exact ⟨vs, vs[i], h1 rfl, by simp⟩
  yld := fun Z i d κ s H x H' hd r ei y => by
    obtain ⟨v, us, e, r1, _⟩ := r
    injection e with e1 e2; subst e1
    obtain ⟨b, vs, eb, _, h1, ra⟩ := seq_of r1 (.inr rfl)
    cases eb
    obtain ⟨T, x', rfl, hT, rfl, y⟩ := y
    obtain ⟨dx, ex, rfl⟩ := enum_get ei
    obtain ⟨w, ew, rw'⟩ := ra.get ex
    have := y vs (h1 rfl)
    rw [ew] at this; cases this
    refine ⟨Ext.lay hd hT, new_tup hd hT (.cons (by show _ = _; rw [Nat.zero_add]) (.cons rw' .nil))⟩
theorem zip_len : ∀ {xs ys : List D}, (zipD xs ys).length = min xs.length ys.length
  | [], _ => by simp [zipD]
  | _ :: _, [] => by simp [zipD]
  | _ :: r, _ :: q => by simp [zipD, zip_len (xs := r) (ys := q)]
theorem zip_get : ∀ {xs ys : List D} {i : Nat} {d : D}, (zipD xs ys)[i]? = some d → ∃ x y, xs[i]? = some x ∧ ys[i]? = some y ∧ d = .tup [x, y]
  | [], _, _, _, h => by simp [zipD] at h
  | _ :: _, [], _, _, h => by simp [zipD] at h
  | x :: r, y :: q, 0, d, h => by simp [zipD] at h; exact ⟨x, y, by simp, by simp, h.symm⟩
  | x :: r, y :: q, i + 1, d, h => by
    obtain ⟨a, b, e1, e2, e3⟩ := zip_get (xs := r) (ys := q) (i := i) (d := d) (by simpa [zipD] using h)
    exact ⟨a, b, by simpa using e1, by simpa using e2, e3⟩
theorem it_zip {a b : Addr} {xs ys : List D} : ItF K g (Itz K a b) (zipD xs ys) (StC K g [.lst xs, .lst ys] [.ref a, .ref b]) where
  keep := fun _ _ _ _ _ _ t r => r.stays t
  small := fun κ L H sz r => by
    obtain ⟨v, us, e, r1, r2⟩ := r
    rw [zip_len]
    have := sz_l sz (a := a) (xs := xs) (L := L) (H := H) (K := K) (g := g) (κ := κ) (by injection e with e1 e2; subst e1; exact .cons r1 .nil)
    omega
  stop := fun Z i κ s H hd r hi => by
    obtain ⟨v, us, e, r1, w, us2, e2, r2, _⟩ := r
    injection e with q1 q2; subst q1 q2; injection e2 with q1 q2; subst q1
    obtain ⟨p, vs, eb, h1, h1', ra⟩ := seq_of r1 (.inl rfl)
    obtain ⟨p2, ws, eb2, h2, h2', rb⟩ := seq_of r2 (.inl rfl)
    cases eb; cases eb2
    rw [zip_len] at hi
    have l1 := ra.length
    have l2 := rb.length
    exact ⟨vs, ws, h1 rfl, h2 rfl, by omega⟩
  go := fun Z i κ s H hd r hi => by
    obtain ⟨v, us, e, r1, w, us2, e2, r2, _⟩ := r
    injection e with q1 q2; subst q1 q2; injection e2 with q1 q2; subst q1
    obtain ⟨p, vs, eb, h1, h1', ra⟩ := seq_of r1 (.inl rfl)
    obtain ⟨p2, ws, eb2, h2, h2', rb⟩ := seq_of r2 (.inl rfl)
    cases eb; cases eb2
    rw [zip_len] at hi
    have l1 := ra.length
    have l2 := rb.length
    have i1 : i < vs.length := by omega
    have i2 : i < ws.length := by omega
    exact ⟨vs, ws, vs[i], ws[i], h1 rfl, h2 rfl, by simp, by simp⟩
  yld := fun Z i d κ s H x H' hd r ei y => by
    obtain ⟨v, us, e, r1, w, us2, e2, r2, _⟩ := r
    injection e with q1 q2; subst q1 q2; injection e2 with q1 q2; subst q1
    obtain ⟨p, vs, eb, h1, h1', ra⟩ := seq_of r1 (.inl rfl)
    obtain ⟨p2, ws, eb2, h2, h2', rb⟩ := seq_of r2 (.inl rfl)
    cases eb; cases eb2
    obtain ⟨T, x', y', rfl, hT, rfl, y1, y2⟩ := y
    obtain ⟨dx, dy, ex, ey, rfl⟩ := zip_get ei
    obtain ⟨w1, ew1, rw1⟩ := ra.get ex
    obtain ⟨w2, ew2, rw2⟩ := rb.get ey
    have t1 := y1 vs (h1 rfl)
    have t2 := y2 ws (h2 rfl)
    rw [ew1] at t1; cases t1
    rw [ew2] at t2; cases t2
    exact ⟨Ext.lay hd hT, new_tup hd hT (.cons rw1 (.cons rw2 .nil))⟩
theorem it_zipT {a b : Addr} {xs ys : List D} : ItF K g (RZ.ItzT K a b) (zipD xs ys) (StC K g [.tup xs, .tup ys] [.ref a, .ref b]) where
  keep := fun _ _ _ _ _ _ t r => r.stays t
  small := fun κ L H sz r => by
    obtain ⟨v, us, e, r1, r2⟩ := r
    rw [zip_len]
    have := sz_t sz (a := a) (xs := xs) (L := L) (H := H) (K := K) (g := g) (κ := κ) (by injection e with e1 e2; subst e1; exact .cons r1 .nil)
    omega
  stop := fun Z i κ s H hd r hi => by
    obtain ⟨v, us, e, r1, w, us2, e2, r2, _⟩ := r
    injection e with q1 q2; subst q1 q2; injection e2 with q1 q2; subst q1
    obtain ⟨p, vs, eb, h1, h1', ra⟩ := seq_of r1 (.inr rfl)
    obtain ⟨p2, ws, eb2, h2, h2', rb⟩ := seq_of r2 (.inr rfl)
    cases eb; cases eb2
    rw [zip_len] at hi
    have l1 := ra.length
    have l2 := rb.length
    exact ⟨vs, ws, h1' rfl, h2' rfl, by omega⟩
  go := fun Z i κ s H hd r hi => by
    obtain ⟨v, us, e, r1, w, us2, e2, r2, _⟩ := r
    injection e with q1 q2; subst q1 q2; injection e2 with q1 q2; subst q1
    obtain ⟨p, vs, eb, h1, h1', ra⟩ := seq_of r1 (.inr rfl)
    obtain ⟨p2, ws, eb2, h2, h2', rb⟩ := seq_of r2 (.inr rfl)
    cases eb; cases eb2
    rw [zip_len] at hi
    have l1 := ra.length
    have l2 := rb.length
    have i1 : i < vs.length := by omega
    have i2 : i < ws.length := by omega
    exact ⟨vs, ws, vs[i], ws[i], h1' rfl, h2' rfl, by simp, by simp⟩
  yld := fun Z i d κ s H x H' hd r ei y => by
    obtain ⟨v, us, e, r1, w, us2, e2, r2, _⟩ := r
    injection e with q1 q2; subst q1 q2; injection e2 with q1 q2; subst q1
    obtain ⟨p, vs, eb, h1, h1', ra⟩ := seq_of r1 (.inr rfl)
    obtain ⟨p2, ws, eb2, h2, h2', rb⟩ := seq_of r2 (.inr rfl)
    cases eb; cases eb2
    obtain ⟨T, x', y', rfl, hT, rfl, y1, y2⟩ := y
    obtain ⟨dx, dy, ex, ey, rfl⟩ := zip_get ei
    obtain ⟨w1, ew1, rw1⟩ := ra.get ex
    obtain ⟨w2, ew2, rw2⟩ := rb.get ey
    have t1 := y1 vs (h1' rfl)
    have t2 := y2 ws (h2' rfl)
    rw [ew1] at t1; cases t1
    rw [ew2] at t2; cases t2
    exact ⟨Ext.lay hd hT, new_tup hd hT (.cons rw1 (.cons rw2 .nil))⟩
theorem chr_get {x : Str} {i : Nat} {d : D} (h : (chrD x)[i]? = some d) : ∃ c, x.cps[i]? = some c ∧ d = .str ⟨#[c]⟩ := by
  unfold chrD at h
  rw [List.getElem?_map] at h
  obtain ⟨c, h1, h2⟩ := Option.map_eq_some_iff.mp h
  exact ⟨c, by simpa using h1, h2.symm⟩
theorem it_str {x : Str} (hz : x.length ≤ sizeLine) : ItF K g (Its x) (chrD x) (fun _ _ _ => True) where
  keep := fun _ _ _ _ _ _ _ _ => True.intro
  small := fun κ L H sz r => by have h : x.cps.size ≤ sizeLine := hz; simpa [chrD] using h
  stop := fun Z i κ s H hd r h => by show x.cps.size ≤ i; simpa [chrD] using h
  go := fun Z i κ s H hd r h => by show i < x.cps.size; simpa [chrD] using h
  yld := fun Z i d κ s H v H' hd r ei y => by
    obtain ⟨rfl, c, e1, rfl⟩ := y
    obtain ⟨c', e2, rfl⟩ := chr_get ei
    rw [e1] at e2; cases e2
    exact ⟨.refl hd, rfl⟩
section
variable {X : Cx} {st : Stmt} {e a b c : Expr} {f f1 f2 f3 : Ex} {F G : Sx} {t : Tx} {A1 : Ax}
theorem PI.or {tg iter : Expr} {w1 w2 : TI} (h1 : PI X tg iter w1) (h2 : PI X tg iter w2) : PI X tg iter (fun σ H R => w1 σ H R ∨ w2 σ H R) := ⟨fun pins s σ H R I q => q.elim (h1.run pins s σ H R I) (h2.run pins s σ H R I)⟩
/-- from the readings of the parts -/
theorem i_lst : IOk K g E (iLst f) (fun σ H R => iList K (tD K g E f) σ H R ∨ iTup K (tD K g E f) σ H R) := by
  intro Z κ s H σ ρ R at0 p
  have p1 := PostG.bind p
  cases hf : f ρ s with
  | fail => rw [hf] at p1; exact p1.elim
  | exc x s1 => rw [hf] at p1; exact .inl (tD.mk at0 (by rw [hf]; exact p1))
  | ok d s1 =>
    rw [hf] at p1
    cases d with
    | lst xs =>
      refine .inl (tD.mk at0 ?_)
      rw [hf]
      intro κ1 H1 x1 v rv
      obtain ⟨a, vs, rfl, h1, _, ra⟩ := seq_of rv (.inl rfl)
      exact ⟨a, rfl, ⟨vs, h1 rfl⟩, p1 κ1 H1 x1 κ1 H1 (.refl x1.held) _ _ it_list (.cons rv .nil)⟩
    | tup xs =>
      refine .inr (tD.mk at0 ?_)
      rw [hf]
      intro κ1 H1 x1 v rv
      obtain ⟨a, vs, rfl, _, h1, ra⟩ := seq_of rv (.inr rfl)
      exact ⟨a, rfl, ⟨vs, h1 rfl⟩, p1 κ1 H1 x1 κ1 H1 (.refl x1.held) _ _ it_tup (.cons rv .nil)⟩
    | _ =>
      refine .inl (tD.mk at0 ?_)
      rw [hf]
      intro κ1 H1 x1 v rv
      exact (p1 κ1 H1 x1).elim
theorem i_rng : IOk K g E (iRng f) (iRng1 (tA K g E (aCons f aNil))) := by
  intro Z κ s H σ ρ R at0 p
  refine tA.mk at0 ?_
  have p1 := PostG.bind p
  have e : aCons f aNil ρ s = (f ρ s).b fun x s => .ok [x] s := by
    show (f ρ s).b (fun x s => (aNil ρ s).b fun xs s => .ok (x :: xs) s) = _
    rfl
  rw [e]
  cases hf : f ρ s with
  | fail => rw [hf] at p1; exact p1.elim
  | exc x s1 => rw [hf] at p1; exact p1
  | ok d s1 =>
    rw [hf] at p1
    intro κ1 H1 x1 vs rvs
    have p2 := p1 κ1 H1 x1
    obtain ⟨v, us, rfl, rv, ru⟩ := rvs
    cases (show us = [] from ru)
    cases d with
    | int n =>
      cases rv
      simp only at p2
      split at p2
      · rename_i h
        have hs : (sizeLine : Int) = 16777216 := by rw [sizeLine_eq]; rfl
        exact ⟨n, rfl, h.1, by omega, p2 κ1 H1 (.refl x1.held) _ _ (it_rng (by rw [Int.sub_zero]) (by omega)) True.intro⟩
      · exact p2.elim
    | _ => exact p2.elim
theorem i_rng2 : IOk K g E (CL.iRng2 f f2) (L2.iRng2 (tA K g E (aCons f (aCons f2 aNil)))) := by
  intro Z κ s H σ ρ R at0 p
  refine tA.mk at0 ?_
  have p1 := PostG.bind p
  have e : aCons f (aCons f2 aNil) ρ s = (f ρ s).b fun x s => (f2 ρ s).b fun y s => .ok [x, y] s := by
    show (f ρ s).b (fun x s => ((f2 ρ s).b (fun y s => (aNil ρ s).b fun xs s => .ok (y :: xs) s)).b fun xs s => .ok (x :: xs) s) = _
    congr 1
    funext x s
    cases f2 ρ s <;> rfl
  rw [e]
  cases hf : f ρ s with
  | fail => rw [hf] at p1; exact p1.elim
  | exc x s1 => rw [hf] at p1; exact p1
  | ok d s1 =>
    unfold CL.iRng2 at p
    rw [hf] at p
    show PostG K g Z E κ s H ((f2 ρ s1).b fun y s => .ok [d, y] s) _
    have p0 : PostG K g Z E κ s H ((f2 ρ s1).b fun y s => match d, y with | .int m, .int n => if 0 ≤ m ∧ m ≤ sizeLine ∧ -(2 ^ 62) ≤ n ∧ n ≤ sizeLine then .ok (rangeD m n) s else .fail | _, _ => .fail) (OkI K g Z R) := p
    have p2 := PostG.bind p0
    cases hf2 : f2 ρ s1 with
    | fail => rw [hf2] at p2; exact p2.elim
    | exc x s2 => rw [hf2] at p2; exact p2
    | ok d2 s2 =>
      rw [hf2] at p2
      intro κ1 H1 x1 vs rvs
      have p3 := p2 κ1 H1 x1
      obtain ⟨v, us, rfl, rv, u, us2, rfl, ru, rn⟩ := rvs
      cases (show us2 = [] from rn)
      cases d with
      | int m =>
        cases d2 with
        | int n =>
          cases rv; cases ru
          simp only at p3
          split at p3
          · rename_i h
            have hs : (sizeLine : Int) = 16777216 := by rw [sizeLine_eq]; rfl
            exact ⟨m, n, rfl, by omega, p3 κ1 H1 (.refl x1.held) _ _ (it_rng rfl (by omega)) True.intro⟩
          · exact p3.elim
        | _ => exact p3.elim
      | _ => exact p3.elim
theorem i_enum : IOk K g E (CL.iEnum f) (L2.iEnumA K (tA K g E (aCons f aNil))) := by
  intro Z κ s H σ ρ R at0 p
  refine tA.mk at0 ?_
  have p1 := PostG.bind p
  have e : aCons f aNil ρ s = (f ρ s).b fun x s => .ok [x] s := by
    show (f ρ s).b (fun x s => (aNil ρ s).b fun xs s => .ok (x :: xs) s) = _
    rfl
  rw [e]
  cases hf : f ρ s with
  | fail => rw [hf] at p1; exact p1.elim
  | exc x s1 => rw [hf] at p1; exact p1
  | ok d s1 =>
    rw [hf] at p1
    intro κ1 H1 x1 vs rvs
    have p2 := p1 κ1 H1 x1
    obtain ⟨v, us, rfl, rv, ru⟩ := rvs
    cases (show us = [] from ru)
    cases d with
    | lst xs =>
      obtain ⟨a, vs, rfl, h1, _, ra⟩ := seq_of rv (.inl rfl)
      exact ⟨a, vs, rfl, .inl ⟨h1 rfl, p2 κ1 H1 (.refl x1.held) _ _ it_enum (.cons rv .nil)⟩⟩
    | tup xs =>
      obtain ⟨a, vs, rfl, _, h1, ra⟩ := seq_of rv (.inr rfl)
      exact ⟨a, vs, rfl, .inr ⟨h1 rfl, p2 κ1 H1 (.refl x1.held) _ _ it_enumT (.cons rv .nil)⟩⟩
    | _ => exact p2.elim
theorem i_str : IOk K g E (CL.iStr f) (L2.iStr (tD K g E f)) := by
  intro Z κ s H σ ρ R at0 p
  refine tD.mk at0 (PostG.mono (PostG.bind p) fun d κ1 s1 H1 x1 p1 v rv => ?_)
  cases d with
  | str z =>
    cases rv
    dsimp only at p1
    split at p1
    · rename_i hz
      exact ⟨z, rfl, p1 κ1 H1 (.refl x1.held) _ _ (it_str hz) True.intro⟩
    · exact p1.elim
  | _ => exact p1.elim
theorem i_zip : IOk K g E (CL.iZip f f2) (RZ.iZipA K (tA K g E (aCons f (aCons f2 aNil)))) := by
  intro Z κ s H σ ρ R at0 p
  refine tA.mk at0 ?_
  have e : aCons f (aCons f2 aNil) ρ s = (f ρ s).b fun x s => (f2 ρ s).b fun y s => .ok [x, y] s := by
    show (f ρ s).b (fun x s => ((f2 ρ s).b (fun y s => (aNil ρ s).b fun xs s => .ok (y :: xs) s)).b fun xs s => .ok (x :: xs) s) = _
    congr 1
    funext x s
    cases f2 ρ s <;> rfl
  rw [e]
  unfold CL.iZip at p
  cases hf : f ρ s with
  | fail => rw [hf] at p; exact p.elim
  | exc x s1 => rw [hf] at p; exact p
  | ok d s1 =>
    rw [hf] at p
    simp only [CL.R.b_ok] at p ⊢
    cases hf2 : f2 ρ s1 with
    | fail => rw [hf2] at p; exact p.elim
    | exc x s2 => rw [hf2] at p; exact p
    | ok d2 s2 =>
      rw [hf2] at p
      simp only [CL.R.b_ok] at p ⊢
      intro κ1 H1 x1 vs rvs
      have p3 := p.ext x1
      obtain ⟨v, us, rfl, rv, u, us2, rfl, ru, rn⟩ := rvs
      cases (show us2 = [] from rn)
      cases d with
      | lst xs =>
        cases d2 with
        | lst ys =>
          obtain ⟨a, vs, rfl, h1, _, ra⟩ := seq_of rv (.inl rfl)
          obtain ⟨b, ws, rfl, h2, _, rb⟩ := seq_of ru (.inl rfl)
          exact ⟨a, b, vs, ws, rfl, .inl ⟨h1 rfl, h2 rfl, p3 κ1 H1 (.refl x1.held) _ _ it_zip (.cons rv (.cons ru .nil))⟩⟩
        | _ => exact p3.elim
      | tup xs =>
        cases d2 with
        | tup ys =>
          obtain ⟨a, vs, rfl, _, h1, ra⟩ := seq_of rv (.inr rfl)
          obtain ⟨b, ws, rfl, _, h2, rb⟩ := seq_of ru (.inr rfl)
          exact ⟨a, b, vs, ws, rfl, .inr ⟨h1 rfl, h2 rfl, p3 κ1 H1 (.refl x1.held) _ _ it_zipT (.cons rv (.cons ru .nil))⟩⟩
        | _ => exact p3.elim
      | _ => exact p3.elim
/-- for -/
theorem pst_for {it : Ix} {wi : TI} {Gt : Tg} {gg : TG} {body : Sx} {is : List Nat} (hi : IOk K g E it wi) (hG : GOk K g Gt.set gg is) (h : PS X st (tFor wi gg (tS K g E body))) : PS X st (tS K g E (sFor it Gt body)) := by
  refine PS.imp h fun Dn σ H sz q => ?_
  obtain ⟨Z, κ, s, ρ, at0, p⟩ := q sz
  refine hi Z κ s H σ ρ _ at0 (PostG.mono (PostG.bind p) fun ds κ1 s1 H1 x1 p1 J St itf hr => ?_)
  refine ⟨fun i m σ H => m = ds.length - i ∧ i ≤ ds.length ∧ ∃ κ s ρ, At K g Z κ s H σ ρ ∧ St κ (pr κ s Z) H ∧ PostG K g Z E κ s H (forF Gt.set body (ds.drop i) ρ s) (OkS K g Z Dn),
    ⟨ds.length, by simp, Nat.zero_le _, κ1, s1, ρ, at0.ext x1, hr, p1⟩, ?_⟩
  rintro i m σ2 H2 ⟨rfl, hi2, κ2, s2, ρ2, at2, hr2, p2⟩
  by_cases hlt : i < ds.length
  · right
    refine ⟨itf.go Z i κ2 s2 H2 at2.held hr2 hlt, fun σ' H' => ∃ κ s ρ, At K g Z κ s H' σ' ρ ∧ St κ (pr κ s Z) H' ∧ PostG K g Z E κ s H' (forF Gt.set body (ds.drop (i + 1)) ρ s) (OkS K g Z Dn), fun σ' H' n => ⟨ds.length - (i + 1), by omega, rfl, hlt, n⟩, fun x H3 y => ?_⟩
    have ei : ds[i]? = some ds[i] := by simp
    obtain ⟨x3, rx⟩ := itf.yld Z i _ κ2 s2 H2 x H3 at2.held hr2 ei y
    rw [List.drop_eq_getElem_cons hlt] at p2
    simp only [forF] at p2
    cases hg : Gt.set ds[i] ρ2 with
    | none => rw [hg] at p2; exact p2.elim
    | some ρ3 =>
      rw [hg] at p2
      refine hG κ2 _ H3 σ2 ρ2 ρ3 _ x _ (at2.ext x3).env rx hg fun σ3 er _ => ?_
      refine tS.mk ⟨er, x3.held⟩ (PostG.mono (PostG.bind (p2.ext x3)) fun fl κ4 s4 H4 x4 p4 => ?_)
      have r4 := itf.keep _ _ _ _ _ _ x4.stays (itf.keep _ _ _ _ _ _ x3.stays hr2)
      cases fl with
      | nx ρ4 => exact fun σ4 er4 => ⟨κ4, s4, ρ4, ⟨er4, x4.held⟩, r4, p4⟩
      | ct ρ4 => exact fun σ4 er4 => ⟨κ4, s4, ρ4, ⟨er4, x4.held⟩, r4, p4⟩
      | bk ρ4 => exact p4 κ4 H4 (.refl x4.held)
      | ret d => exact p4 κ4 H4 (.refl x4.held)
  · left
    have e : i = ds.length := by omega
    subst e
    rw [List.drop_length] at p2
    exact ⟨itf.stop Z _ κ2 s2 H2 at2.held hr2 (Nat.le_refl _), p2 κ2 H2 (.refl at2.held) σ2 at2.env⟩
end
end
end CL
end
section
set_option Elab.async false
set_option linter.all false
set_option maxRecDepth 100000
/-! Comps: list comprehensions by data. -/
namespace CL
open PySem PySem.Spec PyProof.Rows L2
section
variable {K : PySem.W.Frag} {g : Cfg} {Z : Addr → Prop} {E : XK} {κ κ' κ'' : List Addr} {s s' s'' : S} {H H' H'' : Hp} {σ : L2.St} {ρ : Env}
/-- what stays, whatever is protected -/
structure ExR (κ : List Addr) (s : S) (H : Hp) (κ' : List Addr) (s' : S) (H' : Hp) : Prop where
  pre : ∃ t, κ' = κ ++ t
  lv : ∀ a, lv κ' s' a → lv κ s a ∨ H a = none
  fr : ∀ b o, H b = some o → ¬ CL.lv κ s b → H' b = some o
  trk : ∀ b, H b ≠ none → H' b ≠ none
theorem Ext.exr (x : Ext K g Z κ s H κ' s' H') : ExR κ s H κ' s' H' := ⟨x.pre, x.lv, x.fr, x.trk⟩
theorem ExR.trans (x : ExR κ s H κ' s' H') (y : ExR κ' s' H' κ'' s'' H'') : ExR κ s H κ'' s'' H'' := by
  obtain ⟨u, e1⟩ := x.pre
  obtain ⟨v, e2⟩ := y.pre
  refine ⟨⟨u ++ v, by rw [e2, e1, List.append_assoc]⟩, fun a h => ?_, fun b o e n => ?_, fun b n => y.trk b (x.trk b n)⟩
  · rcases y.lv a h with q | q
    · exact x.lv a q
    · right
      cases z : H a with
      | none => rfl
      | some o => exact absurd q (x.trk a (some_ne z))
  · refine y.fr b o (x.fr b o e n) fun q => ?_
    rcases x.lv b q with q | q
    · exact n q
    · rw [q] at e; cases e
theorem CtR.stays {L L' : Addr → Prop} {a : Addr} {c : Ct} (st : Stays κ κ' L L' H H') (he : ∀ o, H a = some o → c ≠ .dead → H' a = some o) (h : CtR K g κ L H a c) : CtR K g κ' L' H' a c := by
  cases c with
  | dead => exact h
  | lst xs => obtain ⟨vs, h1, h2⟩ := h; exact ⟨vs, he _ h1 (fun z => by cases z), h2.stays st⟩
  | dic ks xs => obtain ⟨kvs, h1, h2, h3⟩ := h; exact ⟨kvs, he _ h1 (fun z => by cases z), h2, h3.stays st⟩
  | obj c' ks xs => obtain ⟨dx, fs, h1, h2, h3, h4, h5⟩ := h; exact ⟨dx, fs, he _ h1 (fun z => by cases z), h2, h3, h4, h5.stays st⟩
theorem Held.less {Z' : Addr → Prop} (hd : Held K g κ s Z H) (h : ∀ a, Z' a → Z a) : Held K g κ s Z' H :=
  ⟨hd.len, hd.nd, hd.trk, fun a z => hd.ztrk a (h a z), fun a z => hd.zdis a (h a z), fun a z => hd.znt a (h a z), fun k a c e1 e2 => (hd.ct k a c e1 e2).stays (Stays.less fun x z => z.imp id (h x)) fun _ e _ => e⟩
theorem XRep.less {L L' : Addr → Prop} {C : Value} {d : Option Addr} {x : Xc} (h : ∀ a, L' a → L a) (r : XRep K g κ L H C d x) : XRep K g κ L' H C d x := by
  obtain ⟨h1, h2⟩ := r
  refine ⟨h1, ?_⟩
  rcases h2 with h2 | ⟨a, fs, h3, h4, h5, h6, h7⟩
  · exact .inl h2
  · exact .inr ⟨a, fs, h3, h4, h5, h6, h7.stays (Stays.less h)⟩
/-- a new object is laid and protected -/
theorem Held.protect {p : Addr} {o : HO} (hd : Held K g κ s Z H) (hp : H p = none) (ho : ∀ xs, o ≠ .tup xs) : Held K g κ s (fun a => Z a ∨ a = p) (upd H p o) := by
  have st : Stays κ κ (pr κ s Z) (pr κ s fun a => Z a ∨ a = p) H (upd H p o) := by
    refine ⟨⟨[], by simp⟩, fun a n h z => ?_, fun b u e _ => by rw [upd_ne (ne_of_none e hp)]; exact e⟩
    rcases z with z | z | z
    · exact h (.inl z)
    · exact h (.inr z)
    · subst z; exact n hp
  refine ⟨hd.len, hd.nd, fun a ha => ?_, fun a ha => ?_, fun a ha z => ?_, fun a ha xs => ?_, fun k a c e1 e2 => ?_⟩
  · rw [upd_ne (fun q => hd.trk a ha (by rw [q]; exact hp))]; exact hd.trk a ha
  · rcases ha with ha | ha
    · rw [upd_ne (fun q => hd.ztrk a ha (by rw [q]; exact hp))]; exact hd.ztrk a ha
    · subst ha; rw [upd_same]; intro z; cases z
  · rcases ha with ha | ha
    · exact hd.zdis a ha z
    · subst ha; exact z.lt hd hp
  · rcases ha with ha | ha
    · rw [upd_ne (fun q => hd.ztrk a ha (by rw [q]; exact hp))]; exact hd.znt a ha xs
    · subst ha; rw [upd_same]; intro z; exact ho xs (Option.some.inj z)
  · have na : a ≠ p := fun q => hd.trk a (List.mem_of_getElem? e1) (by rw [q]; exact hp)
    exact (hd.ct k a c e1 e2).stays st fun o e _ => by rw [upd_ne na]; exact e
/-- a protected object is written -/
theorem Held.put {p : Addr} {o : HO} (hd : Held K g κ s Z H) (hp : Z p) (ho : ∀ xs, o ≠ .tup xs) : Held K g κ s Z (upd H p o) := by
  have hn := hd.ztrk p hp
  have tr : ∀ a, H a ≠ none → upd H p o a ≠ none := fun a n => by
    by_cases q : a = p
    · subst q; rw [upd_same]; intro z; cases z
    · rw [upd_ne q]; exact n
  refine ⟨hd.len, hd.nd, fun a ha => tr a (hd.trk a ha), fun a ha => tr a (hd.ztrk a ha), hd.zdis, fun a ha xs => ?_, fun k a c e1 e2 => ?_⟩
  · by_cases q : a = p
    · subst q; rw [upd_same]; intro z; exact ho xs (Option.some.inj z)
    · rw [upd_ne q]; exact hd.znt a ha xs
  have st : Stays κ κ (pr κ s Z) (pr κ s Z) H (upd H p o) := Stays.upd (.inr hp)
  cases c with
  | dead => exact True.intro
  | _ =>
    refine (hd.ct k a _ e1 e2).stays st fun u e _ => ?_
    rw [upd_ne (fun q => hd.zdis p hp (by rw [← q]; exact ⟨k, _, e1, e2, fun z => by cases z⟩))]; exact e
theorem wipe_rep {L : Addr → Prop} (er : ERep K g κ L H σ ρ) : ∀ vs : List Nat, ERep K g κ L H (wipe σ vs) (wipeE ρ vs)
  | [] => er
  | i :: r => by
    have ih := wipe_rep er r
    refine ⟨by show ((wipe σ r).set i none).length = ((wipeE ρ r).set i none).length; rw [List.length_set, List.length_set]; exact ih.len, fun j y e => ?_⟩
    have e' : ((wipeE ρ r).set i none)[j]? = some (some y) := e
    show ∃ v, ((wipe σ r).set i none)[j]? = some (some v) ∧ _
    by_cases hj : j = i
    · subst hj
      by_cases hl : j < (wipeE ρ r).length
      · rw [List.getElem?_set_self hl] at e'; cases e'
      · rw [List.getElem?_eq_none (by rw [List.length_set]; omega)] at e'; cases e'
    · rw [List.getElem?_set_ne (Ne.symm hj)] at e' ⊢
      exact ih.at_ j y e'
theorem wipe_wipe (σ : L2.St) (vs : List Nat) : ∀ r : List Nat, (∀ i ∈ r, i ∈ vs) → wipe (wipe σ r) vs = wipe σ vs
  | [], _ => rfl
  | i :: r, h => by
    show wipe ((wipe σ r).set i none) vs = _
    rw [wipe_set _ i none vs (h i (List.mem_cons_self ..))]
    exact wipe_wipe σ vs r fun j hj => h j (List.mem_cons_of_mem _ hj)
/-- a part's run within a comprehension: no exception leaves it -/
theorem PostG.part {α β : Type} {Z1 : Addr → Prop} {κ1 : List Addr} {s1 : S} {H1 : Hp} {r : R α} {k : α → S → R β} {Ok : β → List Addr → S → Hp → Prop} (p : PostG K g Z E κ1 s1 H1 (r.nx.b k) Ok) :
    PostG K g Z1 E0 κ s H r (fun a κ' s' H' => PostG K g Z E κ1 s1 H1 (k a s') Ok) := by
  cases r with
  | fail => exact p
  | ok a t => exact fun κ2 H2 y => p
  | exc c t => exact p.elim
section
variable {X : Cx} {st : Stmt} {e a b c : Expr} {f f1 f2 f3 : Ex} {F G : Sx} {t : Tx} {A1 : Ax}
/-- a comprehension's tests -/
def HtOk (K : PySem.W.Frag) (g : Cfg) (t : Tx) (tt : TT) : Prop := ∀ (Z : Addr → Prop) (κ : List Addr) (s : S) (H : Hp) (σ : L2.St) (ρ : Env) (Q : Bool → Hp → Prop), At K g Z κ s H σ ρ → PostG K g Z E0 κ s H (t ρ s) (OkB Q) → tt σ H Q
theorem ht_t : HtOk K g t (CL.tB K g E0 t) := fun _ _ _ _ _ _ _ a p => tB.mk a p
theorem ht_y : HtOk K g CL.tYes L2.tYes := fun _ κ _ H _ _ _ a p => p κ H (.refl a.held)
theorem lc_read {J : It} {ds : List D} {St : List Addr → (Addr → Prop) → Hp → Prop} {Gt : Tg} {gg : TG} {is own : List Nat} {elt : Ex} {κ1 : List Addr} {s1 : S} {H1 : Hp} {Q : VK} (itf : ItF K g J ds St) (hG : GOk K g Gt.set gg is) (hown : ∀ i ∈ is, i ∈ own) {tt : TT}
    (ht : HtOk K g t tt) (at1 : At K g Z κ1 s1 H1 σ ρ) (hr : St κ1 (pr κ1 s1 Z) H1) (p1 : PostG K g Z E κ1 s1 H1 ((compF Gt.set t elt (wipeE ρ own) ds s1).b fun ys s => .ok (.lst ys) s) (OkD K g Z Q)) :
    tLc (fun _ H R => R J H) gg tt (tD K g E0 elt) own σ H1 Q := by
  intro D hD
  have hdD : ¬ pr κ1 s1 Z D := free_pr at1.held hD
  have stD : ∀ o, Stays κ1 κ1 (pr κ1 s1 Z) (pr κ1 s1 fun a => Z a ∨ a = D) H1 (upd H1 D o) := fun o => by
    refine ⟨⟨[], by simp⟩, fun a n h z => ?_, fun b u e _ => by rw [upd_ne (ne_of_none e hD)]; exact e⟩
    rcases z with z | z | z
    · exact h (.inl z)
    · exact h (.inr z)
    · subst z; exact n hD
  refine ⟨fun i m H => m = ds.length - i ∧ i ≤ ds.length ∧ ∃ κ2 s2 ys vs, ExR κ1 s1 H1 κ2 s2 H ∧ Held K g κ2 s2 (fun a => Z a ∨ a = D) H ∧ H D = some (.lst vs) ∧ Reps K g κ2 (pr κ2 s2 fun a => Z a ∨ a = D) H ys vs ∧ ys.length ≤ i ∧
      St κ2 (pr κ2 s2 fun a => Z a ∨ a = D) H ∧ ERep K g κ2 (pr κ2 s2 fun a => Z a ∨ a = D) H (wipe σ own) (wipeE ρ own) ∧
      PostG K g Z E κ1 s1 H1 ((compF Gt.set t elt (wipeE ρ own) (ds.drop i) s2).b fun zs s => .ok (.lst (ys ++ zs)) s) (OkD K g Z Q),
    ⟨ds.length, by simp, Nat.zero_le _, κ1, s1, [], [], ⟨⟨[], by simp⟩, fun _ h => .inl h, fun b o e _ => by rw [upd_ne (ne_of_none e hD)]; exact e, fun b n => ?_⟩, at1.held.protect hD (fun _ z => by cases z), upd_same, .nil, Nat.le_refl _, itf.keep _ _ _ _ _ _ (stD _) hr, (wipe_rep at1.env own).stays (stD _), ?_⟩, ?_⟩
  · by_cases q : b = D
    · subst q; exact absurd hD n
    · rw [upd_ne q]; exact n
  · simpa using p1
  rintro i m H2 ⟨rfl, hi2, κ2, s2, ys, vs, x2, hd2, hL, ry, hy, hr2, er2, p2⟩
  by_cases hlt : i < ds.length
  · right
    refine ⟨itf.go _ i κ2 s2 H2 hd2 hr2 hlt, fun H => i + 1 ≤ ds.length ∧ ∃ κ2 s2 ys vs, ExR κ1 s1 H1 κ2 s2 H ∧ Held K g κ2 s2 (fun a => Z a ∨ a = D) H ∧ H D = some (.lst vs) ∧ Reps K g κ2 (pr κ2 s2 fun a => Z a ∨ a = D) H ys vs ∧ ys.length ≤ i + 1 ∧
      St κ2 (pr κ2 s2 fun a => Z a ∨ a = D) H ∧ ERep K g κ2 (pr κ2 s2 fun a => Z a ∨ a = D) H (wipe σ own) (wipeE ρ own) ∧
      PostG K g Z E κ1 s1 H1 ((compF Gt.set t elt (wipeE ρ own) (ds.drop (i + 1)) s2).b fun zs s => .ok (.lst (ys ++ zs)) s) (OkD K g Z Q), fun H' n => ⟨ds.length - (i + 1), by omega, rfl, n⟩, fun x H3 y => ?_⟩
    have ei : ds[i]? = some ds[i] := by simp
    obtain ⟨x3, rx⟩ := itf.yld _ i _ κ2 s2 H2 x H3 hd2 hr2 ei y
    rw [List.drop_eq_getElem_cons hlt] at p2
    simp only [compF] at p2
    cases hg : Gt.set ds[i] (wipeE ρ own) with
    | none => rw [hg] at p2; exact p2.elim
    | some ρ3 =>
      rw [hg] at p2
      dsimp only at p2
      refine hG κ2 _ H3 _ _ ρ3 _ x _ (er2.stays x3.stays) rx hg fun σ3 er3 hw => ⟨(hw own hown).trans (wipe_wipe σ own own fun _ h => h), ht _ κ2 s2 H3 σ3 ρ3 _ ⟨er3, x3.held⟩ ?_⟩
      have p3 : PostG K g Z E κ1 s1 H1 ((t ρ3 s2).nx.b fun k s => (if k = true then (elt ρ3 s).nx.b fun y s => (compF Gt.set t elt (wipeE ρ own) (ds.drop (i + 1)) s).b fun ys' s => .ok (y :: ys') s else compF Gt.set t elt (wipeE ρ own) (ds.drop (i + 1)) s).b fun zs s => .ok (.lst (ys ++ zs)) s) (OkD K g Z Q) := by
        cases ht2 : t ρ3 s2 with
        | fail => rw [ht2] at p2; exact p2.elim
        | ok k s3 => rw [ht2] at p2; exact p2
        | exc x s3 => rw [ht2] at p2; exact p2.elim
      refine (PostG.mono (PostG.part p3) fun k κ4 s4 H4 x4 p4 => ?_)
      have x24 := x2.trans (x3.exr.trans x4.exr)
      have hD4 : H4 D = some (.lst vs) := x4.fr _ _ (x3.fr _ _ hL fun z => hd2.zdis D (.inr rfl) z) fun z => x3.held.zdis D (.inr rfl) z
      have st24 := x3.stays.trans x4.stays
      cases k with
      | false =>
        show if false = true then _ else _
        rw [if_neg Bool.false_ne_true]
        rw [if_neg Bool.false_ne_true] at p4
        exact ⟨hlt, κ4, s4, ys, vs, x24, x4.held, hD4, ry.stays st24, by omega, itf.keep _ _ _ _ _ _ st24 hr2, er2.stays st24, p4⟩
      | true =>
        show if true = true then _ else _
        rw [if_pos rfl]
        rw [if_pos rfl] at p4
        have p5 : PostG K g Z E κ1 s1 H1 ((elt ρ3 s4).nx.b fun y s => (compF Gt.set t elt (wipeE ρ own) (ds.drop (i + 1)) s).b fun zs s => .ok (.lst ((ys ++ [y]) ++ zs)) s) (OkD K g Z Q) := by
          cases he2 : elt ρ3 s4 with
          | fail => rw [he2] at p4; exact p4.elim
          | ok y s5 =>
            rw [he2] at p4
            simp only [R.nx_ok, R.b_ok] at p4 ⊢
            cases hc : compF Gt.set t elt (wipeE ρ own) (ds.drop (i + 1)) s5 with
            | fail => rw [hc] at p4; exact p4.elim
            | ok zs s6 => rw [hc] at p4; simp only [R.b_ok] at p4 ⊢; rw [List.append_assoc]; exact p4
            | exc x s6 => rw [hc] at p4; exact p4
          | exc x s5 => rw [he2] at p4; exact p4.elim
        refine fun sz4 => tD.mk (Z := fun a => Z a ∨ a = D) (κ := κ4) (s := s4) (ρ := ρ3) ⟨er3.stays x4.stays, x4.held⟩ (PostG.mono (PostG.part p5) fun y κ5 s5 H5 x5 p6 v rv => ?_) sz4
        have hz := itf.small κ4 _ H4 sz4 (itf.keep _ _ _ _ _ _ st24 hr2)
        have hD5 : H5 D = some (.lst vs) := x5.fr _ _ hD4 fun z => x4.held.zdis D (.inr rfl) z
        have st25 := st24.trans x5.stays
        have hvy := ry.length
        have sp : Stays κ5 κ5 (pr κ5 s5 fun a => Z a ∨ a = D) (pr κ5 s5 fun a => Z a ∨ a = D) H5 (upd H5 D (.lst (vs ++ [v]))) := Stays.upd (.inr (.inr rfl))
        refine ⟨vs, hD5, by omega, hlt, κ5, s5, ys ++ [y], vs ++ [v], ?_, x5.held.put (.inr rfl) (fun _ z => by cases z), upd_same, ((ry.stays st25).append (.cons rv .nil)).stays sp, by rw [List.length_append, List.length_singleton]; omega, itf.keep _ _ _ _ _ _ sp (itf.keep _ _ _ _ _ _ st25 hr2), (er2.stays st25).stays sp, p6⟩
        have x25 := x24.trans x5.exr
        refine ⟨x25.pre, x25.lv, fun b o e n => ?_, fun b n => ?_⟩
        · rw [upd_ne (ne_of_none e hD)]; exact x25.fr b o e n
        · by_cases q : b = D
          · subst q; rw [upd_same]; intro z; cases z
          · rw [upd_ne q]; exact x25.trk b n
  · left
    have e : i = ds.length := by omega
    subst e
    rw [List.drop_length] at p2
    refine ⟨itf.stop _ _ κ2 s2 H2 hd2 hr2 (Nat.le_refl _), ?_⟩
    have p3 : PostG K g Z E κ1 s1 H1 (.ok (.lst ys) s2) (OkD K g Z Q) := by simpa [compF] using p2
    refine p3 κ2 H2 ⟨x2.pre, x2.lv, x2.fr, x2.trk, hd2.less fun a z => .inl z⟩ _ ⟨D, vs, rfl, ?_, .inl hL, ry.stays (Stays.less fun a z => z.imp id .inl)⟩
    rintro (z | z)
    · exact hd2.zdis D (.inr rfl) z
    · exact at1.held.ztrk D z hD

theorem pd_lc {it : Ix} {wi : TI} {Gt : Tg} {gg : TG} {is own : List Nat} {elt : Ex} (hi : IOk K g E it wi) (hG : GOk K g Gt.set gg is) (hown : ∀ i ∈ is, i ∈ own) {tt : TT}
    (ht : HtOk K g t tt)
    (h : PE X e (tLc wi gg tt (tD K g E0 elt) own)) : PE X e (tD K g E (eLc own it Gt t elt)) := by
  refine PE.imp h fun σ H Q sz q => ?_
  obtain ⟨Z, κ, s, ρ, at0, p⟩ := q sz
  exact hi Z κ s H σ ρ _ at0 (PostG.mono (PostG.bind p) fun ds κ1 s1 H1 x1 p1 J St itf hr => lc_read itf hG hown ht (at0.ext x1) hr p1)
theorem lc_imp {it : Ix} {wi : TI} {Gt : Tg} {gg : TG} {is own : List Nat} {elt : Ex} (hi : IOk K g E it wi) (hG : GOk K g Gt.set gg is) (hown : ∀ i ∈ is, i ∈ own) {tt : TT}
    (ht : HtOk K g t tt) {σ : L2.St} {H : Hp} {Q : VK} (sz : Sz H) (q : tD K g E (eLc own it Gt t elt) σ H Q) : tLc wi gg tt (tD K g E0 elt) own σ H Q := by
  obtain ⟨Z, κ, s, ρ, at0, p⟩ := q sz
  exact hi Z κ s H σ ρ _ at0 (PostG.mono (PostG.bind p) fun ds κ1 s1 H1 x1 p1 J St itf hr => lc_read itf hG hown ht (at0.ext x1) hr p1)
/-- name = [..] on one line -/
theorem pst_setLc {it : Ix} {wi : TI} {Gt : Tg} {gg : TG} {is own : List Nat} {elt : Ex} {i : Nat} (hi : IOk K g E it wi) (hG : GOk K g Gt.set gg is) (hown : ∀ i ∈ is, i ∈ own) {tt : TT}
    (ht : HtOk K g t tt)
    (h : PS X st (tAsg (tLc wi gg tt (tD K g E0 elt) own) (gName i))) : PS X st (tS K g E (sSet (.name i) (eLc own it Gt t elt))) :=
  pst_set (g_name i) (PS.imp h fun Dn σ H sz q => lc_imp hi hG hown ht sz q)
/-! a dict's pairs, the dict locked meanwhile -/
structure Sim (H H' : Hp) : Prop where
  tup : ∀ a xs, H a = some (.tup xs) → H' a = some (.tup xs)
  lst : ∀ a xs, Rd H a (.lst xs) → Rd H' a (.lst xs)
  dT : ∀ a kvs, Rd H a (.dT kvs) → Rd H' a (.dT kvs)
  ins : ∀ a C dx fs, H a = some (.ins C dx fs) → H' a = some (.ins C dx fs)
mutual
theorem Rep.sim {L : Addr → Prop} (t : Sim H H') : ∀ {d : D} {v : V}, Rep K g κ L H d v → Rep K g κ L H' d v
  | .non, _, h => h
  | .bl _, _, h => h
  | .int _, _, h => h
  | .str _, _, h => h
  | .tup ds, v, h => by
    obtain ⟨a, vs, e, h, r⟩ := h
    exact ⟨a, vs, e, h.imp (fun h => ⟨t.tup _ _ h.1, h.2⟩) id, Reps.sim t r⟩
  | .lst ds, v, h => by
    obtain ⟨a, vs, e, hl, h, r⟩ := h
    exact ⟨a, vs, e, hl, t.lst _ _ h, Reps.sim t r⟩
  | .dic ks ds, v, h => by
    obtain ⟨a, kvs, e, hl, h, ek, r⟩ := h
    exact ⟨a, kvs, e, hl, t.dT _ _ h, ek, Reps.sim t r⟩
  | .obj c ks ds, v, h => by
    obtain ⟨a, dx, fs, e, hl, h, hc, ek, hk, r⟩ := h
    exact ⟨a, dx, fs, e, hl, t.ins _ _ _ _ h, hc, ek, hk, Reps.sim t r⟩
  | .cell k, v, h => h
  | .scr ns, v, h => by
    obtain ⟨a, e, h⟩ := h
    exact ⟨a, e, h.imp (fun h => ⟨h.1, t.lst _ _ h.2⟩) id⟩
theorem Reps.sim {L : Addr → Prop} (t : Sim H H') : ∀ {ds : List D} {vs : List V}, Reps K g κ L H ds vs → Reps K g κ L H' ds vs
  | [], _, h => h
  | d :: ds, vs, h => by
    obtain ⟨v, r, e, h1, h2⟩ := h
    exact ⟨v, r, e, Rep.sim t h1, Reps.sim t h2⟩
end
theorem sim_lock {d : Addr} {kvs : List (List Key × V)} {od : Obj} (h : H d = some (.dT kvs)) : Sim H (upd H d (.frz od (.dT kvs))) := by
  have ne : ∀ b o, H b = some o → (∀ kvs, o ≠ .dT kvs) → b ≠ d := fun b o e n z => by rw [z, h] at e; cases e; exact n _ rfl
  refine ⟨fun a xs e => by rw [upd_ne (ne a _ e fun _ z => nomatch z)]; exact e, fun a xs e => ?_, fun a kv e => ?_, fun a C dx fs e => by rw [upd_ne (ne a _ e fun _ z => nomatch z)]; exact e⟩
  · rcases e with e | ⟨o, e⟩
    · exact .inl (by rw [upd_ne (ne a _ e fun _ z => nomatch z)]; exact e)
    · exact .inr ⟨o, by rw [upd_ne (ne a _ e fun _ z => nomatch z)]; exact e⟩
  · by_cases q : a = d
    · subst q
      rcases e with e | ⟨o, e⟩
      · rw [h] at e; cases e; exact .inr ⟨od, upd_same⟩
      · rw [h] at e; cases e
    · rcases e with e | ⟨o, e⟩
      · exact .inl (by rw [upd_ne q]; exact e)
      · exact .inr ⟨o, by rw [upd_ne q]; exact e⟩
theorem sim_unlock {d : Addr} {kvs : List (List Key × V)} {od : Obj} (h : H d = some (.frz od (.dT kvs))) : Sim H (upd H d (.dT kvs)) := by
  have ne : ∀ b o, H b = some o → (∀ kvs, o ≠ .frz od (.dT kvs)) → b ≠ d := fun b o e n z => by rw [z, h] at e; cases e; exact n _ rfl
  refine ⟨fun a xs e => by rw [upd_ne (ne a _ e fun _ z => nomatch z)]; exact e, fun a xs e => ?_, fun a kv e => ?_, fun a C dx fs e => by rw [upd_ne (ne a _ e fun _ z => nomatch z)]; exact e⟩
  · rcases e with e | ⟨o, e⟩
    · exact .inl (by rw [upd_ne (ne a _ e fun _ z => nomatch z)]; exact e)
    · exact .inr ⟨o, by rw [upd_ne (ne a _ e fun _ z => nomatch z)]; exact e⟩
  · by_cases q : a = d
    · subst q
      rcases e with e | ⟨o, e⟩
      · rw [h] at e; cases e
      · rw [h] at e; cases e; exact .inl upd_same
    · rcases e with e | ⟨o, e⟩
      · exact .inl (by rw [upd_ne q]; exact e)
      · exact .inr ⟨o, by rw [upd_ne q]; exact e⟩
/-- one address outside the protected ones changes, nothing else -/
theorem Held.sim {d : Addr} {o : HO} (hd : Held K g κ s Z H) (nd : ¬ pr κ s Z d) (hn : H d ≠ none) (t : Sim H (upd H d o)) : Held K g κ s Z (upd H d o) := by
  have tr : ∀ a, H a ≠ none → upd H d o a ≠ none := fun a n => by
    by_cases q : a = d
    · subst q; rw [upd_same]; intro z; cases z
    · rw [upd_ne q]; exact n
  refine ⟨hd.len, hd.nd, fun a ha => tr a (hd.trk a ha), fun a ha => tr a (hd.ztrk a ha), hd.zdis, fun a ha xs => ?_, fun k a c e1 e2 => ?_⟩
  · rw [upd_ne (fun q => nd (by rw [← q]; exact .inr ha))]; exact hd.znt a ha xs
  · have na : c ≠ .dead → a ≠ d := fun hc q => nd (by rw [← q]; exact .inl ⟨k, c, e1, e2, hc⟩)
    have h := hd.ct k a c e1 e2
    cases c with
    | dead => exact h
    | lst xs => obtain ⟨vs, h1, h2⟩ := h; exact ⟨vs, by rw [upd_ne (na fun z => by cases z)]; exact h1, h2.sim t⟩
    | dic ks xs => obtain ⟨kvs, h1, h2, h3⟩ := h; exact ⟨kvs, by rw [upd_ne (na fun z => by cases z)]; exact h1, h2, h3.sim t⟩
    | obj c' ks xs => obtain ⟨dx, fs, h1, h2, h3, h4, h5⟩ := h; exact ⟨dx, fs, by rw [upd_ne (na fun z => by cases z)]; exact h1, h2, h3, h4, h5.sim t⟩
theorem kT_bel (k : List Key) (n : Nat) : (kT k).bel n = true := by
  show D.bels n (k.map kD) = true
  induction k with
  | nil => rfl
  | cons x r ih => show (D.bel n (kD x) && D.bels n (r.map kD)) = true; rw [ih]; cases x <;> rfl
theorem it_items {d : Addr} {o : Obj} {kvs : List (List Key × V)} {vs : List D} : ItF K g (ItiT d o kvs) (zipD (kvs.map fun p => kT p.1) vs) (fun κ L H => H d = some (.frz o (.dT kvs)) ∧ ¬ L d ∧ kvs.length ≤ sizeLine ∧ Reps K g κ L H vs (kvs.map (·.2))) where
  keep := fun _ _ _ _ _ _ t ⟨h1, h2, h3, h4⟩ => ⟨t.fr _ _ h1 h2, t.nl _ (some_ne h1) h2, h3, h4.stays t⟩
  small := fun κ L H sz ⟨h1, h2, h3, h4⟩ => by rw [zip_len, List.length_map]; omega
  stop := fun Z i κ s H hd ⟨h1, h2, h3, h4⟩ hi => by
    have l := h4.length
    rw [zip_len, List.length_map] at hi
    rw [List.length_map] at l
    exact ⟨h1, by omega⟩
  go := fun Z i κ s H hd ⟨h1, h2, h3, h4⟩ hi => by
    rw [zip_len, List.length_map] at hi
    exact ⟨h1, by omega⟩
  yld := fun Z i x κ s H v H' hd ⟨h1, h2, h3, h4⟩ ei y => by
    obtain ⟨T, k, u, q, hkv, rfl, hT, hq, rfl⟩ := y
    obtain ⟨dk, dv, e1, e2, rfl⟩ := zip_get ei
    rw [List.getElem?_map, hkv] at e1
    cases e1
    obtain ⟨w, ew, rw'⟩ := h4.get e2
    rw [List.getElem?_map, hkv] at ew
    cases ew
    refine ⟨Ext.lay hd hT, new_tup hd hT (.cons ⟨q, k.map kV, rfl, .inl ⟨hq, ?_⟩, ?_⟩ (.cons rw' .nil))⟩
    · rintro (z | z)
      · obtain ⟨j, c, c1, c2, c3⟩ := z
        have h := hd.ct j q c c1 c2
        cases c with
        | dead => exact c3 rfl
        | lst xs => obtain ⟨vs, g1, _⟩ := h; rw [hq] at g1; cases g1
        | dic ks xs => obtain ⟨kvs, g1, _⟩ := h; rw [hq] at g1; cases g1
        | obj c' ks xs => obtain ⟨dx, fs, g1, _⟩ := h; rw [hq] at g1; cases g1
      · exact hd.znt q z _ hq
    · have go : ∀ k : List Key, Reps K g κ (pr κ s Z) H (k.map kD) (k.map kV) := by
        intro k
        induction k with
        | nil => exact .nil
        | cons x r ih => exact .cons (by cases x <;> rfl) ih
      exact go k
/-- [e for .. in d.items() if t], d the name i -/
theorem pd_lcI {i : Nat} {Gt : Tg} {gg : TG} {is own : List Nat} {elt : Ex} (hG : GOk K g Gt.set gg is) (hown : ∀ i ∈ is, i ∈ own) {tt : TT} (ht : HtOk K g t tt)
    (h : PE X e (tLc (iItemsT (tVar i)) gg tt (tD K g E0 elt) own)) : PE X e (tD K g E (eLcI own i Gt t elt)) := by
  have h2 : PE X e (fun σ H Q => tLc (iItemsT (tVar i)) gg tt (tD K g E0 elt) own σ H Q ∨ tLockE (tLc (iItemsT (tVar i)) gg tt (tD K g E0 elt) own) σ H Q) :=
    ⟨fun pins s σ H Q I q => q.elim (h.run pins s σ H Q I) ((pe_lock h).run pins s σ H Q I)⟩
  refine PE.imp h2 fun σ H Q sz q => ?_
  obtain ⟨Z, κ, s, ρ, at0, p⟩ := q sz
  unfold eLcI at p
  cases hρ : ρ[i]? with
  | none => simp only [hρ] at p; exact p.elim
  | some od =>
    cases od with
    | none => simp only [hρ] at p; exact p.elim
    | some x =>
      cases x with
      | dic ks ds =>
        simp only [hρ] at p
        split at p
        · rename_i hz
          obtain ⟨v, ev, a, kvs, rfl, hl, hR, ek, rr⟩ := at0.env.at_ i _ hρ
          have hlen : kvs.length ≤ sizeLine := by
            have := rr.length
            rw [List.length_map] at this
            omega
          subst ek
          have at0' := at0
          rcases hR with hR | ⟨o, hR⟩
          · right
            refine ⟨a, .dT kvs, hR, True.intro, fun o => ?_⟩
            have S1 : Sim H (upd H a (.frz o (.dT kvs))) := sim_lock hR
            have heldL := at0.held.sim hl (some_ne hR) S1
            have atL : At K g Z κ s (upd H a (.frz o (.dT kvs))) σ ρ := ⟨⟨at0.env.len, fun j y e => let ⟨w, e1, e2⟩ := at0.env.at_ j y e; ⟨w, e1, e2.sim S1⟩⟩, heldL⟩
            refine ⟨_, ev, a, o, kvs, rfl, upd_same, lc_read (elt := elt) (t := t) (Q := fun v H' => H' a = some (.frz o (.dT kvs)) ∧ Q v (upd H' a (.dT kvs))) it_items hG hown ht atL ⟨upd_same, hl, hlen, rr.sim S1⟩ (E := E) ?_⟩
            cases hc : compF Gt.set t elt (wipeE ρ own) (zipD (kvs.map fun p => kT p.1) ds) s with
            | fail => rw [hc] at p; exact p.elim
            | exc x s2 => rw [hc] at p; exact p.elim
            | ok ys s2 =>
              rw [hc] at p
              intro κ2 H2 x2 w rw2
              have nl2 : ¬ pr κ2 s2 Z a := by
                rintro (z | z)
                · rcases x2.lv a z with z | z
                  · exact hl (.inl z)
                  · rw [upd_same] at z; cases z
                · exact hl (.inr z)
              have hH2 : H2 a = some (.frz o (.dT kvs)) := x2.fr a _ upd_same fun z => hl (.inl z)
              have S2 : Sim H2 (upd H2 a (.dT kvs)) := sim_unlock hH2
              refine ⟨hH2, p κ2 (upd H2 a (.dT kvs)) ⟨x2.pre, fun b z => ?_, fun b ob e n => ?_, fun b n => ?_, x2.held.sim nl2 (some_ne hH2) S2⟩ w (rw2.sim S2)⟩
              · rcases x2.lv b z with z | z
                · exact .inl z
                · right
                  by_cases q : b = a
                  · subst q; rw [upd_same] at z; cases z
                  · rw [upd_ne q] at z; exact z
              · by_cases q : b = a
                · subst q; rw [hR] at e; cases e; exact upd_same
                · rw [upd_ne q]; exact x2.fr b ob (by rw [upd_ne q]; exact e) n
              · by_cases q : b = a
                · subst q; rw [upd_same]; intro z; cases z
                · rw [upd_ne q]; exact x2.trk b (by rw [upd_ne q]; exact n)
          · left
            refine ⟨_, ev, a, o, kvs, rfl, hR, lc_read (elt := elt) (t := t) (Q := Q) it_items hG hown ht at0 ⟨hR, hl, hlen, rr⟩ (E := E) ?_⟩
            cases hc : compF Gt.set t elt (wipeE ρ own) (zipD (kvs.map fun p => kT p.1) ds) s with
            | fail => rw [hc] at p; exact p.elim
            | exc x s2 => rw [hc] at p; exact p.elim
            | ok ys s2 => rw [hc] at p; exact p
        · exact p.elim
      | _ => simp only [hρ] at p; exact p.elim
end
end
end CL
end
section
set_option Elab.async false
set_option linter.all false
set_option maxRecDepth 100000
/-! Cells: what is written in place, new instances, a def by its body. -/
namespace CL
open PySem PySem.Spec PyProof.Rows L2
section
variable {K : PySem.W.Frag} {g : Cfg} {Z : Addr → Prop} {E : XK} {κ κ' κ'' : List Addr} {s s' s'' : S} {H H' H'' : Hp} {σ : L2.St} {ρ : Env}
theorem pre_take (h : ∃ t, κ' = κ ++ t) : κ'.take κ.length = κ := by
  obtain ⟨t, rfl⟩ := h
  simp
theorem lv_take {n : Nat} {a : Addr} (h : lv (κ.take n) (s.take n) a) : lv κ s a := by
  obtain ⟨k, c, e1, e2, e3⟩ := h
  have hk : k < n := by
    have := (List.getElem?_eq_some_iff.mp e2).1
    rw [List.length_take] at this
    omega
  exact ⟨k, c, by rw [List.getElem?_take_of_lt hk] at e1; exact e1, by rw [List.getElem?_take_of_lt hk] at e2; exact e2, e3⟩
theorem CtR.bel {L : Addr → Prop} {a : Addr} {c : Ct} (h : CtR K g κ L H a c) : c.bel κ.length = true := by
  cases c with
  | dead => rfl
  | lst xs => obtain ⟨vs, h1, h2⟩ := h; exact Reps.bel h2
  | dic ks xs =>
    obtain ⟨kvs, h1, h2, h3⟩ := h
    show (D.bels _ ks && D.bels _ xs) = true
    rw [Reps.bel h3, Bool.and_true, h2]
    have kb : ∀ (l : List Key), D.bels κ.length (l.map kD) = true := by
      intro l
      induction l with
      | nil => rfl
      | cons x r ih => show (D.bel κ.length (kD x) && D.bels κ.length (r.map kD)) = true; rw [ih]; cases x <;> rfl
    clear h1 h2 h3
    induction kvs with
    | nil => rfl
    | cons x r ih => show (D.bels κ.length (x.1.map kD) && D.bels κ.length (r.map fun p => kT p.1)) = true; rw [ih, kb]; rfl
  | obj c' ks xs => obtain ⟨dx, fs, h1, h2, h3, h4, h5⟩ := h; exact Reps.bel h5
theorem CtR.take {L L' : Addr → Prop} {n : Nat} {a : Addr} {c : Ct} (hb : c.bel n = true) (hl : ∀ a, L' a → L a) (h : CtR K g κ L H a c) : CtR K g (κ.take n) L' H a c := by
  cases c with
  | dead => exact h
  | lst xs => obtain ⟨vs, h1, h2⟩ := h; exact ⟨vs, h1, (Reps.take hb h2).stays (Stays.less hl)⟩
  | dic ks xs =>
    obtain ⟨kvs, h1, h2, h3⟩ := h
    have hb' : (D.bels n ks && D.bels n xs) = true := hb
    exact ⟨kvs, h1, h2, (Reps.take (Bool.and_eq_true_iff.mp hb').2 h3).stays (Stays.less hl)⟩
  | obj c' ks xs => obtain ⟨dx, fs, h1, h2, h3, h4, h5⟩ := h; exact ⟨dx, fs, h1, h2, h3, h4, (Reps.take hb h5).stays (Stays.less hl)⟩
theorem Ext.cut (hd : Held K g κ s Z H) (x : Ext K g Z κ s H κ' s' H') (h : cutOk s.length s s' = true) : Ext K g Z κ s H κ (s'.take s.length) H' ∧ ∀ d v, d.bel s.length = true → Rep K g κ' (pr κ' s' Z) H' d v → Rep K g κ (pr κ (s'.take s.length) Z) H' d v := by
  have ek : κ'.take s.length = κ := by rw [← hd.len]; exact pre_take x.pre
  obtain ⟨h1, h2⟩ := Bool.and_eq_true_iff.mp (show (decide (s.length ≤ s'.length) && (decide (s'.take s.length = s) || (s'.take s.length).all (Ct.bel s.length))) = true from h)
  have hl : s.length ≤ s'.length := of_decide_eq_true h1
  have less : ∀ a, CL.lv κ (s'.take s.length) a → CL.lv κ' s' a := fun a z => by rw [← ek] at z; exact lv_take z
  have bel : ∀ (k : Nat) (c : Ct), (s'.take s.length)[k]? = some c → c.bel s.length = true := by
    intro k c e
    rcases Bool.or_eq_true_iff.mp h2 with q | q
    · have e2 : s'.take s.length = s := of_decide_eq_true q
      rw [e2] at e
      have hk := (List.getElem?_eq_some_iff.mp e).1
      have hk2 : k < κ.length := by rw [hd.len]; exact hk
      have ea : κ[k]? = some κ[k] := by simp
      have := (hd.ct k _ c ea e).bel
      rw [hd.len] at this
      exact this
    · exact List.all_eq_true.mp q c (List.mem_of_getElem? e)
  refine ⟨⟨⟨[], by simp⟩, fun a z => x.lv a (less a z), x.fr, x.trk, ⟨by rw [List.length_take, hd.len]; omega, hd.nd, fun a ha => x.held.trk a (by rw [← ek] at ha; exact List.mem_of_mem_take ha), x.held.ztrk, fun a z q => x.held.zdis a z (less a q), x.held.znt, fun k a c e1 e2 => ?_⟩⟩, fun d v hb r => ?_⟩
  · have e2' := e2
    have hk : k < s.length := by
      have := (List.getElem?_eq_some_iff.mp e2).1
      rw [List.length_take] at this
      omega
    rw [List.getElem?_take_of_lt hk] at e2
    have e1' : κ'[k]? = some a := by rw [← ek, List.getElem?_take_of_lt hk] at e1; exact e1
    have := (x.held.ct k a c e1' e2).take (bel k c e2') (L' := pr κ (s'.take s.length) Z) fun b z => z.imp (less b) id
    rw [ek] at this
    exact this
  · have := (Rep.take hb r).stays (Stays.less (L' := pr κ (s'.take s.length) Z) fun b z => z.imp (less b) id)
    rw [ek] at this
    exact this
theorem lv_app {p : Addr} {c : Ct} (hl : κ.length = s.length) {a : Addr} (h : lv (κ ++ [p]) (s ++ [c]) a) : lv κ s a ∨ a = p := by
  obtain ⟨k, c', e1, e2, e3⟩ := h
  by_cases hk : k < κ.length
  · rw [List.getElem?_append_left hk] at e1
    rw [List.getElem?_append_left (by omega)] at e2
    exact .inl ⟨k, c', e1, e2, e3⟩
  · right
    rw [List.getElem?_append_right (by omega)] at e1
    have : k - κ.length = 0 := by
      cases q : k - κ.length with
      | zero => rfl
      | succ n => rw [q] at e1; simp at e1
    rw [this] at e1
    simpa using e1.symm
/-- a new cell -/
theorem Ext.cell {p : Addr} {o : HO} {c : Ct} (hd : Held K g κ s Z H) (hp : H p = none) (hc : CtR K g (κ ++ [p]) (pr (κ ++ [p]) (s ++ [c]) Z) (upd H p o) p c) : Ext K g Z κ s H (κ ++ [p]) (s ++ [c]) (upd H p o) := by
  have np : p ∉ κ := fun z => hd.trk p z hp
  have tr : ∀ a, H a ≠ none → upd H p o a ≠ none := fun a n => by
    rw [upd_ne (fun q => n (by rw [q]; exact hp))]; exact n
  have st : Stays κ (κ ++ [p]) (pr κ s Z) (pr (κ ++ [p]) (s ++ [c]) Z) H (upd H p o) := by
    refine ⟨⟨[p], rfl⟩, fun a n h z => ?_, fun b u e _ => by rw [upd_ne (ne_of_none e hp)]; exact e⟩
    rcases z with z | z
    · rcases lv_app hd.len z with q | q
      · exact h (.inl q)
      · subst q; exact n hp
    · exact h (.inr z)
  refine ⟨⟨[p], rfl⟩, fun a z => ?_, fun b u e _ => by rw [upd_ne (ne_of_none e hp)]; exact e, tr, ⟨by rw [List.length_append, List.length_append, hd.len]; rfl, ?_, fun a ha => ?_, fun a z => tr a (hd.ztrk a z), fun a z q => ?_, fun a z xs => by rw [upd_ne (fun w => hd.ztrk a z (by rw [w]; exact hp))]; exact hd.znt a z xs, fun k a c' e1 e2 => ?_⟩⟩
  · rcases lv_app hd.len z with q | q
    · exact .inl q
    · subst q; exact .inr hp
  · rw [List.nodup_append]
    exact ⟨hd.nd, by simp, fun a ha b hb => by rw [List.mem_singleton.mp hb]; rintro rfl; exact np ha⟩
  · rcases List.mem_append.mp ha with q | q
    · exact tr a (hd.trk a q)
    · rw [List.mem_singleton.mp q, upd_same]; intro z; cases z
  · rcases lv_app hd.len q with q | q
    · exact hd.zdis a z q
    · subst q; exact hd.ztrk _ z hp
  · by_cases hk : k < κ.length
    · rw [List.getElem?_append_left hk] at e1
      rw [List.getElem?_append_left (by rw [← hd.len]; exact hk)] at e2
      exact (hd.ct k a c' e1 e2).stays st fun u e _ => by rw [upd_ne (fun q => np (by rw [← q]; exact List.mem_of_getElem? e1))]; exact e
    · have h0 : k = κ.length := by
        have := (List.getElem?_eq_some_iff.mp e1).1
        rw [List.length_append, List.length_singleton] at this
        omega
      subst h0
      rw [List.getElem?_append_right (Nat.le_refl _), Nat.sub_self] at e1
      rw [hd.len, List.getElem?_append_right (Nat.le_refl _), Nat.sub_self] at e2
      simp at e1 e2
      subst e1 e2
      exact hc
theorem lv_set {k : Nat} {c c0 : Ct} (h0 : s[k]? = some c0) (hn : c0 ≠ .dead) {a : Addr} (h : lv κ (s.set k c) a) : lv κ s a := by
  obtain ⟨j, c', e1, e2, e3⟩ := h
  by_cases hj : j = k
  · subst hj; exact ⟨j, c0, e1, h0, hn⟩
  · rw [List.getElem?_set_ne (Ne.symm hj)] at e2; exact ⟨j, c', e1, e2, e3⟩
/-- a cell is written -/
theorem Ext.setc {k : Nat} {p : Addr} {o : HO} {c c0 : Ct} (hd : Held K g κ s Z H) (hk : κ[k]? = some p) (h0 : s[k]? = some c0) (hn : c0 ≠ .dead) (hc : CtR K g κ (pr κ s Z) (upd H p o) p c) : Ext K g Z κ s H κ (s.set k c) (upd H p o) := by
  have hp : CL.lv κ s p := ⟨k, c0, hk, h0, hn⟩
  have tr : ∀ a, H a ≠ none → upd H p o a ≠ none := fun a n => by
    by_cases q : a = p
    · subst q; rw [upd_same]; intro z; cases z
    · rw [upd_ne q]; exact n
  have st : Stays κ κ (pr κ s Z) (pr κ (s.set k c) Z) H (upd H p o) :=
    (Stays.upd (.inl hp)).trans (Stays.less fun a z => z.imp (lv_set h0 hn) id)
  have st2 : Stays κ κ (pr κ s Z) (pr κ (s.set k c) Z) (upd H p o) (upd H p o) := Stays.less fun a z => z.imp (lv_set h0 hn) id
  refine ⟨⟨[], by simp⟩, fun a z => .inl (lv_set h0 hn z), fun b u e n => by rw [upd_ne (fun q => n (by rw [q]; exact hp))]; exact e, tr, ⟨by rw [List.length_set]; exact hd.len, hd.nd, fun a ha => tr a (hd.trk a ha), fun a z => tr a (hd.ztrk a z), fun a z q => hd.zdis a z (lv_set h0 hn q), fun a z xs => by rw [upd_ne (fun w => hd.zdis a z (by rw [w]; exact hp))]; exact hd.znt a z xs, fun j a c' e1 e2 => ?_⟩⟩
  by_cases hj : j = k
  · subst hj
    rw [List.getElem?_set_self (List.getElem?_eq_some_iff.mp h0).1] at e2
    cases e2
    rw [hk] at e1; cases e1
    exact hc.stays st2 fun _ e _ => e
  · rw [List.getElem?_set_ne (Ne.symm hj)] at e2
    have na : a ≠ p := fun q => hj ((List.getElem_inj hd.nd).mp ((List.getElem?_eq_some_iff.mp e1).2.trans (q.trans (List.getElem?_eq_some_iff.mp hk).2.symm)))
    exact (hd.ct j a c' e1 e2).stays st fun u e _ => by rw [upd_ne na]; exact e
section
variable {X : Cx} {st : Stmt} {e a b c : Expr} {f f1 f2 f3 : Ex} {F G : Sx} {t : Tx} {A1 : Ax} {φ : Fn} {n : Nat}
theorem pd_lstC (h : PE X e (tLst (tA K g E A1))) : PE X e (tD K g E (eLstC A1)) := by
  refine PE.imp h fun σ H Q sz q => ?_
  obtain ⟨Z, κ, s, ρ, at0, p⟩ := q sz
  refine tA.mk at0 (PostG.mono (PostG.bind p) fun xs κ1 s1 H1 x1 p1 vs rvs => ?_)
  split at p1
  · rename_i hz
    refine ⟨by rw [← rvs.length]; exact hz.1, fun q hq => ?_⟩
    have hd := x1.held
    have st : Stays κ1 (κ1 ++ [q]) (pr κ1 s1 Z) (pr (κ1 ++ [q]) (s1 ++ [.lst xs]) Z) H1 (upd H1 q (.lst vs)) := by
      refine ⟨⟨[q], rfl⟩, fun a n h z => ?_, fun b u e _ => by rw [upd_ne (ne_of_none e hq)]; exact e⟩
      rcases z with z | z
      · rcases lv_app hd.len z with w | w
        · exact h (.inl w)
        · subst w; exact n hq
      · exact h (.inr z)
    refine p1 (κ1 ++ [q]) _ (Ext.cell hd hq ⟨vs, upd_same, rvs.stays st⟩) _ ⟨q, rfl, ?_⟩
    rw [← hd.len, List.getElem?_append_right (Nat.le_refl _), Nat.sub_self]; rfl
  · exact p1.elim
theorem pd_dicC (h : PE X e tDNewT) : PE X e (tD K g E eDicC) := by
  refine PE.imp h fun σ H Q sz q => ?_
  obtain ⟨Z, κ, s, ρ, at0, p⟩ := q sz
  intro q hq
  have hd := at0.held
  refine p (κ ++ [q]) _ (Ext.cell hd hq ⟨[], upd_same, rfl, .nil⟩) _ ⟨q, rfl, ?_⟩
  rw [← hd.len, List.getElem?_append_right (Nat.le_refl _), Nat.sub_self]; rfl
theorem Stays.put {p : Addr} {o : HO} {k : Nat} {c0 c : Ct} (hk : κ[k]? = some p) (h0 : s[k]? = some c0) (hn : c0 ≠ .dead) : Stays κ κ (pr κ s Z) (pr κ s Z) H (L2.upd H p o) := Stays.upd (.inl ⟨k, c0, hk, h0, hn⟩)
theorem isL_rep {d : D} {v : V} (hd : Held K g κ s Z H) (r : Rep K g κ (pr κ s Z) H d v) (h : isL s d = true) : ∃ k a xs vs, d = .cell k ∧ v = .ref a ∧ κ[k]? = some a ∧ s[k]? = some (.lst xs) ∧ H a = some (.lst vs) ∧ Reps K g κ (pr κ s Z) H xs vs := by
  cases d with
  | cell k =>
    obtain ⟨a, ev, ek⟩ := r
    cases ec : s[k]? with
    | none => simp only [isL, ec] at h; cases h
    | some ct =>
      simp only [isL, ec] at h
      cases ct with
      | lst xs => obtain ⟨vs, h1, h2⟩ := hd.ct k a _ ek ec; exact ⟨k, a, xs, vs, rfl, ev, ek, ec, h1, h2⟩
      | _ => cases h
  | _ => cases h
theorem bel0_rep {d : D} {v : V} {L : Addr → Prop} (h : d.bel 0 = true) (r : Rep K g κ L H d v) : ∀ κ2, Rep K g κ2 L H d v := by
  intro κ2
  have := Rep.take h r
  rw [List.take_zero] at this
  have st : Stays [] κ2 L L H H := ⟨⟨κ2, by simp⟩, fun _ _ n => n, fun _ _ e _ => e⟩
  exact this.stays st
/-- xs.append(e) -/
theorem pst_app (h : PS X st (tDrop (tBM K "list" rAppend (tD K g E f1) (tCons (tD K g E f2) tNil)))) : PS X st (tS K g E (sApp f1 f2)) := by
  refine PS.imp h fun Dn σ H sz q => ?_
  obtain ⟨Z, κ, s, ρ, at0, p⟩ := q sz
  refine tD.mk at0 (PostG.mono (PostG.bind p) fun x κ1 s1 H1 x1 p1 v rv => ?_)
  split at p1
  · rename_i hx
    obtain ⟨k, a, xs, vs, rfl, rfl, ek, ec, h1, h2⟩ := isL_rep x1.held rv hx
    refine ⟨.inl ⟨rfl, _, .inl (.inl h1)⟩, tD.mk (at0.ext x1) (PostG.mono (PostG.bind p1) fun y κ2 s2 H2 x2 p2 u ru => ?_)⟩
    have rv2 := rv.stays x2.stays
    cases ec2 : s2[k]? with
    | none => simp only [ec2] at p2; exact p2.elim
    | some ct =>
      simp only [ec2] at p2
      cases ct with
      | lst xs2 =>
        simp only at p2
        split at p2
        · rename_i hz
          obtain ⟨a', ea, ek2⟩ := rv2
          cases ea
          obtain ⟨vs2, h3, h4⟩ := x2.held.ct k a _ ek2 ec2
          refine ⟨a, vs2, u, rfl, rfl, h3, by rw [← h4.length]; exact hz.1, ?_⟩
          have st := Stays.put (Z := Z) (H := H2) (o := .lst (vs2 ++ [u])) (c := .dead) ek2 ec2 (fun z => by cases z)
          have x3 : Ext K g Z κ2 s2 H2 κ2 (s2.set k (.lst (xs2 ++ [y]))) (upd H2 a (.lst (vs2 ++ [u]))) := Ext.setc x2.held ek2 ec2 (fun z => by cases z) ⟨_, upd_same, (h4.stays st).append (.cons (ru.stays st) .nil)⟩
          exact p2 κ2 _ x3 σ (at0.ext (x1.trans (x2.trans x3))).env
        · exact p2.elim
      | _ => exact p2.elim
  · exact p1.elim
/-- xs.pop(i) -/
theorem pd_popAt (h : PE X e (tBM K "list" rPopAt (tD K g E f1) (tCons (tD K g E f2) tNil))) : PE X e (tD K g E (ePopAt f1 f2)) := by
  refine PE.imp h fun σ H Q sz q => ?_
  obtain ⟨Z, κ, s, ρ, at0, p⟩ := q sz
  refine tD.mk at0 (PostG.mono (PostG.bind p) fun x κ1 s1 H1 x1 p1 v rv => ?_)
  split at p1
  · rename_i hx
    obtain ⟨k, a, xs, vs, rfl, rfl, ek, ec, h1, h2⟩ := isL_rep x1.held rv hx
    refine ⟨.inl ⟨rfl, _, .inl (.inl h1)⟩, fun sz1 => tD.mk (at0.ext x1) (PostG.mono (PostG.bind p1) fun y κ2 s2 H2 x2 p2 u ru => ?_) sz1⟩
    have rv2 := rv.stays x2.stays
    cases y with
    | int i =>
      cases ru
      cases ec2 : s2[k]? with
      | none => simp only [ec2] at p2; exact p2.elim
      | some ct =>
        simp only [ec2] at p2
        cases ct with
        | lst xs2 =>
          simp only at p2
          cases ej : ixN xs2.length i with
          | none => simp only [ej] at p2; exact p2.elim
          | some j =>
            simp only [ej] at p2
            cases ev : xs2[j]? with
            | none => simp only [ev] at p2; exact p2.elim
            | some w =>
              simp only [ev] at p2
              split at p2
              · rename_i hb
                obtain ⟨a', ea, ek2⟩ := rv2
                cases ea
                obtain ⟨vs2, h3, h4⟩ := x2.held.ct k a _ ek2 ec2
                obtain ⟨wv, ewv, rw'⟩ := h4.get ev
                have hl := h4.length
                rw [hl] at ej
                obtain ⟨i1, i2, i3, i4⟩ := ixN_seq ej
                have st := Stays.put (Z := Z) (H := H2) (o := .lst (vs2.eraseIdx j)) (c := .dead) ek2 ec2 (fun z => by cases z)
                have x3 : Ext K g Z κ2 s2 H2 κ2 (s2.set k (.lst (xs2.eraseIdx j))) (upd H2 a (.lst (vs2.eraseIdx j))) := Ext.setc x2.held ek2 ec2 (fun z => by cases z) ⟨_, upd_same, (h4.eraseIdx j).stays st⟩
                exact ⟨a, vs2, i, j, wv, rfl, rfl, h3, hb.2.1, hb.2.2, i1, ewv, p2 κ2 _ x3 wv (rw'.stays (Stays.put (Z := Z) (c := .dead) ek2 ec2 (fun z => by cases z) |>.trans (Stays.less fun b z => z.imp (lv_set ec2 (fun z => by cases z)) id)))⟩
              · exact p2.elim
        | _ => exact p2.elim
    | _ => exact p2.elim
  · exact p1.elim
/-- o.f = e -/
theorem pst_fld {c fl : Nat} (hc : Cls K (g.Γ c)) (hf : g.ok fl) (hn : NoAttr K (g.Γ c) (g.nm fl)) (h : PS X st (L2.sFld K (tD K g E f1) (tD K g E f2) (g.nm fl))) : PS X st (tS K g E (CL.sFld c f1 fl f2)) := by
  refine PS.imp h fun Dn σ H sz q => ?_
  obtain ⟨Z, κ, s, ρ, at0, p⟩ := q sz
  refine tD.mk at0 (PostG.mono (PostG.bind p) fun y κ1 s1 H1 x1 p1 u ru => ?_)
  refine tD.mk (at0.ext x1) (PostG.mono (PostG.bind p1) fun x κ2 s2 H2 x2 p2 v rv => ?_)
  cases x with
  | cell k =>
    obtain ⟨a, rfl, ek⟩ := rv
    cases ec : s2[k]? with
    | none => simp only [ec] at p2; exact p2.elim
    | some ct =>
      simp only [ec] at p2
      cases ct with
      | obj c' ks vs =>
        simp only at p2
        split at p2
        · rename_i hz
          obtain ⟨rfl, hl, hlv, hb⟩ := hz
          obtain ⟨dx, fs, h1, h2, h3, h4, h5⟩ := x2.held.ct k a _ ek ec
          have hfl : fs.length = ks.length := by simpa using congrArg List.length h3
          refine ⟨a, _, dx, fs, rfl, h1, hc, hn, by omega, ?_⟩
          have st := Stays.put (Z := Z) (H := H2) (o := .ins (g.Γ c') dx (putF (g.nm fl) u fs)) (c := .dead) ek ec (fun z => by cases z)
          have put : ∀ {ks : List Nat} {vs : List D} {fs : List (Str × V)}, fs.map (·.1) = ks.map g.nm → ks.length = vs.length → (∀ k ∈ ks, g.ok k ∧ NoAttr K (g.Γ c') (g.nm k)) → Reps K g κ2 (pr κ2 s2 Z) H2 vs (fs.map (·.2)) → 
              (putF (g.nm fl) u fs).map (·.1) = (fput ks vs fl y).1.map g.nm ∧ (∀ k ∈ (fput ks vs fl y).1, g.ok k ∧ NoAttr K (g.Γ c') (g.nm k)) ∧ Reps K g κ2 (pr κ2 s2 Z) H2 (fput ks vs fl y).2 ((putF (g.nm fl) u fs).map (·.2)) := by
            intro ks
            induction ks with
            | nil =>
              intro vs fs e1 e2 e3 e4
              cases fs with
              | nil =>
                cases vs with
                | nil => exact ⟨rfl, fun k hk => by rw [List.mem_singleton.mp hk]; exact ⟨hf, hn⟩, .cons (ru.stays x2.stays) .nil⟩
                | cons x r => cases e2
              | cons p r => cases e1
            | cons k r ih =>
              intro vs fs e1 e2 e3 e4
              cases fs with
              | nil => cases e1
              | cons p t =>
                cases vs with
                | nil => cases e2
                | cons x w =>
                  injection e1 with e5 e6
                  obtain ⟨v0, us, e7, r1, r2⟩ := e4
                  injection e7 with e8 e9
                  subst e8 e9
                  obtain ⟨q1, q2⟩ := p
                  have e5' : q1 = g.nm k := e5
                  subst e5'
                  by_cases hk : k = fl
                  · subst hk
                    have a1 : putF (g.nm k) u ((g.nm k, q2) :: t) = (g.nm k, u) :: t := by simp [putF]
                    have a2 : fput (k :: r) (x :: w) k y = (k :: r, y :: w) := by simp [fput]
                    rw [a1, a2]
                    exact ⟨by show _ :: _ = _ :: _; rw [e6], e3, .cons (ru.stays x2.stays) r2⟩
                  · have n : ¬ g.nm k = g.nm fl := fun z => hk (g.inj _ _ (e3 k (List.mem_cons_self ..)).1 hf z)
                    have a1 : putF (g.nm fl) u ((g.nm k, q2) :: t) = (g.nm k, q2) :: putF (g.nm fl) u t := by simp [putF, n]
                    have a2 : fput (k :: r) (x :: w) fl y = (k :: (fput r w fl y).1, x :: (fput r w fl y).2) := by simp [fput, hk]
                    rw [a1, a2]
                    obtain ⟨b1, b2, b3⟩ := ih e6 (by simpa using e2) (fun k hk => e3 k (List.mem_cons_of_mem _ hk)) r2
                    refine ⟨by show _ :: _ = _ :: _; rw [b1], fun j hj => ?_, .cons r1 b3⟩
                    rcases List.mem_cons.mp hj with q | q
                    · rw [q]; exact e3 k (List.mem_cons_self ..)
                    · exact b2 j q
          obtain ⟨b1, b2, b3⟩ := put h3 hlv h4 h5
          have x3 : Ext K g Z κ2 s2 H2 κ2 (s2.set k (.obj c' (fput ks vs fl y).1 (fput ks vs fl y).2)) (upd H2 a (.ins (g.Γ c') dx (putF (g.nm fl) u fs))) := Ext.setc x2.held ek ec (fun z => by cases z) ⟨dx, _, upd_same, hc, b1, b2, b3.stays st⟩
          exact p2 κ2 _ x3 σ (at0.ext (x1.trans (x2.trans x3))).env
        · exact p2.elim
      | _ => exact p2.elim
  | _ => exact p2.elim
/-- a def by its body -/
theorem sp_body {n all : Nat} {F : Sx} {N : List Str} {vs : List V} {Q : VK} {E : XK} (hN : N.length = all) (hn : n ≤ all) (h : spF K g n (runB n all F) vs H Q E) :
    tS K g E F { nx := fun _ H' => Q .non H', rt := Q } (L2.start N vs) H := by
  obtain ⟨hl, Z, κ, s, ds, hd, rs, p⟩ := h
  have hdl : ds.length = n := by rw [rs.length]; exact hl
  unfold runB at p
  rw [if_pos hdl] at p
  have er : ERep K g κ (pr κ s Z) H (L2.start N vs) (ds.map some ++ List.replicate (all - n) none) := by
    refine ⟨by unfold L2.start; simp [hN, hl, hdl], fun i d e => ?_⟩
    by_cases hi : i < ds.length
    · rw [List.getElem?_append_left (by simpa using hi), List.getElem?_map] at e
      obtain ⟨d', e1, e2⟩ := Option.map_eq_some_iff.mp e
      cases e2
      obtain ⟨v, e3, e4⟩ := rs.get e1
      refine ⟨v, ?_, e4⟩
      unfold L2.start
      rw [List.getElem?_append_left (by rw [List.length_map, hl, ← hdl]; exact hi), List.getElem?_map, e3]; rfl
    · rw [List.getElem?_append_right (by simpa using hi), List.getElem?_replicate] at e
      split at e <;> cases e
  refine tS.mk ⟨er, hd⟩ ?_
  cases hF : F (ds.map some ++ List.replicate (all - n) none) s with
  | fail => rw [hF] at p; exact p.elim
  | ok fl s2 =>
    rw [hF] at p
    cases fl with
    | nx ρ2 =>
      intro κ2 H2 x2 σ2 er2
      dsimp only at p
      split at p
      · rename_i hc
        obtain ⟨y1, y2⟩ := Ext.cut hd x2 hc
        exact p κ H2 y1 .non rfl
      · exact p.elim
    | ret d =>
      intro κ2 H2 x2 v rv
      dsimp only at p
      split at p
      · rename_i hc
        obtain ⟨hc1, hc2⟩ := Bool.and_eq_true_iff.mp hc
        obtain ⟨y1, y2⟩ := Ext.cut hd x2 hc1
        exact p κ H2 y1 v (y2 d v hc2 rv)
      · exact p.elim
    | bk ρ2 => exact p.elim
    | ct ρ2 => exact p.elim
  | exc x s2 =>
    rw [hF] at p
    intro C d κ2 H2 x2 xr
    dsimp only at p
    split at p
    · rename_i hc
      obtain ⟨hc1, hc2⟩ := Bool.and_eq_true_iff.mp hc
      obtain ⟨y1, y2⟩ := Ext.cut hd x2 hc1
      refine p C d κ H2 y1 ?_
      obtain ⟨h1, h2⟩ := xr
      refine ⟨h1, ?_⟩
      rcases h2 with h2 | ⟨a, fs, h3, h4, h5, h6, h7⟩
      · exact .inl h2
      · have go : ∀ {ds : List D} {vs : List V}, D.bels s.length ds = true → Reps K g κ2 (pr κ2 s2 Z) H2 ds vs → Reps K g κ (pr κ (s2.take s.length) Z) H2 ds vs := by
          intro ds
          induction ds with
          | nil => intro vs _ r; exact r
          | cons x r ih =>
            intro vs hb rr
            obtain ⟨v, us, e, r1, r2⟩ := rr
            obtain ⟨b1, b2⟩ := Bool.and_eq_true_iff.mp (show (D.bel _ x && D.bels _ r) = true from hb)
            exact ⟨v, us, e, y2 _ _ b1 r1, ih b2 r2⟩
        exact .inr ⟨a, fs, h3, h4, h5, h6, go hc2 h7⟩
    · exact p.elim
end
end
end CL
end
section
set_option Elab.async false
set_option linter.all false
set_option maxRecDepth 100000
/-! Defs: a def by its body; new instances; what is lent. -/
namespace CL
open PySem PySem.Spec PyProof.Rows L2
section
variable {K : PySem.W.Frag} {g : Cfg} {Z : Addr → Prop} {E : XK} {κ κ' κ'' : List Addr} {s s' s'' : S} {H H' H'' : Hp} {σ : L2.St} {ρ : Env}
/-- a def that lets no exception out -/
theorem fn_ok0 {P : Program} {w : World} {mg : Str → Option Value} {base : Heap} {x qual : Str} {params : Arguments} {body : List Stmt} {scope : Scope} {dvs : List V} {kws : List (Str × V)} {f : Addr} {fd : FuncData} {N ps : List Str} {k n all : Nat} {Fb : Sx}
    (F : FunD K x qual params body scope dvs kws f fd) (Sc : FnScope N ps scope) (hn : ps.length = n) (hall : N.length = all) (hle : n ≤ all)
    (hb : ∀ (cdv : Value) (A : Around) (outer : List PySem.Env) (s : Shared) (H : Hp) (E : XK), Room k (A.deeper (envOfC qual scope s.heap.objs.size f cdv)) → PSs (cxOf CX0 P w K mg base N qual scope f cdv A outer s H E).nox body (tS K g E Fb)) :
    FnOk P w K mg base CX0 (k + 1) f fd ps (spF K g n (runB n all Fb)) :=
  F.ok Sc (fun vs H Q E h => by rw [hn]; exact h.1) fun cdv A outer s H vs Q E hr h => ⟨_, (hb cdv A outer s H E hr).nox, sp_body hall hle h⟩
section
variable {X : Cx} {st : Stmt} {e a b c : Expr} {f f1 f2 f3 : Ex} {F G : Sx} {t : Tx} {A1 : Ax} {φ : Fn} {n : Nat}
/-- C(..) -/
theorem pd_make {c : Nat} (hc : Cls K (g.Γ c)) (h : PE X e (tMake (g.Γ c) (spF K g (n + 1) φ) [] E (tA K g E A1))) (hn : ∀ ds s, ds.length ≠ n + 1 → φ ds s = .fail) : PE X e (tD K g E (eMake c φ A1)) := by
  refine PE.imp h fun σ H Q sz q => ?_
  obtain ⟨Z, κ, s, ρ, at0, p⟩ := q sz
  refine tA.mk at0 (PostG.mono (PostG.bind p) fun ds κ1 s1 H1 x1 p1 vs rvs => ?_)
  intro x dx hx hdx hne
  have hd := x1.held
  have hl : (D.cell s1.length :: ds).length = n + 1 := by
    by_cases hl : (D.cell s1.length :: ds).length = n + 1
    · exact hl
    · rw [hn _ _ hl] at p1; exact p1.elim
  have xa : Ext K g Z κ1 s1 H1 κ1 s1 (upd H1 dx (.own x)) := Ext.lay hd hdx
  have hx' : upd H1 dx (.own x) x = none := by rw [upd_ne (Ne.symm hne)]; exact hx
  have xb : Ext K g Z κ1 s1 (upd H1 dx (.own x)) (κ1 ++ [x]) (s1 ++ [.obj c [] []]) (upd (upd H1 dx (.own x)) x (.ins (g.Γ c) dx [])) :=
    Ext.cell xa.held hx' ⟨dx, [], upd_same, hc, rfl, fun k hk => (by cases hk), Reps.nil⟩
  have xab := xa.trans xb
  have rs : Reps K g (κ1 ++ [x]) (pr (κ1 ++ [x]) (s1 ++ [.obj c [] []]) Z) (upd (upd H1 dx (.own x)) x (.ins (g.Γ c) dx [])) (D.cell s1.length :: ds) (.ref x :: vs) := by
    refine .cons ⟨x, rfl, ?_⟩ (rvs.stays xab.stays)
    rw [← hd.len, List.getElem?_append_right (Nat.le_refl _), Nat.sub_self]; rfl
  show spF K g (n + 1) φ (.ref x :: (vs ++ [])) _ _ E
  rw [List.append_nil]
  refine ⟨by rw [← rs.length]; exact hl, Z, _, _, _, xb.held, rs, ?_⟩
  cases hφ : φ (D.cell s1.length :: ds) (s1 ++ [.obj c [] []]) with
  | fail => rw [hφ] at p1; exact p1.elim
  | exc xc s2 => rw [hφ] at p1; exact fun C d κ2 H2 x2 xr => p1 C d κ2 H2 (xab.trans x2) xr
  | ok d s2 =>
    rw [hφ] at p1
    intro κ2 H2 x2 v rv
    have x12 := xab.trans x2
    have p2 : PostG K g Z E κ1 s1 H1 (if d = .non ∧ s2.length = s1.length + 1 then (match s2[s1.length]? with
      | some (.obj c' ks vs) => if (D.bels s1.length vs && (s2.take s1.length).all (Ct.bel s1.length)) = true ∨ (D.bels s1.length vs = true ∧ s2.take s1.length = s1) then (R.ok (.obj c' ks vs) (s2.take s1.length) : R D) else .fail
      | _ => .fail) else .fail) (OkD K g Z Q) := p1
    split at p2
    · rename_i hdn
      obtain ⟨rfl, hl2⟩ := hdn
      cases ec : s2[s1.length]? with
      | none => simp only [ec] at p2; exact p2.elim
      | some ct =>
        simp only [ec] at p2
        cases ct with
        | obj c' ks ws =>
          simp only at p2
          split at p2
          · rename_i hb
            refine ⟨rv, ?_⟩
            have hcut : cutOk s1.length s1 s2 = true := by
              unfold cutOk
              rw [decide_eq_true (by omega : s1.length ≤ s2.length), Bool.true_and]
              rcases hb with hb | hb
              · rw [(Bool.and_eq_true_iff.mp hb).2, Bool.or_true]
              · rw [decide_eq_true hb.2, Bool.true_or]
            have hbw : D.bels s1.length ws = true := by
              rcases hb with hb | hb
              · exact (Bool.and_eq_true_iff.mp hb).1
              · exact hb.1
            obtain ⟨y1, y2⟩ := Ext.cut hd x12 hcut
            have ex : κ2[s1.length]? = some x := by
              obtain ⟨u, eu⟩ := x2.pre
              rw [eu, List.getElem?_append_left (by rw [List.length_append, hd.len]; simp), ← hd.len, List.getElem?_append_right (Nat.le_refl _), Nat.sub_self]; rfl
            obtain ⟨dx', fs, h1, h2, h3, h4, h5⟩ := x2.held.ct _ x _ ex ec
            refine p2 κ1 H2 y1 _ ⟨x, dx', fs, rfl, ?_, h1, h2, h3, h4, ?_⟩
            · rintro (z | z)
              · obtain ⟨j, cc, ej, _⟩ := z
                exact hd.trk x (List.mem_of_getElem? ej) hx
              · exact hd.ztrk x z hx
            · have go : ∀ {ds : List D} {vs : List V}, D.bels s1.length ds = true → Reps K g κ2 (pr κ2 s2 Z) H2 ds vs → Reps K g κ1 (pr κ1 (s2.take s1.length) Z) H2 ds vs := by
                intro ds
                induction ds with
                | nil => intro vs _ r; exact r
                | cons x r ih =>
                  intro vs hb rr
                  obtain ⟨v, us, e, r1, r2⟩ := rr
                  obtain ⟨b1, b2⟩ := Bool.and_eq_true_iff.mp (show (D.bel _ x && D.bels _ r) = true from hb)
                  exact ⟨v, us, e, y2 _ _ b1 r1, ih b2 r2⟩
              exact go hbw h5
          · exact p2.elim
        | _ => exact p2.elim
    · exact p2.elim
theorem lv_dead {a : Addr} : ¬ lv κ (s.map fun _ => Ct.dead) a := by
  rintro ⟨k, c, _, e2, e3⟩
  rw [List.getElem?_map] at e2
  obtain ⟨x, _, e4⟩ := Option.map_eq_some_iff.mp e2
  exact e3 e4.symm
/-- f(.., x, ..), x a cell's list: lent to a def that writes nothing -/
theorem pd_lend {i : Nat} (h : PE X e (tCall (spF K g n φ) [] E (tA K g E A1))) (hn : ∀ ds s, ds.length ≠ n → φ ds s = .fail) : PE X e (tD K g E (eLend i φ A1)) := by
  refine PE.imp h fun σ H Q sz q => ?_
  obtain ⟨Z, κ, s, ρ, at0, p⟩ := q sz
  refine tA.mk at0 (PostG.mono (PostG.bind p) fun ds κ1 s1 H1 x1 p1 vs rvs => ?_)
  show spF K g n φ (vs ++ []) H1 Q E
  rw [List.append_nil]
  have hd := x1.held
  cases ed : ds[i]? with
  | none => rw [ed] at p1; exact p1.elim
  | some d =>
    rw [ed] at p1
    cases d with
    | cell k =>
      cases ec : s1[k]? with
      | none => simp only [ec] at p1; exact p1.elim
      | some ct =>
        simp only [ec] at p1
        cases ct with
        | lst xs =>
          simp only at p1
          obtain ⟨v0, ev, a, rfl, ek⟩ := rvs.get ed
          obtain ⟨ws, h1, h2⟩ := hd.ct k a _ ek ec
          have nd : Ct.lst xs ≠ .dead := fun z => by cases z
          have st : Stays κ1 κ1 (pr κ1 s1 Z) (pr κ1 (s1.map fun _ => Ct.dead) Z) H1 H1 := Stays.less fun x z => z.imp (fun z => absurd z lv_dead) id
          have nla : ¬ pr κ1 (s1.map fun _ => Ct.dead) Z a := by
            rintro (z | z)
            · exact lv_dead z
            · exact hd.zdis a z ⟨k, _, ek, ec, nd⟩
          have hd2 : Held K g κ1 (s1.map fun _ => Ct.dead) Z H1 := by
            refine ⟨by rw [List.length_map]; exact hd.len, hd.nd, hd.trk, hd.ztrk, fun x z q => lv_dead q, hd.znt, fun j x c e1 e2 => ?_⟩
            rw [List.getElem?_map] at e2
            obtain ⟨y, _, e4⟩ := Option.map_eq_some_iff.mp e2
            rw [← e4]; exact True.intro
          have rs : Reps K g κ1 (pr κ1 (s1.map fun _ => Ct.dead) Z) H1 (ds.set i (.lst xs)) vs := by
            have r1 := (rvs.stays st).set (d := .lst xs) (v := .ref a) i ⟨a, ws, rfl, nla, .inl h1, h2.stays st⟩
            have e2 : vs.set i (.ref a) = vs := by
              apply List.ext_getElem?
              intro j
              by_cases hj : j = i
              · subst hj; rw [List.getElem?_set_self (List.getElem?_eq_some_iff.mp ev).1, ev]
              · rw [List.getElem?_set_ne (Ne.symm hj)]
            rw [e2] at r1
            exact r1
          have hl : (ds.set i (.lst xs)).length = n := by
            by_cases hl : (ds.set i (.lst xs)).length = n
            · exact hl
            · rw [hn _ _ hl] at p1; exact p1.elim
          refine ⟨by rw [← rs.length]; exact hl, Z, κ1, _, _, hd2, rs, ?_⟩
          cases hφ : φ (ds.set i (.lst xs)) (s1.map fun _ => Ct.dead) with
          | fail => rw [hφ] at p1; exact p1.elim
          | exc xc s2 => rw [hφ] at p1; exact p1.elim
          | ok d s2 =>
            rw [hφ] at p1
            simp only at p1
            split at p1
            · rename_i hz
              obtain ⟨rfl, hp⟩ := hz
              intro κ2 H2 x2 v rv
              have e2 : κ2 = κ1 := by
                obtain ⟨u, eu⟩ := x2.pre
                have l1 := x2.held.len
                rw [List.length_map] at l1
                have l2 := hd.len
                have l3 := congrArg List.length eu
                rw [List.length_append] at l3
                have : u = [] := List.eq_nil_of_length_eq_zero (by omega)
                rw [eu, this, List.append_nil]
              subst e2
              have bk : ∀ b o, H1 b = some o → H2 b = some o := fun b o e => x2.fr b o e lv_dead
              have st3 : Stays κ2 κ2 (pr κ2 s1 Z) (pr κ2 s1 Z) H1 H2 := ⟨⟨[], by simp⟩, fun _ _ n => n, fun b o e _ => bk b o e⟩
              have htup : ∀ b, pr κ2 s1 Z b → ¬ pr κ2 (s1.map fun _ => Ct.dead) Z b → ∀ zs, H2 b ≠ some (.tup zs) := by
                intro b z1 z2 zs e
                rcases z1 with ⟨j, c, e1, e2, e3⟩ | z1
                · have h := hd.ct j b c e1 e2
                  cases c with
                  | dead => exact e3 rfl
                  | lst ys => obtain ⟨us2, g3, g4⟩ := h; rw [bk _ _ g3] at e; cases e
                  | dic ks ys => obtain ⟨kvs, g3, _⟩ := h; rw [bk _ _ g3] at e; cases e
                  | obj c' ks ys => obtain ⟨dx, fs, g3, _⟩ := h; rw [bk _ _ g3] at e; cases e
                · exact z2 (.inr z1)
              have hd3 : Held K g κ2 s1 Z H2 := ⟨hd.len, hd.nd, fun b hb => x2.trk b (hd.trk b hb), fun b z => x2.trk b (hd.ztrk b z), hd.zdis, x2.held.znt, fun j b c e1 e2 => (hd.ct j b c e1 e2).stays st3 fun o e _ => bk _ _ e⟩
              exact p1 κ2 H2 ⟨⟨[], by simp⟩, fun _ z => .inl z, fun b o e _ => bk b o e, x2.trk, hd3⟩ v (Rep.pure htup hp rv)
            · exact p1.elim
        | _ => exact p1.elim
    | _ => exact p1.elim
end
end
end CL
end
section
set_option Elab.async false
set_option linter.all false
set_option maxRecDepth 100000
/-! Ops3: built-ins, subscripts, dicts. -/
namespace CL
open PySem PySem.Spec PyProof.Rows L2
section
variable {K : PySem.W.Frag} {g : Cfg} {Z : Addr → Prop} {E : XK} {κ κ' κ'' : List Addr} {s s' s'' : S} {H H' H'' : Hp} {σ : L2.St} {ρ : Env}
theorem ls_rep {d : D} {v : V} {xs : List D} (hd : Held K g κ s Z H) (r : Rep K g κ (pr κ s Z) H d v) (h : lsOf s d = some xs) : ∃ a vs, v = .ref a ∧ SqL K H a vs ∧ Rd H a (.lst vs) ∧ Reps K g κ (pr κ s Z) H xs vs := by
  cases d with
  | lst ys => cases h; obtain ⟨a, vs, ev, _, h1, h2⟩ := r; exact ⟨a, vs, ev, .inl h1, h1, h2⟩
  | cell k =>
    obtain ⟨a, ev, ek⟩ := r
    cases ec : s[k]? with
    | none => simp only [lsOf, ec] at h; cases h
    | some ct =>
      simp only [lsOf, ec] at h
      cases ct with
      | lst ys => cases h; obtain ⟨vs, h1, h2⟩ := hd.ct k a _ ek ec; exact ⟨a, vs, ev, SqL.of h1, .inl h1, h2⟩
      | _ => cases h
  | _ => cases h
theorem sq_rep {d : D} {v : V} {xs : List D} (hd : Held K g κ s Z H) (r : Rep K g κ (pr κ s Z) H d v) (h : seqOf s d = some xs) : ∃ a vs, v = .ref a ∧ (SqL K H a vs ∨ (SqT K H a vs ∧ d = .tup xs)) ∧ Reps K g κ (pr κ s Z) H xs vs := by
  cases d with
  | tup ys => cases h; obtain ⟨a, vs, ev, h1, h2⟩ := r; exact ⟨a, vs, ev, .inr ⟨sqT_of h1, rfl⟩, h2⟩
  | lst ys => cases h; obtain ⟨a, vs, ev, _, h1, h2⟩ := r; exact ⟨a, vs, ev, .inl (.inl h1), h2⟩
  | scr ns =>
    cases h
    obtain ⟨a, ev, h1⟩ := r
    refine ⟨a, ns.map V.int, ev, .inl ?_, ?_⟩
    · rcases h1 with ⟨_, h1⟩ | h1
      · exact .inl h1
      · exact .inr h1
    · clear h1
      induction ns with
      | nil => exact .nil
      | cons x t ih => exact .cons rfl ih
  | cell k =>
    obtain ⟨a, ev, ek⟩ := r
    cases ec : s[k]? with
    | none => simp only [seqOf, ec] at h; cases h
    | some ct =>
      simp only [seqOf, ec] at h
      cases ct with
      | lst ys => cases h; obtain ⟨vs, h1, h2⟩ := hd.ct k a _ ek ec; exact ⟨a, vs, ev, .inl (SqL.of h1), h2⟩
      | _ => cases h
  | _ => cases h
/-- one argument -/
abbrev r1 (r : List V → Hp → VK → Prop) : V → Hp → VK → Prop := fun v H Q => r [v] H Q
abbrev r2 (r : List V → Hp → VK → Prop) : V → V → Hp → VK → Prop := fun v w H Q => r [v, w] H Q
theorem u_neg : U1 K g negD (rU fun i => .int (-i)) := by
  intro Z κ s H d d' v Q hd r e q
  cases d with
  | int i => cases r; cases e; exact ⟨i, rfl, q.here hd rfl⟩
  | _ => cases e
theorem u_abs : U1 K g abs1D (r1 fun xs H Q => ∃ i, xs = [.int i] ∧ Q (.int (if i < 0 then -i else i)) H) := by
  intro Z κ s H d d' v Q hd r e q
  cases d with
  | int i => cases r; cases e; exact ⟨i, rfl, q.here hd rfl⟩
  | _ => cases e
theorem u_int1 : U1 K g int1D (r1 fun xs H Q => (∃ i, xs = [.int i] ∧ Q (.int i) H) ∨ ∃ k, xs = [.bl k] ∧ Q (.int (if k then 1 else 0)) H) := by
  intro Z κ s H d d' v Q hd r e q
  cases d with
  | int i => cases r; cases e; exact .inl ⟨i, rfl, q.here hd rfl⟩
  | bl k => cases r; cases e; exact .inr ⟨k, rfl, q.here hd rfl⟩
  | _ => cases e
theorem u_len : U1 K g lenD (r1 fun xs H Q => ∃ x n, xs = [x] ∧ LenV K x H n ∧ Q (.int n) H) := by
  intro Z κ s H d d' v Q hd r e q
  have seq : ∀ xs, seqOf s d = some xs → d' = .int xs.length → ∃ x n, [v] = [x] ∧ LenV K x H n ∧ Q (.int n) H := by
    rintro xs h rfl
    obtain ⟨a, vs, rfl, h1, h2⟩ := sq_rep hd r h
    refine ⟨_, vs.length, rfl, ?_, q.here hd (by show _ = _; rw [h2.length])⟩
    rcases h1 with h1 | ⟨h1, _⟩
    · exact .inl ⟨vs, h1, rfl⟩
    · exact .inr ⟨vs, h1, rfl⟩
  cases d with
  | str z =>
    cases r
    obtain ⟨h, rfl⟩ := ite_some e
    exact ⟨_, z.length, rfl, ⟨h, rfl⟩, q.here hd rfl⟩
  | _ =>
    simp only [lenD] at e
    obtain ⟨xs, e1, e2⟩ := Option.map_eq_some_iff.mp e
    exact seq xs e1 e2.symm
theorem u_list : U1 K g listD (r1 fun xs H Q => ∃ p ys, xs = [.ref p] ∧ (SqL K H p ys ∨ SqT K H p ys) ∧ ∀ l, H l = none → Q (.ref l) (upd H l (.lst ys))) := by
  intro Z κ s H d d' v Q hd r e q
  obtain ⟨xs, e1, rfl⟩ := Option.map_eq_some_iff.mp e
  obtain ⟨a, vs, rfl, h1, h2⟩ := sq_rep hd r e1
  exact ⟨a, vs, rfl, h1.imp id (·.1), fun l hl => q κ _ (Ext.lay hd hl) _ (new_lst hd hl h2)⟩
theorem u_tuple : U1 K g tupleD (r1 fun xs H Q => ∃ p ys, xs = [.ref p] ∧ ((SqL K H p ys ∧ ∀ l, H l = none → Q (.ref l) (upd H l (.tup ys))) ∨ (SqT K H p ys ∧ Q (.ref p) H))) := by
  intro Z κ s H d d' v Q hd r e q
  obtain ⟨xs, e1, rfl⟩ := Option.map_eq_some_iff.mp e
  obtain ⟨a, vs, rfl, h1, h2⟩ := sq_rep hd r e1
  refine ⟨a, vs, rfl, ?_⟩
  rcases h1 with h1 | ⟨h1, rfl⟩
  · exact .inl ⟨h1, fun l hl => q κ _ (Ext.lay hd hl) _ (new_tup hd hl h2)⟩
  · exact .inr ⟨h1, q.here hd r⟩
theorem ints_rep : ∀ {xs : List D} {vs : List V} {ns : List Int}, Reps K g κ (pr κ s Z) H xs vs → intsD xs = some ns → vs = ns.map V.int
  | [], _, _, r, e => by cases (show _ = _ from r); cases e; rfl
  | d :: ds, _, ns, r, e => by
    obtain ⟨v, us, rfl, r1, r2⟩ := r
    cases d with
    | int i =>
      obtain ⟨ms, e1, rfl⟩ := Option.map_eq_some_iff.mp (show (intsD ds).map _ = some ns from e)
      cases r1
      rw [ints_rep r2 e1]; rfl
    | _ => cases e
theorem bols_rep : ∀ {xs : List D} {vs : List V} {ns : List Bool}, Reps K g κ (pr κ s Z) H xs vs → bolsD xs = some ns → vs = ns.map V.bl
  | [], _, _, r, e => by cases (show _ = _ from r); cases e; rfl
  | d :: ds, _, ns, r, e => by
    obtain ⟨v, us, rfl, r1, r2⟩ := r
    cases d with
    | bl i =>
      obtain ⟨ms, e1, rfl⟩ := Option.map_eq_some_iff.mp (show (bolsD ds).map _ = some ns from e)
      cases r1
      rw [bols_rep r2 e1]; rfl
    | _ => cases e
theorem reps_ints : ∀ (ns : List Int), Reps K g κ (pr κ s Z) H (ns.map D.int) (ns.map V.int)
  | [] => .nil
  | i :: r => .cons rfl (reps_ints r)
theorem insI_perm (x : Int) : ∀ l : List Int, (insI x l).Perm (x :: l)
  | [] => .refl _
  | y :: r => by
    unfold insI
    split
    · exact .refl _
    · exact ((insI_perm x r).cons y).trans (.swap x y r)
theorem sortI_perm : ∀ l : List Int, (sortI l).Perm l
  | [] => .refl _
  | x :: r => (insI_perm x (sortI r)).trans ((sortI_perm r).cons x)
theorem insI_sorted (x : Int) : ∀ l : List Int, l.Pairwise (· ≤ ·) → (insI x l).Pairwise (· ≤ ·)
  | [], _ => by simp [insI]
  | y :: r, h => by
    unfold insI
    rw [List.pairwise_cons] at h
    split
    · rename_i hxy
      rw [List.pairwise_cons]
      refine ⟨fun z hz => ?_, by rw [List.pairwise_cons]; exact h⟩
      rcases List.mem_cons.mp hz with rfl | hz
      · exact hxy
      · exact Int.le_trans hxy (h.1 z hz)
    · rename_i hxy
      rw [List.pairwise_cons]
      refine ⟨fun z hz => ?_, insI_sorted x r h.2⟩
      rcases List.mem_cons.mp ((insI_perm x r).mem_iff.mp hz) with rfl | hz
      · omega
      · exact h.1 z hz
theorem sortI_sorted : ∀ l : List Int, (sortI l).Pairwise (· ≤ ·)
  | [] => .nil
  | x :: r => insI_sorted x _ (sortI_sorted r)
theorem sorted_eq {l m : List Int} (hp : l.Perm m) (hl : l.Pairwise (· ≤ ·)) (hm : m.Pairwise (· ≤ ·)) : l = m := by
  induction l generalizing m with
  | nil => exact (List.Perm.nil_eq hp)
  | cons x r ih =>
    cases m with
    | nil => exact absurd hp.symm.nil_eq (by simp)
    | cons y q =>
      rw [List.pairwise_cons] at hl hm
      have h1 : x ≤ y := by
        rcases List.mem_cons.mp (hp.symm.mem_iff.mp (List.mem_cons_self (a := y) (l := q))) with h | h
        · omega
        · exact hl.1 y h
      have h2 : y ≤ x := by
        rcases List.mem_cons.mp (hp.mem_iff.mp (List.mem_cons_self (a := x) (l := r))) with h | h
        · omega
        · exact hm.1 x h
      have e : x = y := by omega
      subst e
      rw [ih (List.Perm.cons_inv hp) hl.2 hm.2]
theorem u_sort : U1 K g sortD (r1 (rSortedI K)) := by
  intro Z κ s H d d' v Q hd r e q
  obtain ⟨xs, e1, e2⟩ := Option.bind_eq_some_iff.mp e
  obtain ⟨ns, e3, rfl⟩ := Option.map_eq_some_iff.mp e2
  obtain ⟨a, vs, rfl, h1, _, h2⟩ := ls_rep hd r e1
  have := ints_rep h2 e3
  subst this
  refine ⟨a, ns, rfl, h1, fun ns' p hp hs hn => ?_⟩
  have e4 : ns' = sortI ns := sorted_eq (hp.trans (sortI_perm ns).symm) hs (sortI_sorted ns)
  subst e4
  exact q κ _ (Ext.lay hd hn) _ (new_lst hd hn (reps_ints _))
theorem foldl_max : ∀ (l : List Int) (x : Int), (l.foldl (fun a b => if b > a then b else a) x) ∈ x :: l ∧ ∀ y ∈ x :: l, y ≤ l.foldl (fun a b => if b > a then b else a) x
  | [], x => by simp
  | z :: r, x => by
    obtain ⟨h1, h2⟩ := foldl_max r (if z > x then z else x)
    rw [List.foldl_cons]
    constructor
    · rcases List.mem_cons.mp h1 with h | h
      · rw [h]; split <;> simp
      · exact List.mem_cons_of_mem _ (List.mem_cons_of_mem _ h)
    · intro y hy
      have h3 := h2 _ (List.mem_cons_self ..)
      rcases List.mem_cons.mp hy with rfl | hy
      · split at h3 <;> split <;> omega
      · rcases List.mem_cons.mp hy with rfl | hy
        · split at h3 <;> split <;> omega
        · exact h2 y (List.mem_cons_of_mem _ hy)
theorem foldl_min : ∀ (l : List Int) (x : Int), (l.foldl (fun a b => if b < a then b else a) x) ∈ x :: l ∧ ∀ y ∈ x :: l, l.foldl (fun a b => if b < a then b else a) x ≤ y
  | [], x => by simp
  | z :: r, x => by
    obtain ⟨h1, h2⟩ := foldl_min r (if z < x then z else x)
    rw [List.foldl_cons]
    constructor
    · rcases List.mem_cons.mp h1 with h | h
      · rw [h]; split <;> simp
      · exact List.mem_cons_of_mem _ (List.mem_cons_of_mem _ h)
    · intro y hy
      have h3 := h2 _ (List.mem_cons_self ..)
      rcases List.mem_cons.mp hy with rfl | hy
      · split at h3 <;> split <;> omega
      · rcases List.mem_cons.mp hy with rfl | hy
        · split at h3 <;> split <;> omega
        · exact h2 y (List.mem_cons_of_mem _ hy)
theorem u_max : U1 K g maxD (r1 (rMax K)) := by
  intro Z κ s H d d' v Q hd r e q
  obtain ⟨xs, e1, e2⟩ := Option.bind_eq_some_iff.mp e
  obtain ⟨ns, e3, e4⟩ := Option.bind_eq_some_iff.mp e2
  obtain ⟨m, e5, rfl⟩ := Option.map_eq_some_iff.mp e4
  obtain ⟨a, vs, rfl, h1, _, h2⟩ := ls_rep hd r e1
  have := ints_rep h2 e3
  subst this
  cases ns with
  | nil => cases e5
  | cons x t =>
    cases e5
    obtain ⟨f1, f2⟩ := foldl_max t x
    refine ⟨a, x :: t, rfl, h1, by simp, fun m hm hle => ?_⟩
    have : m = t.foldl (fun a b => if b > a then b else a) x := by have := hle _ f1; have := f2 _ hm; omega
    subst this
    exact q.here hd rfl
theorem u_min : U1 K g minD (r1 (rMin K)) := by
  intro Z κ s H d d' v Q hd r e q
  obtain ⟨xs, e1, e2⟩ := Option.bind_eq_some_iff.mp e
  obtain ⟨ns, e3, e4⟩ := Option.bind_eq_some_iff.mp e2
  obtain ⟨m, e5, rfl⟩ := Option.map_eq_some_iff.mp e4
  obtain ⟨a, vs, rfl, h1, _, h2⟩ := ls_rep hd r e1
  have := ints_rep h2 e3
  subst this
  cases ns with
  | nil => cases e5
  | cons x t =>
    cases e5
    obtain ⟨f1, f2⟩ := foldl_min t x
    refine ⟨a, x :: t, rfl, h1, by simp, fun m hm hle => ?_⟩
    have : m = t.foldl (fun a b => if b < a then b else a) x := by have := hle _ f1; have := f2 _ hm; omega
    subst this
    exact q.here hd rfl
theorem u_any : U1 K g anyD (r1 (rAny K)) := by
  intro Z κ s H d d' v Q hd r e q
  obtain ⟨xs, e1, e2⟩ := Option.bind_eq_some_iff.mp e
  obtain ⟨ns, e3, rfl⟩ := Option.map_eq_some_iff.mp e2
  obtain ⟨a, vs, rfl, h1, _, h2⟩ := ls_rep hd r e1
  have := bols_rep h2 e3
  subst this
  exact ⟨a, ns, rfl, h1, q.here hd rfl⟩
theorem u_all : U1 K g allD (r1 (rAll K)) := by
  intro Z κ s H d d' v Q hd r e q
  obtain ⟨xs, e1, e2⟩ := Option.bind_eq_some_iff.mp e
  obtain ⟨ns, e3, rfl⟩ := Option.map_eq_some_iff.mp e2
  obtain ⟨a, vs, rfl, h1, _, h2⟩ := ls_rep hd r e1
  have := bols_rep h2 e3
  subst this
  exact ⟨a, ns, rfl, h1, q.here hd rfl⟩
theorem b_min2 : B2 K g min2D (r2 fun xs H Q => ∃ i j, xs = [.int i, .int j] ∧ Q (.int (if j < i then j else i)) H) := by
  intro Z κ s H d1 d2 d' v1 v2 Q hd r1 r2 e q
  cases d1 with
  | int i => cases d2 with
    | int j => cases r1; cases r2; cases e; exact ⟨i, j, rfl, q.here hd rfl⟩
    | _ => cases e
  | _ => cases e
theorem b_max2 : B2 K g max2D (r2 fun xs H Q => ∃ i j, xs = [.int i, .int j] ∧ Q (.int (if j > i then j else i)) H) := by
  intro Z κ s H d1 d2 d' v1 v2 Q hd r1 r2 e q
  cases d1 with
  | int i => cases d2 with
    | int j => cases r1; cases r2; cases e; exact ⟨i, j, rfl, q.here hd rfl⟩
    | _ => cases e
  | _ => cases e
theorem reps_at {xs : List D} {vs : List V} {i : Int} {d : D} (r : Reps K g κ (pr κ s Z) H xs vs) (h : atI xs i = some d) : ∃ v, atI vs i = some v ∧ Rep K g κ (pr κ s Z) H d v := by
  unfold atI at h ⊢
  rw [← r.length]
  obtain ⟨j, h1, h2⟩ := Option.bind_eq_some_iff.mp h
  obtain ⟨v, h3, h4⟩ := r.get h2
  exact ⟨v, by rw [h1]; exact h3, h4⟩
theorem b_ix : B2 K g ixD (fun x y H Q => rIxL K x y H Q ∨ rIxT K x y H Q) := by
  intro Z κ s H d1 d2 d' v1 v2 Q hd r1 r2 e q
  cases d2 with
  | int i =>
    obtain ⟨xs, e1, e2⟩ := Option.bind_eq_some_iff.mp (show (seqOf s d1).bind _ = some d' from e)
    obtain ⟨a, vs, rfl, h1, h2⟩ := sq_rep hd r1 e1
    obtain ⟨w, e3, r3⟩ := reps_at h2 e2
    cases r2
    rcases h1 with h1 | ⟨h1, _⟩
    · exact .inl ⟨a, vs, i, w, rfl, rfl, h1, e3, q.here hd r3⟩
    · exact .inr ⟨a, vs, i, w, rfl, rfl, h1, e3, q.here hd r3⟩
  | _ => cases e
end
end CL
end
section
set_option Elab.async false
set_option linter.all false
set_option maxRecDepth 100000
/-! Ops4: slices, dicts, isinstance, max with a default, starred arguments, keyword makes. -/
namespace L2
open PySem PySem.Spec PyProof.Rows
section
variable {X : Cx} {x : Str} {pos : Pos}
/-- a built-in class's name -/
theorem pe_ty {T : String} (hg : Gl X x) (hm : X.mg x = none) (hv : bootBuiltins x = some (.type T)) (hn : x ≠ "__name__" := by decide) (hd : (x == ("__debug__" : Str)) = false := by decide) : PE X (.Name x pos) (tC (.ty T)) :=
  ⟨fun _ _ _ H _ I h => ld_blt I hg hm hv ⟨.ty T, H, I, rfl, h⟩ hn hd⟩
/-- max(xs, default=d), ints -/
def rMaxDef (K : PySem.W.Frag) : List V → List V → Hp → VK → Prop := fun vs zs H Q => ∃ (a : Addr) (ns : List Int) (d : V), vs = [V.ref a] ∧ zs = [d] ∧ SqL K H a (ns.map V.int) ∧ (ns = [] → Q d H) ∧ (0 < ns.length → ∀ m, m ∈ ns → (∀ y, y ∈ ns → y ≤ m) → Q (.int m) H)
theorem reads_ints {h : Heap} : ∀ {us : List Value} {ns : List Int}, Vals (ns.map V.int) us → ReadsAll h us (ns.map PyData.int) []
  | _, [], r => by cases r; exact .nil
  | _, n :: ns, r => by
    cases r with
    | cons r1 r2 =>
      obtain ⟨t, rfl⟩ := r1
      exact ReadsAll.cons (as := []) (bs := []) (Reads.int n t) (reads_ints r2)
theorem depth_ints : ∀ ns : List Int, PyData.depthAll (ns.map PyData.int) = 0
  | [] => rfl
  | n :: ns => by show max _ _ = 0; rw [depth_ints ns]; rfl
theorem cr_maxDef (hc : X.calm = true) (hu : X.A.units + 1 < cLine) : CallRK X (.builtin "max") [Str.ofString "default"] (rMaxDef X.K) := by
  intro pins s σ H vs zs us ws Q I r rz h
  obtain ⟨a, ns, d, rfl, rfl, hs, q0, q1⟩ := h
  obtain rfl := Vals.ref1 r
  obtain ⟨w1, rfl, e1⟩ := vals1 rz
  obtain ⟨its, rv, hl, hz⟩ := I.list hs
  have hr := reads_ints (h := s.heap) rv
  refine PySem.W.max_list_default (I.ok.hd hc) hl.isList (xs := ns.map PyData.int) (as := []) (by simpa using hr) ⟨fun x hx y hy => ?_, fun x hx => ?_⟩ (by rw [depth_ints]; omega) (fun hn h' tk hk => ⟨d, H, I.kept (t' := tk) hk, e1, q0 (by simpa using hn)⟩) fun y ys i v h' tk bs he hv hrd hk => ?_
  · obtain ⟨m, _, rfl⟩ := List.mem_map.mp hx
    obtain ⟨n, _, rfl⟩ := List.mem_map.mp hy
    rfl
  · obtain ⟨m, _, rfl⟩ := List.mem_map.mp hx
    intro z; cases z
  · cases ns with
    | nil => cases he
    | cons n ns =>
      injection he with he1 he2
      subst he1 he2
      rw [PySem.W.maxD_ints] at hrd
      cases hrd with
      | int =>
        refine ⟨.int (ns.foldl max n), H, I.kept (t' := tk) hk, ⟨_, rfl⟩, q1 (by simp) _ ?_ ?_⟩
        · have go : ∀ (l : List Int) (x : Int), l.foldl max x ∈ x :: l := by
            intro l
            induction l with
            | nil => intro x; simp
            | cons z t ih =>
              intro x
              rw [List.foldl_cons]
              rcases List.mem_cons.mp (ih (max x z)) with e | e
              · rw [e]
                by_cases hxz : x ≤ z
                · rw [Int.max_eq_right hxz]; simp
                · rw [Int.max_eq_left (by omega)]; simp
              · exact List.mem_cons_of_mem _ (List.mem_cons_of_mem _ e)
          exact go ns n
        · have go : ∀ (l : List Int) (x y : Int), y ∈ x :: l → y ≤ l.foldl max x := by
            intro l
            induction l with
            | nil => intro x y hy; simp at hy; simp [hy]
            | cons z t ih =>
              intro x y hy
              rw [List.foldl_cons]
              have h0 := ih (max x z) (max x z) (List.mem_cons_self ..)
              rcases List.mem_cons.mp hy with rfl | hy
              · omega
              · rcases List.mem_cons.mp hy with rfl | hy
                · omega
                · exact ih _ y (List.mem_cons_of_mem _ hy)
          exact go ns n
end
end L2
namespace CL
open PySem PySem.Spec PyProof.Rows L2
section
variable {K : PySem.W.Frag} {g : Cfg} {Z : Addr → Prop} {E : XK} {κ κ' κ'' : List Addr} {s s' s'' : S} {H H' H'' : Hp} {σ : L2.St} {ρ : Env}
theorem PO.imp {X : Cx} {e : Option Expr} {t t' : TO} (h : PO X e t) (i : ∀ σ H Q, Sz H → t' σ H Q → t σ H Q) : PO X e t' := ⟨fun pins s σ H Q I q => h.run pins s σ H Q I (i σ H Q (sz_of I) q)⟩
def tO (K : PySem.W.Frag) (g : Cfg) (E : XK) (f : Ox) : TO := fun σ H Q => Sz H → ∃ Z κ s ρ, At K g Z κ s H σ ρ ∧ PostG K g Z E κ s H (f ρ s) (fun o _ _ H => Q o H)
theorem tO.mk {f : Ox} {Q : Option Int → Hp → Prop} (a : At K g Z κ s H σ ρ) (p : PostG K g Z E κ s H (f ρ s) (fun o _ _ H => Q o H)) : tO K g E f σ H Q := fun _ => ⟨Z, κ, s, ρ, a, p⟩
section
variable {X : Cx} {st : Stmt} {e a b c : Expr} {f f1 f2 f3 : Ex} {F G : Sx} {t : Tx} {A1 A2 : Ax} {φ : Fn} {n : Nat} {lo hi : Ox}
theorem po_no : PO X none (tO K g E oNo) := by
  refine PO.imp po_none fun σ H Q sz q => ?_
  obtain ⟨Z, κ, s, ρ, at0, p⟩ := q sz
  exact p κ H (.refl at0.held)
theorem po_at (h : PE X e (tD K g E f)) : PO X (some e) (tO K g E (oAt f)) := by
  refine PO.imp (po_some h) fun σ H Q sz q => ?_
  obtain ⟨Z, κ, s, ρ, at0, p⟩ := q sz
  refine tD.mk at0 (PostG.mono (PostG.bind p) fun x κ1 s1 H1 x1 p1 v rv => ?_)
  cases x with
  | int i => cases rv; exact ⟨i, rfl, p1 κ1 H1 (.refl x1.held)⟩
  | _ => exact p1.elim
theorem cut_rep {xs : List D} {vs : List V} (r : Reps K g κ (pr κ s Z) H xs vs) (lo hi : Option Int) : Reps K g κ (pr κ s Z) H (cutD xs lo hi) (cutV vs lo hi) := by
  unfold cutD cutV
  rw [r.length]
  exact (r.drop _).take' _
theorem pd_sl (h : PE X e (tSl (fun x l u H Q => rSlL K x l u H Q ∨ rSlA K x l u H Q) (tD K g E f) (tO K g E lo) (tO K g E hi))) : PE X e (tD K g E (eSl f lo hi)) := by
  refine PE.imp h fun σ H Q sz q => ?_
  obtain ⟨Z, κ, s, ρ, at0, p⟩ := q sz
  refine tD.mk at0 (PostG.mono (PostG.bind p) fun x κ1 s1 H1 x1 p1 v rv => ?_)
  refine tO.mk (at0.ext x1) (PostG.mono (PostG.bind p1) fun l κ2 s2 H2 x2 p2 => ?_)
  refine tO.mk (at0.ext (x1.trans x2)) (PostG.mono (PostG.bind p2) fun u κ3 s3 H3 x3 p3 => ?_)
  have rv3 := rv.stays (x2.stays.trans x3.stays)
  obtain ⟨d', e', _, q'⟩ := p3.of x3.held
  have lst : ∀ (xs : List D) (a : Addr) (vs : List V), v = .ref a → SqL K H3 a vs → Reps K g κ3 (pr κ3 s3 Z) H3 xs vs → d' = .lst (cutD xs l u) → rSlL K v l u H3 Q := by
    rintro xs a vs rfl hs ra rfl
    exact ⟨a, vs, rfl, hs, fun p hp => q' κ3 _ (Ext.lay x3.held hp) _ (new_lst x3.held hp (cut_rep ra l u))⟩
  cases x with
  | tup xs =>
    cases e'
    obtain ⟨a, vs, rfl, h1, ra⟩ := rv3
    refine .inr ⟨a, vs, rfl, sqT_of h1, fun hw => ?_, fun hw p hp => q' κ3 _ (Ext.lay x3.held hp) _ (new_tup x3.held hp (cut_rep ra l u))⟩
    refine q' κ3 H3 (.refl x3.held) _ ?_
    have hl := ra.length
    have e1 : cutD xs l u = xs := by
      unfold cutD
      rw [hl, hw.1, hw.2, List.drop_zero, Nat.sub_zero, ← hl, List.take_length]
    rw [e1]
    exact ⟨a, vs, rfl, h1, ra⟩
  | lst xs =>
    cases e'
    obtain ⟨a, vs, rfl, _, h1, ra⟩ := rv3
    exact .inl (lst xs a vs rfl (.inl h1) ra rfl)
  | cell k =>
    obtain ⟨a, ev, ek⟩ := rv3
    cases ec : s3[k]? with
    | none => simp only [slD, ec] at e'; cases e'
    | some ct =>
      simp only [slD, ec] at e'
      cases ct with
      | lst xs => cases e'; obtain ⟨vs, h1, h2⟩ := x3.held.ct k a _ ek ec; exact .inl (lst xs a vs ev (SqL.of h1) h2 rfl)
      | _ => cases e'
  | _ => cases e'
/-- min(a, b, c) -/
theorem pd_min3 (h : PE X e (tCB (rNuC3 nuMin3) (tCons (tD K g E f1) (tCons (tD K g E f2) (tCons (tD K g E f3) tNil))))) : PE X e (tD K g E (eMin3 f1 f2 f3)) := by
  refine PE.imp h fun σ H Q sz q => ?_
  obtain ⟨Z, κ, s, ρ, at0, p⟩ := q sz
  refine tD.mk at0 (PostG.mono (PostG.bind p) fun x κ1 s1 H1 x1 p1 v rv => ?_)
  refine tD.mk (at0.ext x1) (PostG.mono (PostG.bind p1) fun y κ2 s2 H2 x2 p2 u ru => ?_)
  refine tD.mk (at0.ext (x1.trans x2)) (PostG.mono (PostG.bind p2) fun z κ3 s3 H3 x3 p3 w rw' => ?_)
  cases x with
  | int i => cases y with
    | int j => cases z with
      | int k =>
        cases rv; cases ru; cases rw'
        refine ⟨_, _, _, .int (if k < (if j < i then j else i) then k else (if j < i then j else i)), rfl, ?_, p3 κ3 H3 (.refl x3.held) _ rfl⟩
        have m2 : ∀ a b : Int, nuMin2 (.int a) (.int b) = some (.int (if b < a then b else a)) := by
          intro a b
          unfold nuMin2
          by_cases hab : b < a <;> simp [nuLt, nuCB, hab]
        show (nuMin2 (.int i) (.int j)).bind _ = _
        rw [m2, Option.bind_some, m2]
      | _ => exact p3.elim
    | _ => exact p3.elim
  | _ => exact p3.elim
/-- y in d -/
theorem pd_din (h : PE X e (tDIn (tD K g E f1) (tD K g E f2))) : PE X e (tD K g E (e2 dinD f1 f2)) := by
  refine PE.imp h fun σ H Q sz q => ?_
  obtain ⟨Z, κ, s, ρ, at0, p⟩ := q sz
  refine tD.mk at0 (PostG.mono (PostG.bind p) fun x κ1 s1 H1 x1 p1 v rv => ?_)
  refine tD.mk (at0.ext x1) (PostG.mono (PostG.bind p1) fun y κ2 s2 H2 x2 p2 u ru => ?_)
  obtain ⟨d', e', _, q'⟩ := p2.of x2.held
  unfold dinD at e'
  split at e'
  · rename_i hk
    obtain ⟨⟨ks, ds⟩, e3, rfl⟩ := Option.map_eq_some_iff.mp e'
    obtain ⟨k, b, rfl, rfl, hb⟩ := key_tup (rv.stays x2.stays) hk
    obtain ⟨a, kvs, rfl, h1, rfl, h3⟩ := dic_rep x2.held ru e3
    have hf := dfind_of (k := k) h3
    refine ⟨a, valV kvs k, rfl, .inr ⟨kvs, k, b, h1, rfl, hb, rfl⟩, ?_⟩
    refine q' κ2 H2 (.refl x2.held) _ ?_
    show _ = _
    cases hd : dfind (kvs.map fun p => kT p.1) ds (kT k) with
    | none => rw [hd] at hf; rw [show valV kvs k = none from hf]; rfl
    | some d => rw [hd] at hf; obtain ⟨w, e4, _⟩ := hf; rw [e4]; rfl
  · cases e'
/-- isinstance(x, T) -/
theorem ty_rep {d : D} {v : V} {t : String} {d' : D} (hd : Held K g κ s Z H) (r : Rep K g κ (pr κ s Z) H d v) (ht : t = "int" ∨ t = "bool" ∨ t = "str" ∨ t = "tuple" ∨ t = "list") (e : isTyD t s d = some d') :
    ∃ (b : Bool) (u : Value), d' = .bl b ∧ TyX K H v u ∧ PySem.W.kitOne K u (.type t) = some b := by
  have kit : ∀ (n : String) (b : Bool), kitB n t = some b → PySem.W.kitOne K (.type n) (.type t) = some b := fun n b h => kit_ty h
  cases d with
  | non => cases r; cases e; refine ⟨_, _, rfl, .base .non, kit _ _ ?_⟩; rcases ht with rfl | rfl | rfl | rfl | rfl <;> decide +kernel
  | bl b => cases r; cases e; refine ⟨_, _, rfl, .base (.bl b), kit _ _ ?_⟩; rcases ht with rfl | rfl | rfl | rfl | rfl <;> decide +kernel
  | int i => cases r; cases e; refine ⟨_, _, rfl, .base (.int i), kit _ _ ?_⟩; rcases ht with rfl | rfl | rfl | rfl | rfl <;> decide +kernel
  | str x => cases r; cases e; refine ⟨_, _, rfl, .base (.str x), kit _ _ ?_⟩; rcases ht with rfl | rfl | rfl | rfl | rfl <;> decide +kernel
  | tup xs =>
    cases e
    obtain ⟨a, vs, rfl, h1, ra⟩ := r
    refine ⟨_, .type "tuple", rfl, ?_, kit _ _ ?_⟩
    · rcases h1 with ⟨h1, _⟩ | ⟨_, o, its, n, h1, h2, _⟩
      · exact .base (.tup h1)
      · exact .kTuple h1 h2
    · rcases ht with rfl | rfl | rfl | rfl | rfl <;> decide +kernel
  | lst xs =>
    cases e
    obtain ⟨a, vs, rfl, _, h1, ra⟩ := r
    refine ⟨_, .type "list", rfl, ?_, kit _ _ ?_⟩
    · rcases h1 with h1 | ⟨o, h1⟩
      · exact .base (.lst h1)
      · exact .base (.frz h1)
    · rcases ht with rfl | rfl | rfl | rfl | rfl <;> decide +kernel
  | cell k =>
    obtain ⟨a, rfl, ek⟩ := r
    cases ec : s[k]? with
    | none => simp only [isTyD, ec] at e; cases e
    | some ct =>
      simp only [isTyD, ec] at e
      cases ct with
      | lst xs =>
        cases e
        obtain ⟨vs, h1, h2⟩ := hd.ct k a _ ek ec
        refine ⟨_, .type "list", rfl, .base (.lst h1), kit _ _ ?_⟩
        rcases ht with rfl | rfl | rfl | rfl | rfl <;> decide +kernel
      | _ => cases e
  | _ => cases e
theorem pd_isty {t : String} (ht : t = "int" ∨ t = "bool" ∨ t = "str" ∨ t = "tuple" ∨ t = "list") (h : PE X e (tCB (rIsi K) (tCons (tD K g E f) (tCons (tC (.ty t)) tNil)))) : PE X e (tD K g E (e1 (isTyD t) f)) := by
  refine PE.imp h fun σ H Q sz q => ?_
  obtain ⟨Z, κ, s, ρ, at0, p⟩ := q sz
  refine tD.mk at0 (PostG.mono (PostG.bind p) fun x κ1 s1 H1 x1 p1 v rv => ?_)
  obtain ⟨d', e', _, q'⟩ := p1.of x1.held
  obtain ⟨b, u, rfl, h1, h2⟩ := ty_rep x1.held rv ht e'
  exact ⟨v, .ty t, u, .type t, b, rfl, .ty t, h1, h2, q' κ1 H1 (.refl x1.held) _ rfl⟩
/-- max(xs, default=y) -/
theorem pd_maxdef (h : PE X e (tCKw (rMaxDef K) (tCons (tD K g E f1) tNil) (tCons (tD K g E f2) tNil))) : PE X e (tD K g E (e2 maxDefD f1 f2)) := by
  refine PE.imp h fun σ H Q sz q => ?_
  obtain ⟨Z, κ, s, ρ, at0, p⟩ := q sz
  refine tD.mk at0 (PostG.mono (PostG.bind p) fun x κ1 s1 H1 x1 p1 v rv => ?_)
  refine tD.mk (at0.ext x1) (PostG.mono (PostG.bind p1) fun y κ2 s2 H2 x2 p2 u ru => ?_)
  obtain ⟨d', e', _, q'⟩ := p2.of x2.held
  obtain ⟨xs, e1, e2⟩ := Option.bind_eq_some_iff.mp e'
  obtain ⟨ns, e3, e4⟩ := Option.bind_eq_some_iff.mp e2
  obtain ⟨a, vs, rfl, h1, _, h2⟩ := ls_rep x2.held (rv.stays x2.stays) e1
  have := ints_rep h2 e3
  subst this
  refine ⟨a, ns, u, rfl, rfl, h1, fun hn => ?_, fun hn m hm hle => ?_⟩
  · subst hn; cases e4; exact q' κ2 H2 (.refl x2.held) _ ru
  · cases ns with
    | nil => cases hn
    | cons z t =>
      cases e4
      obtain ⟨f1, f2⟩ := foldl_max t z
      have : m = t.foldl (fun a b => if b > a then b else a) z := by have := hle _ f1; have := f2 _ hm; omega
      subst this
      exact q' κ2 H2 (.refl x2.held) _ rfl
/-- *x ahead of the others -/
theorem pda_star {es : List Expr} (h : PA X es (StX.tStar K (tD K g E f) (tA K g E A1))) : PA X es (tA K g E (aStar f A1)) := by
  refine PA.imp h fun σ H Q sz q => ?_
  obtain ⟨Z, κ, s, ρ, at0, p⟩ := q sz
  refine tD.mk at0 (PostG.mono (PostG.bind p) fun x κ1 s1 H1 x1 p1 v rv => ?_)
  have fin : ∀ (ys : List D) (a : Addr) (vs : List V), v = .ref a → (SqT K H1 a vs ∨ SqL K H1 a vs) → Reps K g κ1 (pr κ1 s1 Z) H1 ys vs → PostG K g Z E κ1 s1 H1 ((A1 ρ s1).b fun xs s => .ok (ys ++ xs) s) (OkA K g Z Q) → 
      ∃ p xs, v = V.ref p ∧ (SqT K H1 p xs ∨ SqL K H1 p xs) ∧ tA K g E A1 σ H1 fun ys H2 => Q (xs ++ ys) H2 := by
    rintro ys a vs rfl hs ra p2
    refine ⟨a, vs, rfl, hs, tA.mk (at0.ext x1) (PostG.mono (PostG.bind p2) fun xs κ2 s2 H2 x2 p3 ws rws => ?_)⟩
    exact p3 κ2 H2 (.refl x2.held) _ ((ra.stays x2.stays).append rws)
  cases x with
  | tup ys => obtain ⟨a, vs, rfl, h1, ra⟩ := rv; exact fin ys a vs rfl (.inl (sqT_of h1)) ra p1
  | lst ys => obtain ⟨a, vs, rfl, _, h1, ra⟩ := rv; exact fin ys a vs rfl (.inr (.inl h1)) ra p1
  | _ => exact p1.elim
/-- C(.., k = v, ..), all keywords written in the parameters' order -/
theorem pd_makeK {c j : Nat} (hc : Cls K (g.Γ c)) (h : PE X e (tMakeK (g.Γ c) n j (spF K g (n + j + 1) φ) (fun vs zs => vs ++ zs) E (tA K g E A1) (tA K g E A2)))
    (hn : ∀ ds s, ds.length ≠ n + j + 1 → φ ds s = .fail) (h1 : ∀ ρ s ds s', A1 ρ s = .ok ds s' → ds.length = n) (h2 : ∀ ρ s ds s', A2 ρ s = .ok ds s' → ds.length = j) : PE X e (tD K g E (eMakeK c φ A1 A2)) := by
  have h0 : PE X e (tMake (g.Γ c) (spF K g (n + j + 1) φ) [] E (fun σ H Q => tA K g E A1 σ H fun vs H1 => tA K g E A2 σ H1 fun zs H2 => vs.length = n ∧ zs.length = j ∧ Q (vs ++ zs) H2)) := by
    refine PE.imp h fun σ H Q sz q sz1 => ?_
    obtain ⟨Z, κ, s, ρ, at0, p⟩ := q sz1
    refine ⟨Z, κ, s, ρ, at0, PostG.mono p fun ds κ1 s1 H1 x1 p1 vs rvs sz2 => ?_⟩
    obtain ⟨Z, κ, s, ρ, at0, p⟩ := p1 vs rvs sz2
    refine ⟨Z, κ, s, ρ, at0, PostG.mono p fun ds κ2 s2 H2 x2 p2 ws rws => ?_⟩
    obtain ⟨l1, l2, q⟩ := p2 ws rws
    refine ⟨l1, l2, fun x dx hx hdx hne => ?_⟩
    have q2 := q x dx hx hdx hne
    rw [List.append_nil] at q2
    exact q2
  refine pd_make hc (n := n + j) (A1 := fun ρ s => (A1 ρ s).b fun xs s => (A2 ρ s).b fun ys s => .ok (xs ++ ys) s) (PE.imp h0 fun σ H Q sz q => ?_) hn
  intro sz1
  obtain ⟨Z, κ, s, ρ, at0, p⟩ := q sz1
  refine ⟨Z, κ, s, ρ, at0, ?_⟩
  have p1 := PostG.bind p
  cases ha : A1 ρ s with
  | fail => rw [ha] at p1; exact p1.elim
  | exc x s1 => rw [ha] at p1; exact p1
  | ok ds s1 =>
    rw [ha] at p1
    intro κ1 H1 x1 vs rvs
    have l1 := h1 _ _ _ _ ha
    refine tA.mk (at0.ext x1) ?_
    have p2 := PostG.bind (p1 κ1 H1 x1)
    cases hb : A2 ρ s1 with
    | fail => rw [hb] at p2; exact p2.elim
    | exc x s2 => rw [hb] at p2; exact p2
    | ok es s2 =>
      rw [hb] at p2
      intro κ2 H2 x2 ws rws
      have l2 := h2 _ _ _ _ hb
      refine ⟨by rw [← rvs.length]; exact l1, by rw [← rws.length]; exact l2, ?_⟩
      exact p2 κ2 H2 x2 κ2 H2 (.refl x2.held) (vs ++ ws) ((rvs.stays x2.stays).append rws)
theorem aNil_len : ∀ (ρ : Env) (s : S) (ds : List D) (s' : S), aNil ρ s = .ok ds s' → ds.length = 0 := fun ρ s ds s' h => by cases h; rfl
theorem aCons_len {k : Nat} (h : ∀ (ρ : Env) (s : S) (ds : List D) (s' : S), A1 ρ s = .ok ds s' → ds.length = k) : ∀ (ρ : Env) (s : S) (ds : List D) (s' : S), aCons f A1 ρ s = .ok ds s' → ds.length = k + 1 := fun ρ s ds s' e => by
  unfold aCons at e
  cases ha : f ρ s with
  | fail => rw [ha] at e; cases e
  | exc x s1 => rw [ha] at e; cases e
  | ok d s1 =>
    rw [ha] at e
    simp only [CL.R.b_ok] at e
    cases hb : A1 ρ s1 with
    | fail => rw [hb] at e; cases e
    | exc x s1 => rw [hb] at e; cases e
    | ok es s2 => rw [hb] at e; cases e; simp [h _ _ _ _ hb]
/-- xs[i] = e -/
theorem pst_subL (h : PS X st (tAsg (tD K g E f3) (gSub (tD K g E f1) (tD K g E f2) rSetL))) : PS X st (tS K g E (sSubL f1 f2 f3)) := by
  refine PS.imp h fun Dn σ H sz q => ?_
  obtain ⟨Z, κ, s, ρ, at0, p⟩ := q sz
  refine tD.mk at0 (PostG.mono (PostG.bind p) fun y κ1 s1 H1 x1 p1 u ru => ?_)
  refine tD.mk (at0.ext x1) (PostG.mono (PostG.bind p1) fun x κ2 s2 H2 x2 p2 v rv => ?_)
  refine tD.mk (at0.ext (x1.trans x2)) (PostG.mono (PostG.bind p2) fun z κ3 s3 H3 x3 p3 w rw' => ?_)
  have rv3 := rv.stays x3.stays
  have ru3 := ru.stays (x2.stays.trans x3.stays)
  cases x with
  | cell k =>
    obtain ⟨a, rfl, ek⟩ := rv3
    cases ec : s3[k]? with
    | none => simp only [ec] at p3; exact p3.elim
    | some ct =>
      simp only [ec] at p3
      cases ct with
      | lst xs =>
        simp only at p3
        cases z with
        | int n =>
          cases rw'
          simp only at p3
          cases ej : ixN xs.length n with
          | none => simp only [ej] at p3; exact p3.elim
          | some j =>
            simp only [ej] at p3
            split at p3
            · rename_i hb
              obtain ⟨vs, h1, h2⟩ := x3.held.ct k a _ ek ec
              have st := Stays.put (Z := Z) (H := H3) (o := .lst (vs.set j u)) (c := .dead) ek ec (fun z => by cases z)
              have x4 : Ext K g Z κ3 s3 H3 κ3 (s3.set k (.lst (xs.set j y))) (upd H3 a (.lst (vs.set j u))) := Ext.setc x3.held ek ec (fun z => by cases z) ⟨_, upd_same, (h2.set j ru3).stays st⟩
              exact ⟨a, vs, n, j, rfl, rfl, h1, by rw [← h2.length]; exact ej, p3 κ3 _ x4 σ (at0.ext (x1.trans (x2.trans (x3.trans x4)))).env⟩
            · exact p3.elim
        | _ => exact p3.elim
      | _ => exact p3.elim
  | _ => exact p3.elim
theorem dput_rep {L : Addr → Prop} {k : List Key} {y : D} {u : V} (ru : Rep K g κ L H y u) : ∀ {kvs : List (List Key × V)} {ds : List D}, Reps K g κ L H ds (kvs.map (·.2)) →
    (dput (kvs.map fun p => kT p.1) ds (kT k) y).1 = (putK kvs k u).map (fun p => kT p.1) ∧ Reps K g κ L H (dput (kvs.map fun p => kT p.1) ds (kT k) y).2 ((putK kvs k u).map (·.2)) := by
  intro kvs ds r
  have hany : (kvs.any fun kv => decide (kv.1 = k)) = decide (kT k ∈ kvs.map fun p => kT p.1) := by
    clear r
    induction kvs with
    | nil => rfl
    | cons p t ih =>
      rw [List.any_cons, ih]
      by_cases hk : p.1 = k
      · simp [hk]
      · have : ¬ kT k = kT p.1 := fun z => hk (kT_inj z.symm)
        simp [hk, this]
  unfold dput putK
  rw [hany]
  by_cases hm : kT k ∈ kvs.map fun p => kT p.1
  · rw [if_pos hm, if_pos (decide_eq_true hm)]
    refine ⟨?_, ?_⟩
    · rw [List.map_map]
      refine List.map_congr_left fun p hp => ?_
      show kT p.1 = kT (if p.1 = k then (p.1, u) else p).1
      split <;> rfl
    · clear hm hany
      induction kvs generalizing ds with
      | nil => cases ds with
        | nil => exact .nil
        | cons d t => obtain ⟨_, _, e, _⟩ := r; cases e
      | cons p t ih =>
        cases ds with
        | nil => cases (show _ = _ from r)
        | cons d q =>
          obtain ⟨v, us, e, r1, r2⟩ := r
          injection e with e1 e2
          subst e1 e2
          refine .cons ?_ (ih r2)
          show Rep K g κ L H (if kT p.1 = kT k then y else d) (if p.1 = k then (p.1, u) else p).2
          by_cases hk : p.1 = k
          · rw [if_pos (by rw [hk]), if_pos hk]; exact ru
          · rw [if_neg (fun z => hk (kT_inj z)), if_neg hk]; exact r1
  · rw [if_neg hm, if_neg (by rw [decide_eq_false hm]; exact Bool.false_ne_true)]
    refine ⟨by simp, ?_⟩
    rw [List.map_append]
    exact r.append (.cons ru .nil)
/-- d[k] = e -/
theorem pst_subD (h : PS X st (sDPut (tD K g E f1) (tD K g E f2) (tD K g E f3))) : PS X st (tS K g E (sSubD f1 f2 f3)) := by
  refine PS.imp h fun Dn σ H sz q => ?_
  obtain ⟨Z, κ, s, ρ, at0, p⟩ := q sz
  refine tD.mk at0 (PostG.mono (PostG.bind p) fun y κ1 s1 H1 x1 p1 u ru => ?_)
  refine tD.mk (at0.ext x1) (PostG.mono (PostG.bind p1) fun x κ2 s2 H2 x2 p2 v rv => ?_)
  refine tD.mk (at0.ext (x1.trans x2)) (PostG.mono (PostG.bind p2) fun z κ3 s3 H3 x3 p3 w rw' => ?_)
  have rv3 := rv.stays x3.stays
  have ru3 := ru.stays (x2.stays.trans x3.stays)
  cases x with
  | cell j =>
    obtain ⟨a, rfl, ek⟩ := rv3
    cases ec : s3[j]? with
    | none => simp only [ec] at p3; exact p3.elim
    | some ct =>
      simp only [ec] at p3
      cases ct with
      | dic ks ds =>
        simp only at p3
        split at p3
        · rename_i hb
          obtain ⟨hk, hl, hb⟩ := hb
          obtain ⟨k, b, rfl, rfl, hb2⟩ := key_tup rw' hk
          obtain ⟨kvs, h1, rfl, h2⟩ := x3.held.ct j a _ ek ec
          have st := Stays.put (Z := Z) (H := H3) (o := .dT (putK kvs k u)) (c := .dead) ek ec (fun z => by cases z)
          obtain ⟨q1, q2⟩ := dput_rep (k := k) ru3 h2
          have x4 : Ext K g Z κ3 s3 H3 κ3 (s3.set j (.dic (dput (kvs.map fun p => kT p.1) ds (kT k) y).1 (dput (kvs.map fun p => kT p.1) ds (kT k) y).2)) (upd H3 a (.dT (putK kvs k u))) := Ext.setc x3.held ek ec (fun z => by cases z) ⟨_, upd_same, q1, q2.stays st⟩
          exact ⟨a, _, rfl, .inr ⟨kvs, k, b, h1, rfl, hb2, by simpa using hl, rfl⟩, p3 κ3 _ x4 σ (at0.ext (x1.trans (x2.trans (x3.trans x4)))).env⟩
        · exact p3.elim
      | _ => exact p3.elim
  | _ => exact p3.elim
end
end
end CL
end
section
set_option Elab.async false
set_option linter.all false
set_option maxRecDepth 100000
/-! Comp2: list comprehensions with two fors. -/
namespace CL
open PySem PySem.Spec PyProof.Rows L2
section
variable {K : PySem.W.Frag} {g : Cfg} {Z : Addr → Prop} {E : XK} {κ κ' κ'' : List Addr} {s s' s'' : S} {H H' H'' : Hp} {σ : L2.St} {ρ : Env}
theorem compF_ne {g : D → Env → Option Env} {t : Tx} {e : Ex} {ρ : Env} : ∀ {xs : List D} {s : S} {x : Xc} {s' : S}, compF g t e ρ xs s ≠ .exc x s'
  | [], s, x, s', h => by cases h
  | d :: r, s, x, s', h => by
    simp only [compF] at h
    cases hg : g d ρ with
    | none => rw [hg] at h; cases h
    | some ρ1 =>
      rw [hg] at h
      simp only at h
      cases ht : t ρ1 s with
      | fail => rw [ht] at h; cases h
      | exc y s2 => rw [ht] at h; cases h
      | ok k s2 =>
        rw [ht] at h
        simp only [CL.R.nx_ok, CL.R.b_ok] at h
        split at h
        · cases he : e ρ1 s2 with
          | fail => rw [he] at h; cases h
          | exc y s3 => rw [he] at h; cases h
          | ok y s3 =>
            rw [he] at h
            simp only [CL.R.nx_ok, CL.R.b_ok] at h
            cases hc : compF g t e ρ r s3 with
            | fail => rw [hc] at h; cases h
            | exc y s3 => exact compF_ne hc
            | ok ys s4 => rw [hc] at h; cases h
        · exact compF_ne h
theorem compF2_ne {g : D → Env → Option Env} {inner : Env → S → R (List D)} {ρ : Env} : ∀ {xs : List D} {s : S} {x : Xc} {s' : S}, compF2 g inner ρ xs s ≠ .exc x s'
  | [], s, x, s', h => by cases h
  | d :: r, s, x, s', h => by
    simp only [compF2] at h
    cases hg : g d ρ with
    | none => rw [hg] at h; cases h
    | some ρ1 =>
      rw [hg] at h
      simp only at h
      cases ht : inner ρ1 s with
      | fail => rw [ht] at h; cases h
      | exc y s2 => rw [ht] at h; cases h
      | ok k s2 =>
        rw [ht] at h
        simp only [CL.R.nx_ok, CL.R.b_ok] at h
        cases hc : compF2 g inner ρ r s2 with
        | fail => rw [hc] at h; cases h
        | exc y s3 => exact compF2_ne hc
        | ok ys s4 => rw [hc] at h; cases h
theorem PostG.part0 {α β : Type} {Z1 : Addr → Prop} {κ1 : List Addr} {s1 : S} {H1 : Hp} {r : R α} {k : α → S → R β} {Ok : β → List Addr → S → Hp → Prop} (p : PostG K g Z E κ1 s1 H1 (r.nx.b k) Ok) :
    PostG K g Z1 E0 κ s H r (fun a κ' s' H' => PostG K g Z E κ1 s1 H1 (k a s') Ok) := PostG.part p
/-- how a list of two fors ends -/
def fin2 (acc : List D) (zs : List D) (s : S) : R D := if (acc ++ zs).length ≤ sizeLine then .ok (.lst (acc ++ zs)) s else .fail
section
variable {X : Cx} {st : Stmt} {e a b c : Expr} {f f1 f2 f3 : Ex} {F G : Sx} {t : Tx} {A1 A2 : Ax} {φ : Fn} {n : Nat}
theorem pd_lc2 {it it1 : Ix} {wi wi1 : TI} {Gt G1 : Tg} {gg gg1 : TG} {is is1 own own1 : List Nat} {elt : Ex} (hi : IOk K g E it wi) (hG : GOk K g Gt.set gg is) (hown : ∀ i ∈ is, i ∈ own) {tt tt1 : TT} (ht : ∀ σ H (Q : Bool → Hp → Prop), Q true H → tt σ H Q)
    (hi1 : IOk K g E0 it1 wi1) (hG1 : GOk K g G1.set gg1 is1) (hown1 : ∀ i ∈ is1, i ∈ own1) (ht1 : ∀ σ H (Q : Bool → Hp → Prop), Q true H → tt1 σ H Q)
    (h : PE X e (tLc2 wi gg tt wi1 gg1 tt1 (tD K g E0 elt) own own1)) : PE X e (tD K g E (eLc2 own it Gt own1 it1 G1 elt)) := by
  refine PE.imp h fun σ H Q sz q => ?_
  obtain ⟨Z, κ, s, ρ, at0, p⟩ := q sz
  refine hi Z κ s H σ ρ _ at0 (PostG.mono (PostG.bind p) fun ds κ1 s1 H1 x1 p1 J St itf hr => ?_)
  have at1 := at0.ext x1
  intro D hD
  have hdD : ¬ pr κ1 s1 Z D := free_pr at1.held hD
  have stD : ∀ o, Stays κ1 κ1 (pr κ1 s1 Z) (pr κ1 s1 fun a => Z a ∨ a = D) H1 (upd H1 D o) := fun o => by
    refine ⟨⟨[], by simp⟩, fun a n h z => ?_, fun b u e _ => by rw [upd_ne (ne_of_none e hD)]; exact e⟩
    rcases z with z | z | z
    · exact h (.inl z)
    · exact h (.inr z)
    · subst z; exact n hD
  let inner : Env → S → R (List CL.D) := fun ρ1 s => (it1 ρ1 s).b fun ys s => compF G1.set tYes elt (wipeE ρ1 own1) ys s
  refine ⟨fun i m H => m = ds.length - i ∧ i ≤ ds.length ∧ ∃ κ2 s2 ys vs, ExR κ1 s1 H1 κ2 s2 H ∧ Held K g κ2 s2 (fun a => Z a ∨ a = D) H ∧ H D = some (.lst vs) ∧ Reps K g κ2 (pr κ2 s2 fun a => Z a ∨ a = D) H ys vs ∧
      St κ2 (pr κ2 s2 fun a => Z a ∨ a = D) H ∧ ERep K g κ2 (pr κ2 s2 fun a => Z a ∨ a = D) H (wipe σ own) (wipeE ρ own) ∧
      PostG K g Z E κ1 s1 H1 ((compF2 Gt.set inner (wipeE ρ own) (ds.drop i) s2).b (fin2 ys)) (OkD K g Z Q),
    ⟨ds.length, by simp, Nat.zero_le _, κ1, s1, [], [], ⟨⟨[], by simp⟩, fun _ h => .inl h, fun b o e _ => by rw [upd_ne (ne_of_none e hD)]; exact e, fun b n => ?_⟩, at1.held.protect hD (fun _ z => by cases z), upd_same, .nil, itf.keep _ _ _ _ _ _ (stD _) hr, (wipe_rep at1.env own).stays (stD _), ?_⟩, ?_⟩
  · by_cases q : b = D
    · subst q; exact absurd hD n
    · rw [upd_ne q]; exact n
  · have e : (compF2 Gt.set inner (wipeE ρ own) (ds.drop 0) s1).b (fin2 []) = (compF2 Gt.set inner (wipeE ρ own) ds s1).b fun ys s => if ys.length ≤ sizeLine then .ok (.lst ys) s else .fail := by
      rw [List.drop_zero]; rfl
    rw [e]; exact p1
  rintro i m H2 ⟨rfl, hi2, κ2, s2, ys, vs, x2, hd2, hL, ry, hr2, er2, p2⟩
  by_cases hlt : i < ds.length
  · right
    refine ⟨itf.go _ i κ2 s2 H2 hd2 hr2 hlt, fun H => i + 1 ≤ ds.length ∧ ∃ κ2 s2 ys vs, ExR κ1 s1 H1 κ2 s2 H ∧ Held K g κ2 s2 (fun a => Z a ∨ a = D) H ∧ H D = some (.lst vs) ∧ Reps K g κ2 (pr κ2 s2 fun a => Z a ∨ a = D) H ys vs ∧
      St κ2 (pr κ2 s2 fun a => Z a ∨ a = D) H ∧ ERep K g κ2 (pr κ2 s2 fun a => Z a ∨ a = D) H (wipe σ own) (wipeE ρ own) ∧
      PostG K g Z E κ1 s1 H1 ((compF2 Gt.set inner (wipeE ρ own) (ds.drop (i + 1)) s2).b (fin2 ys)) (OkD K g Z Q), fun H' n => ⟨ds.length - (i + 1), by omega, rfl, n⟩, fun x H3 y => ?_⟩
    have ei : ds[i]? = some ds[i] := by simp
    obtain ⟨x3, rx⟩ := itf.yld _ i _ κ2 s2 H2 x H3 hd2 hr2 ei y
    rw [List.drop_eq_getElem_cons hlt] at p2
    simp only [compF2] at p2
    cases hg : Gt.set ds[i] (wipeE ρ own) with
    | none => rw [hg] at p2; exact p2.elim
    | some ρ3 =>
      rw [hg] at p2
      dsimp only at p2
      refine hG κ2 _ H3 _ _ ρ3 _ x _ (er2.stays x3.stays) rx hg fun σ3 er3 hw => ⟨(hw own hown).trans (wipe_wipe σ own own fun _ h => h), ht _ _ _ ?_⟩
      rw [if_pos rfl]
      have p3 : PostG K g Z E κ1 s1 H1 ((it1 ρ3 s2).nx.b fun us s => (compF G1.set tYes elt (wipeE ρ3 own1) us s).b fun ys1 s => (compF2 Gt.set inner (wipeE ρ own) (ds.drop (i + 1)) s).b fun zs s => fin2 ys (ys1 ++ zs) s) (OkD K g Z Q) := by
        show PostG K g Z E κ1 s1 H1 _ _
        cases hi3 : it1 ρ3 s2 with
        | fail => simp only [inner, hi3] at p2; exact p2.elim
        | exc x s3 => simp only [inner, hi3] at p2; exact p2.elim
        | ok us s3 =>
          have e1 : inner ρ3 s2 = compF G1.set tYes elt (wipeE ρ3 own1) us s3 := by simp only [inner, hi3, CL.R.b_ok]
          rw [e1] at p2
          simp only [CL.R.nx_ok, CL.R.b_ok]
          cases hc : compF G1.set tYes elt (wipeE ρ3 own1) us s3 with
          | fail => rw [hc] at p2; exact p2.elim
          | exc x s4 => exact absurd hc compF_ne
          | ok zs s4 =>
            rw [hc] at p2
            simp only [CL.R.nx_ok, CL.R.b_ok] at p2 ⊢
            cases hc2 : compF2 Gt.set inner (wipeE ρ own) (ds.drop (i + 1)) s4 with
            | fail => rw [hc2] at p2; exact p2.elim
            | exc x s4 => exact absurd hc2 compF2_ne
            | ok ws s5 => rw [hc2] at p2; exact p2
      refine hi1 (fun a => Z a ∨ a = D) κ2 s2 H3 σ3 ρ3 _ ⟨er3, x3.held⟩ (PostG.mono (PostG.part0 p3) fun us κ4 s4 H4 x4 p4 J1 St1 itf1 hr3 => ?_)
      have x24 := x2.trans (x3.exr.trans x4.exr)
      have hD4 : H4 D = some (.lst vs) := x4.fr _ _ (x3.fr _ _ hL fun z => hd2.zdis D (.inr rfl) z) fun z => x3.held.zdis D (.inr rfl) z
      have st24 := x3.stays.trans x4.stays
      refine ⟨fun j k H => k = us.length - j ∧ j ≤ us.length ∧ ∃ κ2 s2 ys vs, ExR κ1 s1 H1 κ2 s2 H ∧ Held K g κ2 s2 (fun a => Z a ∨ a = D) H ∧ H D = some (.lst vs) ∧ Reps K g κ2 (pr κ2 s2 fun a => Z a ∨ a = D) H ys vs ∧
        St κ2 (pr κ2 s2 fun a => Z a ∨ a = D) H ∧ ERep K g κ2 (pr κ2 s2 fun a => Z a ∨ a = D) H (wipe σ own) (wipeE ρ own) ∧
        St1 κ2 (pr κ2 s2 fun a => Z a ∨ a = D) H ∧ ERep K g κ2 (pr κ2 s2 fun a => Z a ∨ a = D) H (wipe σ3 own1) (wipeE ρ3 own1) ∧
        PostG K g Z E κ1 s1 H1 ((compF G1.set tYes elt (wipeE ρ3 own1) (us.drop j) s2).b fun ys1 s => (compF2 Gt.set inner (wipeE ρ own) (ds.drop (i + 1)) s).b fun zs s => fin2 ys (ys1 ++ zs) s) (OkD K g Z Q),
        ⟨us.length, by simp, Nat.zero_le _, κ4, s4, ys, vs, x24, x4.held, hD4, ry.stays st24, itf.keep _ _ _ _ _ _ st24 hr2, er2.stays st24, hr3, wipe_rep (er3.stays x4.stays) own1, by rw [List.drop_zero]; exact p4⟩, ?_⟩
      rintro j k H5 ⟨rfl, hj2, κ5, s5, ys5, vs5, x5, hd5, hL5, ry5, hr5, er5, hr51, er51, p5⟩
      by_cases hjl : j < us.length
      · right
        refine ⟨itf1.go _ j κ5 s5 H5 hd5 hr51 hjl, fun H => j + 1 ≤ us.length ∧ ∃ κ2 s2 ys vs, ExR κ1 s1 H1 κ2 s2 H ∧ Held K g κ2 s2 (fun a => Z a ∨ a = D) H ∧ H D = some (.lst vs) ∧ Reps K g κ2 (pr κ2 s2 fun a => Z a ∨ a = D) H ys vs ∧
          St κ2 (pr κ2 s2 fun a => Z a ∨ a = D) H ∧ ERep K g κ2 (pr κ2 s2 fun a => Z a ∨ a = D) H (wipe σ own) (wipeE ρ own) ∧
          St1 κ2 (pr κ2 s2 fun a => Z a ∨ a = D) H ∧ ERep K g κ2 (pr κ2 s2 fun a => Z a ∨ a = D) H (wipe σ3 own1) (wipeE ρ3 own1) ∧
          PostG K g Z E κ1 s1 H1 ((compF G1.set tYes elt (wipeE ρ3 own1) (us.drop (j + 1)) s2).b fun ys1 s => (compF2 Gt.set inner (wipeE ρ own) (ds.drop (i + 1)) s).b fun zs s => fin2 ys (ys1 ++ zs) s) (OkD K g Z Q), fun H' n => ⟨us.length - (j + 1), by omega, rfl, n⟩, fun x6 H6 y6 => ?_⟩
        have ej : us[j]? = some us[j] := by simp
        obtain ⟨xx6, rx6⟩ := itf1.yld _ j _ κ5 s5 H5 x6 H6 hd5 hr51 ej y6
        rw [List.drop_eq_getElem_cons hjl] at p5
        simp only [compF] at p5
        cases hg1 : G1.set us[j] (wipeE ρ3 own1) with
        | none => rw [hg1] at p5; exact p5.elim
        | some ρ6 =>
          rw [hg1] at p5
          simp only [tYes, CL.R.nx_ok, CL.R.b_ok, if_pos] at p5
          refine hG1 κ5 _ H6 _ _ ρ6 _ x6 _ (er51.stays xx6.stays) rx6 hg1 fun σ6 er6 hw6 => ⟨(hw6 own1 hown1).trans (wipe_wipe σ3 own1 own1 fun _ h => h), ht1 _ _ _ ?_⟩
          rw [if_pos rfl]
          have p6 : PostG K g Z E κ1 s1 H1 ((elt ρ6 s5).nx.b fun y s => (compF G1.set tYes elt (wipeE ρ3 own1) (us.drop (j + 1)) s).b fun ys1 s => (compF2 Gt.set inner (wipeE ρ own) (ds.drop (i + 1)) s).b fun zs s => fin2 (ys5 ++ [y]) (ys1 ++ zs) s) (OkD K g Z Q) := by
            cases he : elt ρ6 s5 with
            | fail => rw [he] at p5; exact p5.elim
            | exc x s6 => rw [he] at p5; exact p5.elim
            | ok y s6 =>
              rw [he] at p5
              simp only [CL.R.nx_ok, CL.R.b_ok] at p5 ⊢
              cases hc : compF G1.set tYes elt (wipeE ρ3 own1) (us.drop (j + 1)) s6 with
              | fail => rw [hc] at p5; exact p5.elim
              | exc x s7 => exact absurd hc compF_ne
              | ok zs s7 =>
                rw [hc] at p5
                simp only [CL.R.b_ok] at p5 ⊢
                cases hc2 : compF2 Gt.set inner (wipeE ρ own) (ds.drop (i + 1)) s7 with
                | fail => rw [hc2] at p5; exact p5.elim
                | exc x s8 => exact absurd hc2 compF2_ne
                | ok ws s8 =>
                  rw [hc2] at p5
                  simp only [CL.R.b_ok] at p5 ⊢
                  have e9 : fin2 (ys5 ++ [y]) (zs ++ ws) s8 = fin2 ys5 (y :: zs ++ ws) s8 := by unfold fin2; simp
                  rw [e9]; exact p5
          refine tD.mk (Z := fun a => Z a ∨ a = D) (κ := κ5) (s := s5) (ρ := ρ6) ⟨er6, xx6.held⟩ (PostG.mono (PostG.part0 p6) fun y κ7 s7 H7 x7 p7 v rv => ?_)
          have hD6 : H6 D = some (.lst vs5) := xx6.fr _ _ hL5 fun z => hd5.zdis D (.inr rfl) z
          have hD7 : H7 D = some (.lst vs5) := x7.fr _ _ hD6 fun z => xx6.held.zdis D (.inr rfl) z
          have st57 := xx6.stays.trans x7.stays
          have hvy := ry5.length
          have sp : Stays κ7 κ7 (pr κ7 s7 fun a => Z a ∨ a = D) (pr κ7 s7 fun a => Z a ∨ a = D) H7 (upd H7 D (.lst (vs5 ++ [v]))) := Stays.upd (.inr (.inr rfl))
          have hlen : vs5.length < sizeLine := by
            cases hc : compF G1.set tYes elt (wipeE ρ3 own1) (us.drop (j + 1)) s7 with
            | fail => rw [hc] at p7; exact p7.elim
            | exc x s8 => exact absurd hc compF_ne
            | ok zs s8 =>
              rw [hc] at p7
              simp only [CL.R.b_ok] at p7
              cases hc2 : compF2 Gt.set inner (wipeE ρ own) (ds.drop (i + 1)) s8 with
              | fail => rw [hc2] at p7; exact p7.elim
              | exc x s9 => exact absurd hc2 compF2_ne
              | ok ws s9 =>
                rw [hc2] at p7
                simp only [CL.R.b_ok] at p7
                unfold fin2 at p7
                split at p7
                · rename_i hz
                  rw [List.length_append, List.length_append, List.length_singleton] at hz
                  omega
                · exact p7.elim
          have x57 := x5.trans (xx6.exr.trans x7.exr)
          refine ⟨vs5, hD7, hlen, hjl, κ7, s7, ys5 ++ [y], vs5 ++ [v], ?_, x7.held.put (.inr rfl) (fun _ z => by cases z), upd_same, ((ry5.stays st57).append (.cons rv .nil)).stays sp, itf.keep _ _ _ _ _ _ sp (itf.keep _ _ _ _ _ _ st57 hr5), (er5.stays st57).stays sp, itf1.keep _ _ _ _ _ _ sp (itf1.keep _ _ _ _ _ _ st57 hr51), (er51.stays st57).stays sp, p7⟩
          refine ⟨x57.pre, x57.lv, fun b o e n => ?_, fun b n => ?_⟩
          · rw [upd_ne (ne_of_none e hD)]; exact x57.fr b o e n
          · by_cases q : b = D
            · subst q; rw [upd_same]; intro z; cases z
            · rw [upd_ne q]; exact x57.trk b n
      · left
        have e : j = us.length := by omega
        subst e
        rw [List.drop_length] at p5
        refine ⟨itf1.stop _ _ κ5 s5 H5 hd5 hr51 (Nat.le_refl _), hlt, κ5, s5, ys5, vs5, x5, hd5, hL5, ry5, hr5, er5, ?_⟩
        simpa [compF] using p5
  · left
    have e : i = ds.length := by omega
    subst e
    rw [List.drop_length] at p2
    refine ⟨itf.stop _ _ κ2 s2 H2 hd2 hr2 (Nat.le_refl _), ?_⟩
    have p3 : PostG K g Z E κ1 s1 H1 (fin2 ys [] s2) (OkD K g Z Q) := p2
    unfold fin2 at p3
    split at p3
    · rw [List.append_nil] at p3
      refine p3 κ2 H2 ⟨x2.pre, x2.lv, x2.fr, x2.trk, hd2.less fun a z => .inl z⟩ _ ⟨D, vs, rfl, ?_, .inl hL, ry.stays (Stays.less fun a z => z.imp id .inl)⟩
      rintro (z | z)
      · exact hd2.zdis D (.inr rfl) z
      · exact at1.held.ztrk D z hD
    · exact p3.elim
end
end
end CL
end
section
set_option Elab.async false
set_option linter.all false
set_option maxRecDepth 100000
/-! Own: len of an own class. -/
namespace L2
open PySem PySem.Spec PyProof.Rows
/-- len(e), e of the class C with __len__ -/
def rLenO (C : Addr) (sp : Sp) (E : XK) : List V → Hp → VK → Prop := fun xs H Q => ∃ a dx fs, xs = [.ref a] ∧ H a = some (.ins C dx fs) ∧ sp [.ref a] H (fun v H2 => ∃ n : Int, v = .int n ∧ 0 ≤ n ∧ n < 2 ^ 63 ∧ Q (.int n) H2) E
section
variable {X : Cx} {CX : CXT} {k : Nat} {C f a dx : Addr} {fs : List (Str × V)} {fd : FuncData} {ps : List Str} {sp : Sp} {E : XK} {e : Expr} {p pos : Pos} {ta : TE}
theorem lenO_ok {pins : List (Addr × Obj)} {σ : St} {H : Hp} {s : Shared} {Q : VK} {E' : Value → Shared → Prop} (I : Inv X pins σ H s) (ea : H a = some (.ins C dx fs)) (m : Meth X.K C "__len__" f)
    (F : FnOk X.prog X.w X.K X.mg X.base CX k f fd ps sp) (hr : Room (k + 1) X.A) (hb : Binds X.K fd ps []) (hx : Passes CX X.nox E) (h : sp [.ref a] H (fun v H2 => ∃ n : Int, v = .int n ∧ 0 ≤ n ∧ n < 2 ^ 63 ∧ Q (.int n) H2) E) :
    wpAny (model X.prog X.w) X.A (call (.builtin "len") [.ref a]) (EP X pins σ Q) E' s := by
  obtain ⟨mA, O, _, _, _, _⟩ := ins_get I.hok ea
  obtain ⟨od, J, _⟩ := O.look
  refine Calls.call_function_entry kind_len plain_len entry_len (args_len1 _) ?_
  unfold Builtin.«len»
  refine wpAny_bind (m := oneArg "len" _) (wpAny_pure ?_)
  have hl : ([Value.ref a] ++ []).length = ps.length := by
    rw [← F.len _ _ _ _ h]; rfl
  refine wpAny_bind (m := callSpecial? (.ref a) (Str.ofString "__len__")) (PySem.W.special_fn I.kIn J m.at_ (beq_iff_eq.mp m.fn) (wpAny_call (codeAny_mono (F.run X.A.in1 X.stack s H ⟨[.ref a], []⟩ [.ref a] [.ref a] _ E hr.in1 I.env0.in1 (hb s [.ref a] I.kIn hl) (.cons rfl .nil) h) fun r s' hq => ?_)))
  cases r with
  | error er => exact False.elim (hx pins σ H s er s' (I.wish _) hq)
  | ok fl =>
    cases fl with
    | ret u =>
      obtain ⟨v, H', I3, rv, n, ev, h0, h1, q3⟩ := I.after hq
      subst ev
      obtain ⟨t, rfl⟩ := rv
      show wpAny _ _ _ _ _ _
      refine wpAny_bind (wpAny_holding (wpAny_pure ?_))
      refine wpAny_bind (wpAny_letGo ?_)
      show wpAny _ _ (if n < 0 then _ else _) _ _ _
      rw [if_neg (by omega)]
      show wpAny _ _ (if n ≥ 2 ^ 63 then _ else _) _ _ _
      rw [if_neg (by omega)]
      exact wpAny_bind (wpAny_mkInt (wpAny_pure ⟨_, rfl, .int n, H', I3.tok _, ⟨_, rfl⟩, q3⟩))
    | next => exact False.elim hq
    | brk => exact False.elim hq
    | cont => exact False.elim hq
theorem cr_lenO (m : Meth X.K C "__len__" f) (F : FnOk X.prog X.w X.K X.mg X.base CX k f fd ps sp) (hr : Room (k + 1) X.A) (hb : Binds X.K fd ps []) (hx : Passes CX X.nox E) : CallR X (.builtin "len") (rLenO C sp E) := by
  intro pins s σ H xs us Q I r h
  obtain ⟨a, dx, fs, rfl, ea, q⟩ := h
  obtain rfl := Vals.ref1 r
  exact lenO_ok I ea m F hr hb hx q
end
end L2
namespace CL
open PySem PySem.Spec PyProof.Rows L2
section
variable {K : PySem.W.Frag} {g : Cfg} {Z : Addr → Prop} {E : XK} {κ κ' κ'' : List Addr} {s s' s'' : S} {H H' H'' : Hp} {σ : L2.St} {ρ : Env}
variable {X : Cx} {e : Expr} {f : Ex} {φ : Fn}
theorem pd_lenO {c : Nat} (h : PE X e (tCB (rLenO (g.Γ c) (spF K g 1 φ) E) (tCons (tD K g E f) tNil))) : PE X e (tD K g E (eLenO c φ f)) := by
  refine PE.imp h fun σ H Q sz q => ?_
  obtain ⟨Z, κ, s, ρ, at0, p⟩ := q sz
  refine tD.mk at0 (PostG.mono (PostG.bind p) fun x κ1 s1 H1 x1 p1 v rv => ?_)
  split at p1
  · rename_i hc
    obtain ⟨a, dx, fs, ks, ds, rfl, h1, _⟩ := cls_rep x1.held rv hc
    refine ⟨a, dx, fs, rfl, h1, rfl, Z, κ1, s1, [x], x1.held, .cons rv .nil, PostG.mono (PostG.bind p1) fun d κ2 s2 H2 x2 p2 u ru => ?_⟩
    cases d with
    | int n =>
      dsimp only at p2
      split at p2
      · rename_i hn
        cases ru
        exact ⟨n, rfl, hn.1, hn.2, p2 κ2 H2 (.refl x2.held) _ rfl⟩
      · exact p2.elim
    | _ => exact p2.elim
  · exact p1.elim
end
end CL
end
section
set_option Elab.async false
set_option linter.all false
set_option maxRecDepth 100000
/-! Super2: a def that says super(), by data. -/
namespace CL
open PySem PySem.Spec PyProof.Rows L2 NdefX
section
variable {K : PySem.W.Frag} {g : Cfg} {Z : Addr → Prop} {E : XK} {κ κ' κ'' : List Addr} {s s' s'' : S} {H H' H'' : Hp} {σ : L2.St} {ρ : Env}
section
variable {X : Cx} {b sts : List Stmt} {F G : Sx} {A1 : Ax} {φ : Fn} {n : Nat}
theorem PSsA.imp {t t' : TS} (h : PSsA X b sts t) (i : ∀ Dn σ H, Sz H → t' Dn σ H → t Dn σ H) : PSsA X b sts t' := ⟨fun pins s σ H Dn I q => h.run pins s σ H Dn I (i Dn σ H (sz_of I) q)⟩
theorem pdsa_of (h : PSs X sts (tS K g E F)) : PSsA X b sts (tS K g E F) := psa_of h
theorem pdsa_cons (h : PSsA X b sts (tSeq (tS K g E F) (tS K g E G))) : PSsA X b sts (tS K g E (sSeq F G)) := by
  refine PSsA.imp h fun Dn σ H sz q => ?_
  obtain ⟨Z, κ, s, ρ, at0, p⟩ := q sz
  refine tS.mk at0 (PostG.mono (PostG.bind p) fun fl κ1 s1 H1 x1 p1 => ?_)
  cases fl with
  | nx ρ1 => exact fun σ1 er => tS.mk ⟨er, x1.held⟩ p1
  | ret d => exact p1 κ1 H1 (.refl x1.held)
  | bk ρ1 => exact p1 κ1 H1 (.refl x1.held)
  | ct ρ1 => exact p1 κ1 H1 (.refl x1.held)
theorem pdsa_sup {c : Nat} (h : PSsA X b sts (tSeq (tSup 0 (g.Γ c) (spF K g (n + 1) φ) E (tA K g E A1)) (tS K g E G))) (hn : ∀ ds s, ds.length ≠ n + 1 → φ ds s = .fail) : PSsA X b sts (tS K g E (sSeq (sSup c φ A1) G)) := by
  refine PSsA.imp h fun Dn σ H sz q => ?_
  obtain ⟨Z, κ, s, ρ, at0, p⟩ := q sz
  have p0 : PostG K g Z E κ s H ((sSup c φ A1 ρ s).b fun f s => match f with | .nx ρ' => G ρ' s | f => .ok f s) (OkS K g Z Dn) := p
  unfold sSup at p0
  cases hρ : ρ[0]? with
  | none => simp only [hρ] at p0; exact p0.elim
  | some o =>
    cases o with
    | none => simp only [hρ] at p0; exact p0.elim
    | some x =>
      simp only [hρ] at p0
      split at p0
      · rename_i hc
        obtain ⟨v, ev, rv⟩ := at0.env.at_ 0 _ hρ
        obtain ⟨a, dx, fs, ks, ds, rfl, h1, _⟩ := cls_rep at0.held rv hc
        have p1 : PostG K g Z E κ s H ((A1 ρ s).b fun ds s => (φ (x :: ds) s).b fun _ s => G ρ s) (OkS K g Z Dn) := by
          cases ha : A1 ρ s with
          | fail => rw [ha] at p0; exact p0
          | exc x s1 => rw [ha] at p0; exact p0
          | ok ds s1 =>
            rw [ha] at p0
            simp only [CL.R.b_ok] at p0 ⊢
            cases hφ : φ (x :: ds) s1 with
            | fail => rw [hφ] at p0; exact p0
            | exc x s2 => rw [hφ] at p0; exact p0
            | ok d s2 => rw [hφ] at p0; exact p0
        refine ⟨a, dx, fs, ev, h1, tA.mk at0 (PostG.mono (PostG.bind p1) fun ds κ1 s1 H1 x1 p2 vs rvs => ?_)⟩
        have hl : (x :: ds).length = n + 1 := by
          by_cases hl : (x :: ds).length = n + 1
          · exact hl
          · rw [hn _ _ hl] at p2; exact p2.elim
        have r2 : Reps K g κ1 (pr κ1 s1 Z) H1 (x :: ds) (.ref a :: vs) := .cons (rv.stays x1.stays) rvs
        refine ⟨by rw [← r2.length]; exact hl, Z, κ1, s1, x :: ds, x1.held, r2, PostG.mono (PostG.bind p2) fun d κ2 s2 H2 x2 p3 u ru => ?_⟩
        exact tS.mk (at0.ext (x1.trans x2)) p3
      · exact p0.elim
/-- a def that says super(), by its body -/
theorem fn_okF0 {P : Program} {w : World} {mg : Str → Option Value} {base : Heap} {x qual : Str} {params : Arguments} {body : List Stmt} {scope : Scope} {f cda cc : Addr} {fd : FuncData} {N ps : List Str} {k n all : Nat} {Fb : Sx}
    (F : FunF K x qual params body scope f cda cc fd) (Sc : NScope N ps ["__class__"] scope) (hn : ps.length = n) (hall : N.length = all) (hle : n ≤ all)
    (hb : ∀ (A : Around) (outer : List PySem.Env) (s : Shared) (H : Hp) (E : XK), Room k (A.deeper (envF ⟨x, qual, params, body, scope, [("__class__", cc)], cda⟩ f s.heap.objs.size)) → PSsA (ncF CX0 P w K mg base N x qual params body scope f cda cc A outer s H E).nox body body (tS K g E Fb)) :
    FnOk P w K mg base CX0 (k + 1) f fd ps (spF K g n (runB n all Fb)) :=
  F.ok Sc (fun vs H Q E h => by rw [hn]; exact h.1) fun A outer s H vs Q E hr h => ⟨_, (hb A outer s H E hr).nox, sp_body hall hle h⟩
theorem sp_bodyC {n all : Nat} {F : Sx} {N : List Str} {vs : List V} {Q : VK} {E : XK} (hN : N.length = all) (hn : n ≤ all) {H : Hp} (h : spF K g n (runC n all F) vs H Q E) :
    tS K g E F { nx := fun _ H' => Q .non H', rt := Q } (L2.start N vs) H := by
  obtain ⟨hl, Z, κ, s, ds, hd, rs, p⟩ := h
  have hdl : ds.length = n := by rw [rs.length]; exact hl
  unfold runC at p
  rw [if_pos hdl] at p
  have er : ERep K g κ (pr κ s Z) H (L2.start N vs) (ds.map some ++ List.replicate (all - n) none) := by
    refine ⟨by unfold L2.start; simp [hN, hl, hdl], fun i d e => ?_⟩
    by_cases hi : i < ds.length
    · rw [List.getElem?_append_left (by simpa using hi), List.getElem?_map] at e
      obtain ⟨d', e1, e2⟩ := Option.map_eq_some_iff.mp e
      cases e2
      obtain ⟨v, e3, e4⟩ := rs.get e1
      refine ⟨v, ?_, e4⟩
      unfold L2.start
      rw [List.getElem?_append_left (by rw [List.length_map, hl, ← hdl]; exact hi), List.getElem?_map, e3]; rfl
    · rw [List.getElem?_append_right (by simpa using hi), List.getElem?_replicate] at e
      split at e <;> cases e
  refine tS.mk ⟨er, hd⟩ ?_
  cases hF : F (ds.map some ++ List.replicate (all - n) none) s with
  | fail => rw [hF] at p; exact p.elim
  | ok fl s2 =>
    rw [hF] at p
    cases fl with
    | ret d => exact fun κ2 H2 x2 v rv => p κ2 H2 x2 v rv
    | nx ρ2 => exact p.elim
    | bk ρ2 => exact p.elim
    | ct ρ2 => exact p.elim
  | exc x s2 => rw [hF] at p; exact p.elim
/-- a def that hands back a new cell -/
theorem fn_okC0 {P : Program} {w : World} {mg : Str → Option Value} {base : Heap} {x qual : Str} {params : Arguments} {body : List Stmt} {scope : Scope} {dvs : List V} {kws : List (Str × V)} {f : Addr} {fd : FuncData} {N ps : List Str} {k n all : Nat} {Fb : Sx}
    (F : FunD K x qual params body scope dvs kws f fd) (Sc : FnScope N ps scope) (hn : ps.length = n) (hall : N.length = all) (hle : n ≤ all)
    (hb : ∀ (cdv : Value) (A : Around) (outer : List PySem.Env) (s : Shared) (H : Hp) (E : XK), Room k (A.deeper (envOfC qual scope s.heap.objs.size f cdv)) → PSs (cxOf CX0 P w K mg base N qual scope f cdv A outer s H E).nox body (tS K g E Fb)) :
    FnOk P w K mg base CX0 (k + 1) f fd ps (spF K g n (runC n all Fb)) :=
  F.ok Sc (fun vs H Q E h => by rw [hn]; exact h.1) fun cdv A outer s H vs Q E hr h => ⟨_, (hb cdv A outer s H E hr).nox, sp_bodyC hall hle h⟩
theorem kbn_all {K : PySem.W.Frag} {fd : FuncData} {ps ks : List Str} {n : Nat} (h : ∀ us ws : List Value, us.length = n → ws.length = ks.length → bindArgs fd ⟨us, ks.zip ws⟩ = pure (ps.zip (us ++ ws))) : KBn K fd ps n ks (fun us ws => us ++ ws) (fun vs zs => vs ++ zs) :=
  ⟨fun s us ws _ l1 l2 => .of_eq (h us ws l1 l2), fun r1 r2 => r1.append r2⟩
end
end
end CL
end
section
set_option Elab.async false
set_option linter.all false
set_option maxRecDepth 100000
/-! GenS: short words for printed derivations. -/
namespace CL
open PySem PySem.Spec PyProof.Rows L2
theorem bb_len : bootBuiltins "len" = some (.builtin "len") := by first | rfl | kernel_rfl
theorem bb_abs : bootBuiltins "abs" = some (.builtin "abs") := by first | rfl | kernel_rfl
theorem bb_min : bootBuiltins "min" = some (.builtin "min") := by first | rfl | kernel_rfl
theorem bb_max : bootBuiltins "max" = some (.builtin "max") := by first | rfl | kernel_rfl
theorem bb_any : bootBuiltins "any" = some (.builtin "any") := by first | rfl | kernel_rfl
theorem bb_all : bootBuiltins "all" = some (.builtin "all") := by first | rfl | kernel_rfl
theorem bb_sorted : bootBuiltins "sorted" = some (.builtin "sorted") := by first | rfl | kernel_rfl
theorem bb_isinstance : bootBuiltins "isinstance" = some (.builtin "isinstance") := by first | rfl | kernel_rfl
theorem bb_int : bootBuiltins "int" = some (.type "int") := by first | rfl | kernel_rfl
theorem bb_bool : bootBuiltins "bool" = some (.type "bool") := by first | rfl | kernel_rfl
theorem bb_str : bootBuiltins "str" = some (.type "str") := by first | rfl | kernel_rfl
theorem bb_list : bootBuiltins "list" = some (.type "list") := by first | rfl | kernel_rfl
theorem bb_tuple : bootBuiltins "tuple" = some (.type "tuple") := by first | rfl | kernel_rfl
theorem bb_super : bootBuiltins "super" = some (.type "super") := by first | rfl | kernel_rfl
/-- a def that keeps its promise, called with all its arguments -/
structure FnI (P : Program) (w : World) (K : PySem.W.Frag) (mg : Str → Option Value) (base : Heap) (k : Nat) (f : Addr) (ps : List Str) (sp : Sp) : Prop where
  ex : ∃ fd, FnOk P w K mg base CX0 k f fd ps sp ∧ Binds K fd ps [] ∧ PySem.W.keepIn K (.ref f) = true
section
variable {K : PySem.W.Frag} {g : Cfg} {E : XK} {X : Cx}
theorem passA : Passes CX0 X E := fun _ _ _ _ _ _ _ h => h.elim
theorem runB_len {n all : Nat} {F : Sx} : ∀ (ds : List D) (s : S), ds.length ≠ n → runB n all F ds s = .fail := fun _ _ h => if_neg h
theorem runC_len {n all : Nat} {F : Sx} : ∀ (ds : List D) (s : S), ds.length ≠ n → runC n all F ds s = .fail := fun _ _ h => if_neg h
section
variable {a b e : Expr} {op : CmpOp} {opD : S → D → D → Option D} {r : R2} {f f1 f2 : Ex} {st : Stmt} {x : Str} {pos : Pos}
theorem PC.imp {t t' : TE} (h : PC X op a b t) (i : ∀ σ H Q, Sz H → t' σ H Q → t σ H Q) : PC X op a b t' := ⟨fun pins s σ H Q I q => h.run pins s σ H Q I (i σ H Q (sz_of I) q)⟩
theorem pcR {ta tb : TE} (ho : OpR X (compareOp op) r) (pa : PE X a ta) (pb : PE X b tb) : PC X op a b (tOp r ta tb) :=
  ⟨fun pins s σ H Q I h => thn (pa.run pins s σ H _ I h) fun v s1 ⟨x, H1, I1, r1, q1⟩ => thn (pb.run pins s1 σ H1 _ I1 q1) fun u s2 ⟨y, H2, I2, r2, q2⟩ => ho pins s2 σ H2 x y v u Q I2 r1 r2 q2⟩
theorem bin_imp (ho : B2 K g opD r) {σ : L2.St} {H : Hp} {Q : VK} (sz : Sz H) (q : tD K g E (e2 opD f1 f2) σ H Q) : tOp r (tD K g E f1) (tD K g E f2) σ H Q := by
  obtain ⟨Z, κ, s, ρ, at0, p⟩ := q sz
  refine tD.mk at0 (PostG.mono (PostG.bind p) fun x κ1 s1 H1 x1 p1 v rv => ?_)
  refine tD.mk (at0.ext x1) (PostG.mono (PostG.bind p1) fun y κ2 s2 H2 x2 p2 u ru => ?_)
  obtain ⟨d', e', q1, q2⟩ := p2.of x2.held
  exact ho Z κ2 s2 H2 x y d' v u Q x2.held (rv.stays x2.stays) ru e' fun κ' H' y v rv => q2 κ' H' y v rv
theorem pcd (ho : OpR X (compareOp op) r) (hb : B2 K g opD r) (pa : PE X a (tD K g E f1)) (pb : PE X b (tD K g E f2)) : PC X op a b (tD K g E (e2 opD f1 f2)) := PC.imp (pcR ho pa pb) fun σ H Q sz q => bin_imp hb sz q
theorem din_imp {σ : L2.St} {H : Hp} {Q : VK} (sz : Sz H) (q : tD K g E (e2 dinD f1 f2) σ H Q) : tDIn (tD K g E f1) (tD K g E f2) σ H Q := by
  obtain ⟨Z, κ, s, ρ, at0, p⟩ := q sz
  refine tD.mk at0 (PostG.mono (PostG.bind p) fun x κ1 s1 H1 x1 p1 v rv => ?_)
  refine tD.mk (at0.ext x1) (PostG.mono (PostG.bind p1) fun y κ2 s2 H2 x2 p2 u ru => ?_)
  obtain ⟨d', e', _, q'⟩ := p2.of x2.held
  unfold dinD at e'
  split at e'
  · rename_i hk
    obtain ⟨⟨ks, ds⟩, e3, rfl⟩ := Option.map_eq_some_iff.mp e'
    obtain ⟨k, b, rfl, rfl, hb⟩ := key_tup (rv.stays x2.stays) hk
    obtain ⟨a, kvs, rfl, h1, rfl, h3⟩ := dic_rep x2.held ru e3
    have hf := dfind_of (k := k) h3
    refine ⟨a, valV kvs k, rfl, .inr ⟨kvs, k, b, h1, rfl, hb, rfl⟩, ?_⟩
    refine q' κ2 H2 (.refl x2.held) _ ?_
    show _ = _
    cases hd : dfind (kvs.map fun p => kT p.1) ds (kT k) with
    | none => rw [hd] at hf; rw [show valV kvs k = none from hf]; rfl
    | some d => rw [hd] at hf; obtain ⟨w, e4, _⟩ := hf; rw [e4]; rfl
  · cases e'
theorem pcd_din (hu : X.A.units + 1 < cLine) (pa : PE X a (tD K g E f1)) (pb : PE X b (tD K g E f2)) : PC X .In a b (tD K g E (e2 dinD f1 f2)) := PC.imp (pc_din hu pa pb) fun σ H Q sz q => din_imp sz q
theorem pd_gint {i : Int} (hg : Gl X x) (h : ∃ t, X.mg x = some (.int i t)) (hd : (x == ("__debug__" : Str)) = false := by decide) : PE X (.Name x pos) (tD K g E (eC (.int i))) := by
  obtain ⟨t, ht⟩ := h
  exact pd_c (pe_glob (v := .int i) hg ht ⟨t, rfl⟩ hd) fun _ _ _ => rfl
theorem pd_gstr {i : Str} (hg : Gl X x) (h : ∃ t, X.mg x = some (.str i t)) (hd : (x == ("__debug__" : Str)) = false := by decide) : PE X (.Name x pos) (tD K g E (eC (.str i))) := by
  obtain ⟨t, ht⟩ := h
  exact pd_c (pe_glob (v := .str i) hg ht ⟨t, rfl⟩ hd) fun _ _ _ => rfl
theorem pd_notv (h : PE X a (tD K g E f)) (hK : X.K = K := by rfl) : PE X (.UnaryOp .Not a pos) (tD K g E (eNot (tTru f))) := by
  refine PE.imp (pe_notT h) fun σ H Q sz q => ?_
  obtain ⟨Z, κ, s, ρ, at0, p⟩ := q sz
  have p0 : PostG K g Z E κ s H ((f ρ s).b fun x s => (R.of (truD s x) s).b fun k s => .ok (.bl (!k)) s) (OkD K g Z Q) := by
    have e1 : (eNot (tTru f)) ρ s = (f ρ s).b fun x s => (R.of (truD s x) s).b fun k s => .ok (.bl (!k)) s := by
      unfold eNot tTru
      cases f ρ s <;> rfl
    rw [← e1]; exact p
  refine tD.mk at0 (PostG.mono (PostG.bind p0) fun x κ1 s1 H1 x1 p1 v rv => ?_)
  cases ht : truD s1 x with
  | none => rw [ht] at p1; exact p1.elim
  | some k => rw [ht] at p1; exact ⟨k, by rw [hK]; exact truV_of rv x1.held ht, p1 κ1 H1 (.refl x1.held) _ rfl⟩
theorem pst_no0 : PS X st (tS K g E sNo) := ⟨fun pins s σ H D I q => by obtain ⟨Z, κ, s, ρ, at0, p⟩ := q (sz_of I); exact p.elim⟩
theorem pd_no0 : PE X e (tD K g E eNo) := ⟨fun pins s σ H Q I q => by obtain ⟨Z, κ, s, ρ, at0, p⟩ := q (sz_of I); exact p.elim⟩
theorem pb_truth (ha : PE X a (tD K g E f)) (hK : X.K = K := by rfl) (he : ∀ whole, isTrue a X.env whole = (do let v ← whole; standAt a.pos; holding [v] (truthy v)) := by intro _; rfl) : PT X a (CL.tB K g E (tTru f)) := pb_tru hK (pt_truth ha he)
theorem pb_cmp {h1 : behindInMarks op b = false} (h : PC X op a b (tD K g E f)) : PT X (.Compare a [op] [b] pos) (CL.tB K g E (tVal f)) := pb_val (pt_cmp h h1)
end
section
variable {a b c e : Expr} {f f1 f2 f3 : Ex} {pos : Pos} {kws : List Keyword} {A1 : Ax}
theorem PK.imp {t t' : TA} (h : PK X kws t) (i : ∀ σ H Q, Sz H → t' σ H Q → t σ H Q) : PK X kws t' := ⟨fun pos pins s σ H Q I q => h.run pos pins s σ H Q I (i σ H Q (sz_of I) q)⟩
theorem pkd_nil (h : PK X kws tNil) : PK X kws (tA K g E aNil) := by
  refine PK.imp h fun σ H Q sz q => ?_
  obtain ⟨Z, κ, s, ρ, at0, p⟩ := q sz
  exact p κ H (.refl at0.held) [] Reps.nil
theorem pkd_cons (h : PK X kws (tCons (tD K g E f) (tA K g E A1))) : PK X kws (tA K g E (aCons f A1)) := by
  refine PK.imp h fun σ H Q sz q => ?_
  obtain ⟨Z, κ, s, ρ, at0, p⟩ := q sz
  refine tD.mk at0 (PostG.mono (PostG.bind p) fun x κ1 s1 H1 x1 p1 v rv => ?_)
  refine tA.mk (at0.ext x1) (PostG.mono (PostG.bind p1) fun xs κ2 s2 H2 x2 p2 vs rvs => ?_)
  exact p2 κ2 H2 (.refl x2.held) _ (.cons (rv.stays x2.stays) rvs)
theorem PT.imp' {t t' : TT} (h : PT X e t) (i : ∀ σ H Q, Sz H → t' σ H Q → t σ H Q) : PT X e t' := PT.imp h i
theorem ch_imp {op op' : S → D → D → Option D} {r r' : R2} (ho : B2 K g op r) (ho' : B2 K g op' r') {σ : L2.St} {H : Hp} {Q : VK} (sz : Sz H) (q : tD K g E (eCh op op' f1 f2 f3) σ H Q) : tChain r r' (tD K g E f1) (tD K g E f2) (tD K g E f3) σ H Q := by
  obtain ⟨Z, κ, s, ρ, at0, p⟩ := q sz
  refine tD.mk at0 (PostG.mono (PostG.bind p) fun x κ1 s1 H1 x1 p1 v rv => ?_)
  refine tD.mk (at0.ext x1) (PostG.mono (PostG.bind p1) fun y κ2 s2 H2 x2 p2 u ru => ?_)
  cases eo : op s2 x y with
  | none => rw [eo] at p2; exact p2.elim
  | some d =>
    rw [eo] at p2
    cases d with
    | bl k =>
      refine ho Z κ2 s2 H2 x y (.bl k) v u _ x2.held (rv.stays x2.stays) ru eo fun κ3 H3 x3 w rw' => ⟨k, rw', ?_⟩
      cases k with
      | false =>
        rw [if_neg Bool.false_ne_true]
        exact p2 κ3 H3 x3 _ rfl
      | true =>
        rw [if_pos rfl]
        have p3 : PostG K g Z E κ2 s2 H2 ((f3 ρ s2).b fun z s => R.of (op' s y z) s) (OkD K g Z Q) := p2
        refine tD.mk (at0.ext (x1.trans (x2.trans x3))) (PostG.mono (PostG.bind (p3.ext x3)) fun z κ4 s4 H4 x4 p4 w' rw'' => ?_)
        obtain ⟨d', e', _, q'⟩ := p4.of x4.held
        exact ho' Z κ4 s4 H4 y z d' u w' Q x4.held (ru.stays (x3.trans x4).stays) rw'' e' q'
    | _ => exact p2.elim
theorem pb_chain {o o' : CmpOp} {op op' : S → D → D → Option D} {r r' : R2} (h1 : OpR X (compareOp o) r) (h2 : OpR X (compareOp o') r') (ho : B2 K g op r) (ho' : B2 K g op' r') (pa : PE X a (tD K g E f1)) (pb : PE X b (tD K g E f2)) (pc : PE X c (tD K g E f3))
    (hm : lastMarks [o, o'] [b, c] = false := by with_unfolding_all rfl) : PT X (.Compare a [o, o'] [b, c] pos) (CL.tB K g E (tVal (eCh op op' f1 f2 f3))) :=
  pb_test (PT.imp (pt_chain h1 h2 pa pb pc hm) fun σ H Q sz q => ch_imp ho ho' sz q)

end
section
variable {a b e : Expr} {f f1 f2 : Ex} {x : Str} {p pos : Pos} {id T : String} {r : List V → Hp → VK → Prop} {op : S → D → Option D} {op2 : S → D → D → Option D}
theorem pd_b1 (hc : CallR X (.builtin id) r) (ho : U1 K g op (r1 r)) (hg : Gl X x) (hm : X.mg x = none) (hv : bootBuiltins x = some (.builtin id)) (pa : PE X a (tD K g E f)) (hn : x ≠ "__name__" := by decide) (hdb : (x == ("__debug__" : Str)) = false := by decide)
    (he : starEach [a] X.env = (false, eval a X.env) :: starEach [] X.env := by rfl) (hpl : (backTo pos (starEach [] X.env)).any (·.1) = false := by rfl) : PE X (.Call (.Name x p) [a] [] pos) (tD K g E (e1 op f)) := by
  have h : PE X (.Call (.Name x p) [a] [] pos) (tCB r (tCons (tD K g E f) tNil)) := pe_callB hc hg hm hv (pa_cons pa pa_nil he) hn hdb he hpl
  exact pd_un (r := r1 r) h ho
theorem pd_t1 (hc : CallR X (.type T) r) (ho : U1 K g op (r1 r)) (hg : Gl X x) (hm : X.mg x = none) (hv : bootBuiltins x = some (.type T)) (pa : PE X a (tD K g E f)) (hn : x ≠ "__name__" := by decide) (hdb : (x == ("__debug__" : Str)) = false := by decide)
    (he : starEach [a] X.env = (false, eval a X.env) :: starEach [] X.env := by rfl) (hpl : (backTo pos (starEach [] X.env)).any (·.1) = false := by rfl) : PE X (.Call (.Name x p) [a] [] pos) (tD K g E (e1 op f)) := by
  have h : PE X (.Call (.Name x p) [a] [] pos) (tCB r (tCons (tD K g E f) tNil)) := pe_callTy hc hg hm hv (pa_cons pa pa_nil he) hn hdb he hpl
  exact pd_un (r := r1 r) h ho
theorem pd_b2 (hc : CallR X (.builtin id) r) (ho : B2 K g op2 (r2 r)) (hg : Gl X x) (hm : X.mg x = none) (hv : bootBuiltins x = some (.builtin id)) (pa : PE X a (tD K g E f1)) (pb : PE X b (tD K g E f2)) (hn : x ≠ "__name__" := by decide) (hdb : (x == ("__debug__" : Str)) = false := by decide)
    (he : starEach [a, b] X.env = (false, eval a X.env) :: starEach [b] X.env := by rfl) (he2 : starEach [b] X.env = (false, eval b X.env) :: starEach [] X.env := by rfl) (hpl : (backTo pos (starEach [b] X.env)).any (·.1) = false := by rfl) : PE X (.Call (.Name x p) [a, b] [] pos) (tD K g E (e2 op2 f1 f2)) := by
  have h : PE X (.Call (.Name x p) [a, b] [] pos) (tCB r (tCons (tD K g E f1) (tCons (tD K g E f2) tNil))) := pe_callB hc hg hm hv (pa_cons pa (pa_cons pb pa_nil he2) he) hn hdb he hpl
  exact pd_bin (r := r2 r) h ho
end
section
variable {e : Expr} {es : List Expr} {x : Str} {p pos : Pos} {kws : List Keyword} {A1 A2 : Ax} {φ : Fn} {c n j k : Nat} {C f : Addr} {fd : FuncData} {ps ks : List Str}
theorem pd_mkK (hc : Cls K (g.Γ c)) (M : Mk X.K C f) (F : FnOk X.prog X.w X.K X.mg X.base CX0 k f fd ps (spF K g (n + j + 1) φ)) (hr : Room (k + 1) X.A) (hg : Gl X x) (hm : X.mg x = some (.ref C)) (hC : C = g.Γ c)
    (hb : KBn X.K fd ps (n + 1) ks (fun us ws => us ++ ws) (fun vs zs => vs ++ zs)) (hj : ks.length = j) (ha : PA X (e :: es) (tA K g E A1)) (hkw : PK X kws (tA K g E A2)) (hn : ∀ ds s, ds.length ≠ n + j + 1 → φ ds s = .fail)
    (h1 : ∀ ρ s ds s', A1 ρ s = .ok ds s' → ds.length = n) (h2 : ∀ ρ s ds s', A2 ρ s = .ok ds s' → ds.length = j)
    (hall : (backToKw pos (keywordEach kws X.env)).all (·.1.isSome) = true := by rfl) (hks : (backToKw pos (keywordEach kws X.env)).filterMap (·.1) = ks := by rfl) (hdb : (x == ("__debug__" : Str)) = false := by decide)
    (he : starEach (e :: es) X.env = (false, eval e X.env) :: starEach es X.env := by rfl) (hpl : ((backTo pos (starEach (e :: es) X.env)).any (·.1) || (backToKw pos (keywordEach kws X.env)).any (·.1.isNone)) = false := by rfl) :
    PE X (.Call (.Name x p) (e :: es) kws pos) (tD K g E (eMakeK c φ A1 A2)) := by
  subst hj hC
  exact pd_makeK hc (pe_makeK M F hr hg hm hb passA ha hkw hall hks hdb he hpl) hn h1 h2
end
theorem sl_any : SlR X (fun x l u H Q => rSlL X.K x l u H Q ∨ rSlA X.K x l u H Q) := sl_list.or sl_tupA
theorem ix_any : IxR X (fun x y H Q => rIxL X.K x y H Q ∨ rIxT X.K x y H Q) := ix_list.or ix_tup
theorem fn_ok_fail {P : Program} {w : World} {mg : Str → Option Value} {base : Heap} {k n : Nat} {f : Addr} {fd : FuncData} {ps : List Str} (hn : ps.length = n) : FnOk P w K mg base CX0 k f fd ps (spF K g n fun _ _ => .fail) :=
  ⟨fun vs H Q E h => by rw [hn]; exact h.1, fun A outer s H args us vs Q E _ _ _ _ h => by obtain ⟨_, Z, κ, s, ds, _, _, p⟩ := h; exact p.elim⟩
theorem rep_et {κ : List Addr} {L : Addr → Prop} {H : Hp} {a : Addr} (h : StT K a []) : Rep K g κ L H (.tup []) (.ref a) := ⟨a, [], rfl, .inr ⟨rfl, h⟩, .nil⟩
end
end CL
end
section
set_option Elab.async false
set_option linter.all false
set_option maxRecDepth 100000
set_option maxHeartbeats 0
namespace K63
open PySem PySem.Spec PyProof.Rows L2 CL
def cfg (K : PySem.W.Frag) : Cfg := ⟨clA K, fun k => nmL.getD k "", fun k => k < 34, by intro i j hi hj; revert j; revert i; decide +kernel⟩
theorem okF {K : PySem.W.Frag} (k : Nat) (h : k < 34) : (cfg K).ok k := h
theorem topS : (Pg.main.scope.names.lookup ("super" : Str)).isSome = false := by decide +kernel
structure Fx (K : PySem.W.Frag) (h : Heap) (mg : Str → Option Value) : Prop where
  KX : K.In h
  G : h.Ns mainGlobals mg
  c : HM.SaysM fa fn ex K
section
variable {K : PySem.W.Frag} {h : Heap} {mg : Str → Option Value}
theorem Fx.exI (T : Fx K h mg) (i : Nat) {b : Bool} (e : (exL K)[i]? = some b := by rfl) : b = true := List.all_eq_true.mp T.c.extra b (List.mem_of_getElem? e)
theorem Fx.glo (T : Fx K h mg) (i : Nat) {x : Str} (e : fa[i]? = some (.glo x) := by rfl) : mg x = some (.ref (He.ga K x)) := He.glo_ok T.KX T.G (T.c.fact (List.mem_of_getElem? e))
theorem Fx.free (T : Fx K h mg) (i : Nat) {x : Str} (e : fa[i]? = some (.free x) := by rfl) : mg x = none := He.free_ok T.KX T.G (T.c.fact (List.mem_of_getElem? e))
theorem Fx.gint (T : Fx K h mg) (i : Nat) {x : Str} {n : Int} (e : fa[i]? = some (.int x n) := by rfl) : ∃ t, mg x = some (.int n t) := He.int_ok T.KX T.G (T.c.fact (List.mem_of_getElem? e))
theorem Fx.gstr (T : Fx K h mg) (i : Nat) {x z : Str} (e : fa[i]? = some (.str x z) := by rfl) : ∃ t, mg x = some (.str z t) := He.str_ok T.KX T.G (T.c.fact (List.mem_of_getElem? e))
theorem Fx.cls (T : Fx K h mg) (i : Nat) {x : Str} (e : fa[i]? = some (.cls x) := by rfl) : Cls K (He.ga K x) := He.cls_ok (T.c.fact (List.mem_of_getElem? e))
theorem Fx.noat (T : Fx K h mg) (i : Nat) {x f : Str} (e : fa[i]? = some (.noat x f) := by rfl) : NoAttr K (He.ga K x) f := He.noat_ok (T.c.fact (List.mem_of_getElem? e))
theorem Fx.meth (T : Fx K h mg) (i : Nat) {x m : Str} (e : fa[i]? = some (.meth x m) := by rfl) : Meth K (He.ga K x) m (He.ma K (He.ga K x) m) := He.meth_ok (T.c.fact (List.mem_of_getElem? e))
theorem Fx.mkr (T : Fx K h mg) (i : Nat) {x : Str} (e : fa[i]? = some (.mkr x) := by rfl) : Mk K (He.ga K x) (He.ma K (He.ga K x) "__init__") := He.mkr_ok (T.c.fact (List.mem_of_getElem? e))
theorem Fx.prop_Foot_foot (T : Fx K h mg) : PropOf K (He.ga K "Foot") "foot" (He.ma K (He.ga K "Foot") "foot") (HM.pgM K "Foot" "foot") := HM.propB_ok (T.exI 0)
theorem Fx.prop_Road_foot (T : Fx K h mg) : PropOf K (He.ga K "Road") "foot" (He.ma K (He.ga K "Road") "foot") (HM.pgM K "Road" "foot") := HM.propB_ok (T.exI 1)
theorem Fx.prop_Rate_full (T : Fx K h mg) : PropOf K (He.ga K "Rate") "full" (He.ma K (He.ga K "Rate") "full") (HM.pgM K "Rate" "full") := HM.propB_ok (T.exI 2)
theorem Fx.hdd (T : Fx K h mg) : ∀ (κ : List Addr) (L : Addr → Prop) (H : Hp), Reps K (cfg K) κ L H [.tup [], .tup [], .non] (d_next_lights.dvs K) := fun κ L H => .cons (rep_et (HM.etB_ok (T.exI 3))) (.cons (rep_et (HM.etB_ok (T.exI 4))) (.cons rfl .nil))
theorem Fx.sup_Foot (T : Fx K h mg) : SupK K Pg.main.file "__init__" "self" (He.ga K "Foot") (He.ga K "Foot") (He.ma K (He.ga K "Foot") "__init__") (HM.cdM K (He.ma K (He.ga K "Foot") "__init__")) (HM.ccM K (He.ma K (He.ga K "Foot") "__init__")) (He.ma K (He.ga K "Lane") "__init__") := HM.supB_ok (T.exI 5)
theorem Fx.sup_Road (T : Fx K h mg) : SupK K Pg.main.file "__init__" "self" (He.ga K "Road") (He.ga K "Road") (He.ma K (He.ga K "Road") "__init__") (HM.cdM K (He.ma K (He.ga K "Road") "__init__")) (HM.ccM K (He.ma K (He.ga K "Road") "__init__")) (He.ma K (He.ga K "Lane") "__init__") := HM.supB_ok (T.exI 6)
theorem Fx.nofld_phase (_ : Fx K h mg) : NoFld (cfg K) "phase" := by show ∀ k, k < 34 → nmL.getD k "" ≠ "phase"; decide +kernel
theorem Fx.nofld_longest (_ : Fx K h mg) : NoFld (cfg K) "longest" := by show ∀ k, k < 34 → nmL.getD k "" ≠ "longest"; decide +kernel
theorem Fx.nofld_lane (_ : Fx K h mg) : NoFld (cfg K) "lane" := by show ∀ k, k < 34 → nmL.getD k "" ≠ "lane"; decide +kernel
theorem Fx.nofld_turned (_ : Fx K h mg) : NoFld (cfg K) "turned" := by show ∀ k, k < 34 → nmL.getD k "" ≠ "turned"; decide +kernel
theorem Fx.nofld_at (_ : Fx K h mg) : NoFld (cfg K) "at" := by show ∀ k, k < 34 → nmL.getD k "" ≠ "at"; decide +kernel
end

end K63
end
section
set_option Elab.async false
set_option linter.all false
set_option maxRecDepth 100000
set_option maxHeartbeats 0
namespace K63
open PySem PySem.Spec PyProof.Rows L2 CL
theorem bk_blk {N : List Str} {sc scope : Scope} {own : List (Str × Nat)} {cl : List (Str × Addr)} {C : Addr} {env : PySem.Env} (h0 : ∀ x ∈ sc.names, x.2 ≠ NameKind.free) (h : blkC N sc scope own = true) : BlkOk N (compEnvC sc cl C env).scope scope own := by
  have e : relabel sc env = sc := by
    have : (sc.names.map fun (n, k) => if (k == NameKind.free && env.scope.kind == ScopeKind.function && env.kindOf n == some NameKind.cell) then (n, NameKind.cell) else (n, k)) = sc.names := by
      refine (List.map_congr_left (g := id) fun x hx => ?_).trans (List.map_id _)
      obtain ⟨n, k⟩ := x
      have hk := h0 _ hx
      cases k <;> first | rfl | exact absurd rfl hk
    unfold relabel
    rw [this]
  show BlkOk N (relabel sc env) scope own
  rw [e]
  exact blkOk_by h
theorem sc_is_urged : FnScope ["phase", "bus"] ["phase", "bus"] (defScope (top 23)) := ⟨rfl, rfl, rfl, by decide +kernel, rfl, by decide +kernel, by decide +kernel⟩
section
variable {w : World} {K : PySem.W.Frag} {h : Heap} {mg : Str → Option Value} {base : Heap}
theorem ok_is_urged (T : Fx K h mg) : FnI Pg w K mg base 1 (He.ga K "is_urged") ["phase", "bus"] (spF K (cfg K) 2 F_is_urged) := by
  obtain ⟨fd, F⟩ := T.c.funD 0 (d := d_is_urged) rfl
  have Sc := sc_is_urged
  refine ⟨fd, fn_ok0 F Sc rfl rfl (by decide) fun cdv A outer s H E hr => ?_, F.bindsN fun _ _ _ _ _ _ us hl => match us, hl with | [_, _], _ => rfl, F.kp⟩
  exact (pds_cons (pss_cons (pst_ret (ps_ret (pd_and (pe_and (pe_cmp (pcd op_notN b_isn (pd_var 1 (pv 1)) (pd_c pe_non fun _ _ _ => rfl))) (pe_one (pe_cmp (pcd op_inA b_in (pd_var 1 (pv 1)) (pd_fld (fl := 13) (pe_fld (pd_var 0 (pv 0)) rfl))))))))) (pds_nil pss_nil)))
end
theorem sc_is_barred : FnScope ["phase", "bus"] ["phase", "bus"] (defScope (top 24)) := ⟨rfl, rfl, rfl, by decide +kernel, rfl, by decide +kernel, by decide +kernel⟩
section
variable {w : World} {K : PySem.W.Frag} {h : Heap} {mg : Str → Option Value} {base : Heap}
theorem ok_is_barred (T : Fx K h mg) : FnI Pg w K mg base 2 (He.ga K "is_barred") ["phase", "bus"] (spF K (cfg K) 2 F_is_barred) := by
  obtain ⟨fd, F⟩ := T.c.funD 1 (d := d_is_barred) rfl
  obtain ⟨fd0, G0, B0, K0⟩ := (ok_is_urged (w := w) (base := base) T).ex
  have Sc := sc_is_barred
  refine ⟨fd, fn_ok0 F Sc rfl rfl (by decide) fun cdv A outer s H E hr => ?_, F.bindsN fun _ _ _ _ _ _ us hl => match us, hl with | [_, _], _ => rfl, F.kp⟩
  exact (pds_cons (pss_cons (pst_ret (ps_ret (pd_and (pe_and (pd_fld (fl := 19) (pe_fld (pd_var 0 (pv 0)) rfl)) (pd_and (pe_and (pe_cmp (pcd op_notN b_isn (pd_var 1 (pv 1)) (pd_c pe_non fun _ _ _ => rfl))) (pe_one (pd_notv (pd_call (pe_call (G0.mono (by omega)) hr rfl (T.glo 0) K0 B0 .nil passA (pda_cons (pa_cons (pd_var 0 (pv 0)) (pda_cons (pa_cons (pd_var 1 (pv 1)) (pda_nil pa_nil)))))) runB_len))))))))) (pds_nil pss_nil)))
end
theorem sc_is_wanted : FnScope ["phase", "waiting", "bus", "call"] ["phase", "waiting", "bus"] (defScope (top 25)) := ⟨rfl, rfl, rfl, by decide +kernel, rfl, by decide +kernel, by decide +kernel⟩
section
variable {w : World} {K : PySem.W.Frag} {h : Heap} {mg : Str → Option Value} {base : Heap}
theorem ok_is_wanted (T : Fx K h mg) : FnI Pg w K mg base 3 (He.ga K "is_wanted") ["phase", "waiting", "bus"] (spF K (cfg K) 3 F_is_wanted) := by
  obtain ⟨fd, F⟩ := T.c.funD 2 (d := d_is_wanted) rfl
  obtain ⟨fd0, G0, B0, K0⟩ := (ok_is_barred (w := w) (base := base) T).ex
  obtain ⟨fd1, G1, B1, K1⟩ := (ok_is_urged (w := w) (base := base) T).ex
  have Sc := sc_is_wanted
  have BK : ∀ (scope : Scope) (own : List (Str × Nat)), blkC ["phase", "waiting", "bus", "call"] (defScope (top 25)) scope own = true → BlkOk ["phase", "waiting", "bus", "call"] (defScope (top 25)) scope own := fun _ _ h => blkOk_by h
  refine ⟨fd, fn_ok0 F Sc rfl rfl (by decide) fun cdv A outer s H E hr => ?_, F.bindsN fun _ _ _ _ _ _ us hl => match us, hl with | [_, _, _], _ => rfl, F.kp⟩
  exact (pds_cons (pss_cons (pst_if (ps_if (pb_truth (pd_call (pe_call (G0.mono (by omega)) hr rfl (T.glo 1) K0 B0 .nil passA (pda_cons (pa_cons (pd_var 0 (pv 0)) (pda_cons (pa_cons (pd_var 2 (pv 2)) (pda_nil pa_nil)))))) runB_len)) (pds_cons (pss_cons (pst_ret (ps_ret (pd_c pe_bl fun _ _ _ => rfl))) (pds_nil pss_nil))) (pds_nil pss_nil))) (pds_cons (pss_cons (pst_if (ps_if (PW.pt (pb_or (pw_or (pb_not (pt_not (pb_truth (pd_fld (fl := 18) (pe_fld (pd_var 0 (pv 0)) rfl))))) (pw_or1 (pb_truth (pd_call (pe_call (G1.mono (by omega)) hr rfl (T.glo 0) K1 B1 .nil passA (pda_cons (pa_cons (pd_var 0 (pv 0)) (pda_cons (pa_cons (pd_var 2 (pv 2)) (pda_nil pa_nil)))))) runB_len)))))) (pds_cons (pss_cons (pst_ret (ps_ret (pd_c pe_bl fun _ _ _ => rfl))) (pds_nil pss_nil))) (pds_nil pss_nil))) (pds_cons (pss_cons (pst_ret (ps_ret (pd_b1 (cr_any rfl) u_any rfl (T.free 2) bb_any (pd_lc (own := [3]) i_lst (g_name 3) (by decide) ht_y (pe_lc (own := [("call", 3)]) rfl Sc.nd (PI.or (pi_list (pd_fld (fl := 18) (pe_fld (pd_var 0 (pv 0)) rfl))) (pi_tup (pd_fld (fl := 18) (pe_fld (pd_var 0 (pv 0)) rfl)))) (BK _ _ (by decide +kernel)) (fun _ _ _ _ _ => (pg_name (i := 3) Sc.nd rfl (Or.inl rfl))) (fun _ _ _ _ _ => pts_nil) (fun _ _ _ _ _ => (pe_cmp (pcd op_inA b_in (pd_var 3 (pv 3)) (pd_var 1 (pv 1)))))))))) (pds_nil pss_nil)))))))
end
theorem sc_is_held : FnScope ["phase", "came", "bus", "stream"] ["phase", "came", "bus"] (defScope (top 26)) := ⟨rfl, rfl, rfl, by decide +kernel, rfl, by decide +kernel, by decide +kernel⟩
section
variable {w : World} {K : PySem.W.Frag} {h : Heap} {mg : Str → Option Value} {base : Heap}
theorem ok_is_held (T : Fx K h mg) : FnI Pg w K mg base 3 (He.ga K "is_held") ["phase", "came", "bus"] (spF K (cfg K) 3 F_is_held) := by
  obtain ⟨fd, F⟩ := T.c.funD 3 (d := d_is_held) rfl
  obtain ⟨fd0, G0, B0, K0⟩ := (ok_is_barred (w := w) (base := base) T).ex
  obtain ⟨fd1, G1, B1, K1⟩ := (ok_is_urged (w := w) (base := base) T).ex
  have Sc := sc_is_held
  have BK : ∀ (scope : Scope) (own : List (Str × Nat)), blkC ["phase", "came", "bus", "stream"] (defScope (top 26)) scope own = true → BlkOk ["phase", "came", "bus", "stream"] (defScope (top 26)) scope own := fun _ _ h => blkOk_by h
  refine ⟨fd, fn_ok0 F Sc rfl rfl (by decide) fun cdv A outer s H E hr => ?_, F.bindsN fun _ _ _ _ _ _ us hl => match us, hl with | [_, _, _], _ => rfl, F.kp⟩
  exact (pds_cons (pss_cons (pst_if (ps_if (pb_truth (pd_call (pe_call (G0.mono (by omega)) hr rfl (T.glo 1) K0 B0 .nil passA (pda_cons (pa_cons (pd_var 0 (pv 0)) (pda_cons (pa_cons (pd_var 2 (pv 2)) (pda_nil pa_nil)))))) runB_len)) (pds_cons (pss_cons (pst_ret (ps_ret (pd_c pe_bl fun _ _ _ => rfl))) (pds_nil pss_nil))) (pds_nil pss_nil))) (pds_cons (pss_cons (pst_ret (ps_ret (pd_or (pe_or (pd_call (pe_call (G1.mono (by omega)) hr rfl (T.glo 0) K1 B1 .nil passA (pda_cons (pa_cons (pd_var 0 (pv 0)) (pda_cons (pa_cons (pd_var 2 (pv 2)) (pda_nil pa_nil)))))) runB_len) (pe_one (pd_b1 (cr_any rfl) u_any rfl (T.free 2) bb_any (pd_lc (own := [3]) i_lst (g_name 3) (by decide) ht_y (pe_lc (own := [("stream", 3)]) rfl Sc.nd (PI.or (pi_list (pd_fld (fl := 17) (pe_fld (pd_var 0 (pv 0)) rfl))) (pi_tup (pd_fld (fl := 17) (pe_fld (pd_var 0 (pv 0)) rfl)))) (BK _ _ (by decide +kernel)) (fun _ _ _ _ _ => (pg_name (i := 3) Sc.nd rfl (Or.inl rfl))) (fun _ _ _ _ _ => pts_nil) (fun _ _ _ _ _ => (pe_cmp (pcd op_inA b_in (pd_var 3 (pv 3)) (pd_var 1 (pv 1))))))))))))) (pds_nil pss_nil)))))
end
theorem sc_Book_len : FnScope ["self"] ["self"] (defScope (inClass (top 43) 2)) := ⟨rfl, rfl, rfl, by decide +kernel, rfl, by decide +kernel, by decide +kernel⟩
section
variable {w : World} {K : PySem.W.Frag} {h : Heap} {mg : Str → Option Value} {base : Heap}
theorem ok_Book_len (T : Fx K h mg) : FnI Pg w K mg base 1 (He.ma K (He.ga K "Book") "__len__") ["self"] (spF K (cfg K) 1 F_Book_len) := by
  obtain ⟨fd, F⟩ := T.c.funD 4 (d := d_Book_len) rfl
  have Sc := sc_Book_len
  refine ⟨fd, fn_ok0 F Sc rfl rfl (by decide) fun cdv A outer s H E hr => ?_, F.bindsN fun _ _ _ _ _ _ us hl => match us, hl with | [_], _ => rfl, F.kp⟩
  exact (pds_cons (pss_cons (pst_ret (ps_ret (pd_b1 call_len u_len rfl (T.free 3) bb_len (pd_fld (fl := 4) (pe_fld (pd_var 0 (pv 0)) rfl))))) (pds_nil pss_nil)))
end
theorem sc_Book_phase : FnScope ["self", "number"] ["self", "number"] (defScope (inClass (top 43) 3)) := ⟨rfl, rfl, rfl, by decide +kernel, rfl, by decide +kernel, by decide +kernel⟩
section
variable {w : World} {K : PySem.W.Frag} {h : Heap} {mg : Str → Option Value} {base : Heap}
theorem ok_Book_phase (T : Fx K h mg) : FnI Pg w K mg base 1 (He.ma K (He.ga K "Book") "phase") ["self", "number"] (spF K (cfg K) 2 F_Book_phase) := by
  obtain ⟨fd, F⟩ := T.c.funD 5 (d := d_Book_phase) rfl
  have Sc := sc_Book_phase
  refine ⟨fd, fn_ok0 F Sc rfl rfl (by decide) fun cdv A outer s H E hr => ?_, F.bindsN fun _ _ _ _ _ _ us hl => match us, hl with | [_, _], _ => rfl, F.kp⟩
  exact (pds_cons (pss_cons (pst_if (ps_if (pb_not (pt_not (pb_chain op_le op_lt b_le b_lt (pd_c pe_int fun _ _ _ => rfl) (pd_var 1 (pv 1)) (pd_b1 call_len u_len rfl (T.free 3) bb_len (pd_fld (fl := 4) (pe_fld (pd_var 0 (pv 0)) rfl)))))) (pds_cons (pss_cons pst_no0 (pds_nil pss_nil))) (pds_nil pss_nil))) (pds_cons (pss_cons (pst_ret (ps_ret (pd_bin (pe_ix ix_any (pd_fld (fl := 4) (pe_fld (pd_var 0 (pv 0)) rfl)) (pd_var 1 (pv 1)) fun _ _ => rfl) b_ix))) (pds_nil pss_nil)))))
end
theorem sc_is_proper : FnScope ["book", "lights", "phase", "greatest", "beat", "number", "count"] ["book", "lights"] (defScope (top 20)) := ⟨rfl, rfl, rfl, by decide +kernel, rfl, by decide +kernel, by decide +kernel⟩
section
variable {w : World} {K : PySem.W.Frag} {h : Heap} {mg : Str → Option Value} {base : Heap}
theorem ok_is_proper (T : Fx K h mg) : FnI Pg w K mg base 3 (He.ga K "is_proper") ["book", "lights"] (spF K (cfg K) 2 F_is_proper) := by
  obtain ⟨fd, F⟩ := T.c.funD 6 (d := d_is_proper) rfl
  obtain ⟨fd0, G0, B0, K0⟩ := (ok_Book_len (w := w) (base := base) T).ex
  obtain ⟨fd1, G1, B1, K1⟩ := (ok_Book_phase (w := w) (base := base) T).ex
  have Sc := sc_is_proper
  refine ⟨fd, fn_ok0 F Sc rfl rfl (by decide) fun cdv A outer s H E hr => ?_, F.bindsN fun _ _ _ _ _ _ us hl => match us, hl with | [_, _], _ => rfl, F.kp⟩
  exact (pds_cons (pss_cons (pst_set (g_tup [4, 5, 6] rfl) (ps_asg (pd_var 1 (pv 1)) (pg_tup rfl (pgs_cons (pg_name (i := 4) Sc.nd rfl (Or.inl rfl)) (pgs_cons (pg_name (i := 5) Sc.nd rfl (Or.inl rfl)) (pgs_cons (pg_name (i := 6) Sc.nd rfl (Or.inl rfl)) pgs_nil)))))) (pds_cons (pss_cons (pst_if (ps_if (PW.pt (pb_or (pw_or (pb_not (pt_not (pb_chain op_le op_lt b_le b_lt (pd_c pe_int fun _ _ _ => rfl) (pd_var 4 (pv 4)) (pd_fld (fl := 1) (pe_fld (pd_var 0 (pv 0)) rfl))))) (pw_or1 (pb_not (pt_not (pb_chain op_le op_lt b_le b_lt (pd_c pe_int fun _ _ _ => rfl) (pd_var 5 (pv 5)) (pd_lenO (c := 0) (pe_callB (cr_lenO (T.meth 4) (G0.mono (by omega)) hr B0 passA) rfl (T.free 3) bb_len (pa_cons (pd_var 0 (pv 0)) pa_nil)))))))))) (pds_cons (pss_cons (pst_ret (ps_ret (pd_c pe_bl fun _ _ _ => rfl))) (pds_nil pss_nil))) (pds_nil pss_nil))) (pds_cons (pss_cons (pst_set (g_name 2) (ps_set (i := 2) Sc.nd rfl (Or.inl rfl) (pd_meth (c := 0) T.nofld_phase (pe_meth (pd_var 0 (pv 0)) (T.cls 5) (T.meth 6) (G1.mono (by omega)) hr B1 .nil passA (pda_cons (pa_cons (pd_var 5 (pv 5)) (pda_nil pa_nil)))) runB_len))) (pds_cons (pss_cons (pst_set (g_name 3) (ps_set (i := 3) Sc.nd rfl (Or.inl rfl) (pd_if (pe_ifExp (pb_val (pt_cmp (pcd (op_eqA hr.units) b_eq (pd_var 5 (pv 5)) (pd_c pe_int fun _ _ _ => rfl)))) (pd_c pe_int fun _ _ _ => rfl) (pd_bin (pe_op op_sub (pd_fld (fl := 15) (pe_fld (pd_var 2 (pv 2)) rfl)) (pd_c pe_int fun _ _ _ => rfl)) b_sub))))) (pds_cons (pss_cons (pst_ret (ps_ret (pd_ch (pe_chain op_le op_le (pd_un (pe_un un_neg (pd_fld (fl := 16) (pe_fld (pd_var 2 (pv 2)) rfl))) u_neg) (pd_var 6 (pv 6)) (pd_var 3 (pv 3))) b_le b_le))) (pds_nil pss_nil)))))))))))
end
theorem sc_check_lights : FnScope ["book", "lights"] ["book", "lights"] (defScope (top 21)) := ⟨rfl, rfl, rfl, by decide +kernel, rfl, by decide +kernel, by decide +kernel⟩
section
variable {w : World} {K : PySem.W.Frag} {h : Heap} {mg : Str → Option Value} {base : Heap}
theorem ok_check_lights (T : Fx K h mg) : FnI Pg w K mg base 4 (He.ga K "check_lights") ["book", "lights"] (spF K (cfg K) 2 F_check_lights) := by
  obtain ⟨fd, F⟩ := T.c.funD 7 (d := d_check_lights) rfl
  obtain ⟨fd0, G0, B0, K0⟩ := (ok_is_proper (w := w) (base := base) T).ex
  have Sc := sc_check_lights
  refine ⟨fd, fn_ok0 F Sc rfl rfl (by decide) fun cdv A outer s H E hr => ?_, F.bindsN fun _ _ _ _ _ _ us hl => match us, hl with | [_, _], _ => rfl, F.kp⟩
  exact (pds_cons (pss_cons (pst_if (ps_if (pb_not (pt_not (pb_truth (pd_call (pe_call (G0.mono (by omega)) hr rfl (T.glo 7) K0 B0 .nil passA (pda_cons (pa_cons (pd_var 0 (pv 0)) (pda_cons (pa_cons (pd_var 1 (pv 1)) (pda_nil pa_nil)))))) runB_len)))) (pds_cons (pss_cons pst_no0 (pds_nil pss_nil))) (pds_nil pss_nil))) (pds_nil pss_nil)))
end
theorem sc_shown : FnScope ["book", "lights"] ["book", "lights"] (defScope (top 22)) := ⟨rfl, rfl, rfl, by decide +kernel, rfl, by decide +kernel, by decide +kernel⟩
section
variable {w : World} {K : PySem.W.Frag} {h : Heap} {mg : Str → Option Value} {base : Heap}
theorem ok_shown (T : Fx K h mg) : FnI Pg w K mg base 5 (He.ga K "shown") ["book", "lights"] (spF K (cfg K) 2 F_shown) := by
  obtain ⟨fd, F⟩ := T.c.funD 8 (d := d_shown) rfl
  obtain ⟨fd0, G0, B0, K0⟩ := (ok_check_lights (w := w) (base := base) T).ex
  obtain ⟨fd1, G1, B1, K1⟩ := (ok_Book_phase (w := w) (base := base) T).ex
  have Sc := sc_shown
  refine ⟨fd, fn_ok0 F Sc rfl rfl (by decide) fun cdv A outer s H E hr => ?_, F.bindsN fun _ _ _ _ _ _ us hl => match us, hl with | [_, _], _ => rfl, F.kp⟩
  exact (pds_cons (pss_cons (pst_expr (ps_expr (pd_call (pe_call (G0.mono (by omega)) hr rfl (T.glo 8) K0 B0 .nil passA (pda_cons (pa_cons (pd_var 0 (pv 0)) (pda_cons (pa_cons (pd_var 1 (pv 1)) (pda_nil pa_nil)))))) runB_len))) (pds_cons (pss_cons (pst_if (ps_if (pb_val (pt_cmp (pcd op_lt b_lt (pd_bin (pe_ix ix_any (pd_var 1 (pv 1)) (pd_c pe_int fun _ _ _ => rfl) fun _ _ => rfl) b_ix) (pd_c pe_int fun _ _ _ => rfl)))) (pds_cons (pss_cons (pst_ret (ps_ret (pd_tup (pe_tup (pda_nil pa_nil))))) (pds_nil pss_nil))) (pds_nil pss_nil))) (pds_cons (pss_cons (pst_ret (ps_ret (pd_fld (fl := 13) (pe_fld (pd_meth (c := 0) T.nofld_phase (pe_meth (pd_var 0 (pv 0)) (T.cls 5) (T.meth 6) (G1.mono (by omega)) hr B1 .nil passA (pda_cons (pa_cons (pd_bin (pe_ix ix_any (pd_var 1 (pv 1)) (pd_c pe_int fun _ _ _ => rfl) fun _ _ => rfl) b_ix) (pda_nil pa_nil)))) runB_len) rfl)))) (pds_nil pss_nil)))))))
end
theorem sc_following_phase : FnScope ["book", "number", "waiting", "bus", "other"] ["book", "number", "waiting", "bus"] (defScope (top 27)) := ⟨rfl, rfl, rfl, by decide +kernel, rfl, by decide +kernel, by decide +kernel⟩
section
variable {w : World} {K : PySem.W.Frag} {h : Heap} {mg : Str → Option Value} {base : Heap}
theorem ok_following_phase (T : Fx K h mg) : FnI Pg w K mg base 4 (He.ga K "following_phase") ["book", "number", "waiting", "bus"] (spF K (cfg K) 4 F_following_phase) := by
  obtain ⟨fd, F⟩ := T.c.funD 9 (d := d_following_phase) rfl
  obtain ⟨fd0, G0, B0, K0⟩ := (ok_Book_len (w := w) (base := base) T).ex
  obtain ⟨fd1, G1, B1, K1⟩ := (ok_is_wanted (w := w) (base := base) T).ex
  obtain ⟨fd2, G2, B2, K2⟩ := (ok_Book_phase (w := w) (base := base) T).ex
  have Sc := sc_following_phase
  refine ⟨fd, fn_ok0 F Sc rfl rfl (by decide) fun cdv A outer s H E hr => ?_, F.bindsN fun _ _ _ _ _ _ us hl => match us, hl with | [_, _, _, _], _ => rfl, F.kp⟩
  exact (pds_cons (pss_cons (pst_for i_rng2 (g_name 4) (ps_for PassesOwn.never rfl (pi_range2 rfl (T.free 9) (pda_cons (pa_cons (pd_bin (pe_op op_addA (pd_var 1 (pv 1)) (pd_c pe_int fun _ _ _ => rfl)) b_add) (pda_cons (pa_cons (pd_lenO (c := 0) (pe_callB (cr_lenO (T.meth 4) (G0.mono (by omega)) hr B0 passA) rfl (T.free 3) bb_len (pa_cons (pd_var 0 (pv 0)) pa_nil))) (pda_nil pa_nil)))))) (pg_name (i := 4) Sc.nd rfl (Or.inl rfl)) (pds_cons (pss_cons (pst_if (ps_if (pb_truth (pd_call (pe_call (G1.mono (by omega)) hr rfl (T.glo 10) K1 B1 .nil passA (pda_cons (pa_cons (pd_meth (c := 0) T.nofld_phase (pe_meth (pd_var 0 (pv 0)) (T.cls 5) (T.meth 6) (G2.mono (by omega)) hr B2 .nil passA (pda_cons (pa_cons (pd_var 4 (pv 4)) (pda_nil pa_nil)))) runB_len) (pda_cons (pa_cons (pd_var 2 (pv 2)) (pda_cons (pa_cons (pd_var 3 (pv 3)) (pda_nil pa_nil)))))))) runB_len)) (pds_cons (pss_cons (pst_ret (ps_ret (pd_var 4 (pv 4)))) (pds_nil pss_nil))) (pds_nil pss_nil))) (pds_nil pss_nil))))) (pds_cons (pss_cons (pst_ret (ps_ret (pd_c pe_int fun _ _ _ => rfl))) (pds_nil pss_nil)))))
end
theorem sc_goes_on : FnScope ["book", "lights", "came", "waiting", "bus", "phase", "beat", "number", "count"] ["book", "lights", "came", "waiting", "bus"] (defScope (top 28)) := ⟨rfl, rfl, rfl, by decide +kernel, rfl, by decide +kernel, by decide +kernel⟩
section
variable {w : World} {K : PySem.W.Frag} {h : Heap} {mg : Str → Option Value} {base : Heap}
theorem ok_goes_on (T : Fx K h mg) : FnI Pg w K mg base 5 (He.ga K "goes_on") ["book", "lights", "came", "waiting", "bus"] (spF K (cfg K) 5 F_goes_on) := by
  obtain ⟨fd, F⟩ := T.c.funD 10 (d := d_goes_on) rfl
  obtain ⟨fd0, G0, B0, K0⟩ := (ok_following_phase (w := w) (base := base) T).ex
  obtain ⟨fd1, G1, B1, K1⟩ := (ok_Book_phase (w := w) (base := base) T).ex
  obtain ⟨fd2, G2, B2, K2⟩ := (ok_is_held (w := w) (base := base) T).ex
  have Sc := sc_goes_on
  refine ⟨fd, fn_ok0 F Sc rfl rfl (by decide) fun cdv A outer s H E hr => ?_, F.bindsN fun _ _ _ _ _ _ us hl => match us, hl with | [_, _, _, _, _], _ => rfl, F.kp⟩
  exact (pds_cons (pss_cons (pst_set (g_tup [6, 7, 8] rfl) (ps_asg (pd_var 1 (pv 1)) (pg_tup rfl (pgs_cons (pg_name (i := 6) Sc.nd rfl (Or.inl rfl)) (pgs_cons (pg_name (i := 7) Sc.nd rfl (Or.inl rfl)) (pgs_cons (pg_name (i := 8) Sc.nd rfl (Or.inl rfl)) pgs_nil)))))) (pds_cons (pss_cons (pst_if (ps_if (pb_val (pt_cmp (pcd (op_eqA hr.units) b_eq (pd_var 7 (pv 7)) (pd_c pe_int fun _ _ _ => rfl)))) (pds_cons (pss_cons (pst_ret (ps_ret (pd_or (pe_or (pe_cmp (pcd (op_neA hr.units) b_ne (pd_var 6 (pv 6)) (pd_bin (pe_op op_sub (pd_fld (fl := 1) (pe_fld (pd_var 0 (pv 0)) rfl)) (pd_c pe_int fun _ _ _ => rfl)) b_sub))) (pe_one (pe_cmp (pcd (op_eqA hr.units) b_eq (pd_call (pe_call (G0.mono (by omega)) hr rfl (T.glo 11) K0 B0 .nil passA (pda_cons (pa_cons (pd_var 0 (pv 0)) (pda_cons (pa_cons (pd_c pe_int fun _ _ _ => rfl) (pda_cons (pa_cons (pd_var 3 (pv 3)) (pda_cons (pa_cons (pd_var 4 (pv 4)) (pda_nil pa_nil)))))))))) runB_len) (pd_c pe_int fun _ _ _ => rfl)))))))) (pds_nil pss_nil))) (pds_nil pss_nil))) (pds_cons (pss_cons (pst_set (g_name 5) (ps_set (i := 5) Sc.nd rfl (Or.inl rfl) (pd_meth (c := 0) T.nofld_phase (pe_meth (pd_var 0 (pv 0)) (T.cls 5) (T.meth 6) (G1.mono (by omega)) hr B1 .nil passA (pda_cons (pa_cons (pd_var 7 (pv 7)) (pda_nil pa_nil)))) runB_len))) (pds_cons (pss_cons (pst_if (ps_if (pb_val (pt_cmp (pcd op_lt b_lt (pd_bin (pe_op op_addA (pd_var 8 (pv 8)) (pd_c pe_int fun _ _ _ => rfl)) b_add) (pd_fld (fl := 14) (pe_fld (pd_var 5 (pv 5)) rfl))))) (pds_cons (pss_cons (pst_ret (ps_ret (pd_c pe_bl fun _ _ _ => rfl))) (pds_nil pss_nil))) (pds_nil pss_nil))) (pds_cons (pss_cons (pst_ret (ps_ret (pd_and (pe_and (pe_cmp (pcd op_lt b_lt (pd_bin (pe_op op_addA (pd_var 8 (pv 8)) (pd_c pe_int fun _ _ _ => rfl)) b_add) (pd_fld (fl := 15) (pe_fld (pd_var 5 (pv 5)) rfl)))) (pe_one (pd_call (pe_call (G2.mono (by omega)) hr rfl (T.glo 12) K2 B2 .nil passA (pda_cons (pa_cons (pd_var 5 (pv 5)) (pda_cons (pa_cons (pd_var 2 (pv 2)) (pda_cons (pa_cons (pd_var 4 (pv 4)) (pda_nil pa_nil)))))))) runB_len)))))) (pds_nil pss_nil)))))))))))
end
theorem sc_Crossing_len : FnScope ["self"] ["self"] (defScope (inClass (top 56) 1)) := ⟨rfl, rfl, rfl, by decide +kernel, rfl, by decide +kernel, by decide +kernel⟩
section
variable {w : World} {K : PySem.W.Frag} {h : Heap} {mg : Str → Option Value} {base : Heap}
theorem ok_Crossing_len (T : Fx K h mg) : FnI Pg w K mg base 1 (He.ma K (He.ga K "Crossing") "__len__") ["self"] (spF K (cfg K) 1 F_Crossing_len) := by
  obtain ⟨fd, F⟩ := T.c.funD 11 (d := d_Crossing_len) rfl
  have Sc := sc_Crossing_len
  refine ⟨fd, fn_ok0 F Sc rfl rfl (by decide) fun cdv A outer s H E hr => ?_, F.bindsN fun _ _ _ _ _ _ us hl => match us, hl with | [_], _ => rfl, F.kp⟩
  exact (pds_cons (pss_cons (pst_ret (ps_ret (pd_b1 call_len u_len rfl (T.free 3) bb_len (pd_fld (fl := 5) (pe_fld (pd_var 0 (pv 0)) rfl))))) (pds_nil pss_nil)))
end
theorem sc_next_lights : FnScope ["book", "lights", "came", "waiting", "bus", "later", "beat", "number", "count", "pause"] ["book", "lights", "came", "waiting", "bus"] (defScope (top 29)) := ⟨rfl, rfl, rfl, by decide +kernel, rfl, by decide +kernel, by decide +kernel⟩
section
variable {w : World} {K : PySem.W.Frag} {h : Heap} {mg : Str → Option Value} {base : Heap}
theorem ok_next_lights (T : Fx K h mg) : ∃ fd, FnOk Pg w K mg base CX0 6 (He.ga K "next_lights") fd ["book", "lights", "came", "waiting", "bus"] (spF K (cfg K) 5 F_next_lights) ∧ ∃ ds, Vals (d_next_lights.dvs K) ds ∧ Binds K fd ["book", "lights", "came", "waiting", "bus"] ds ∧ PySem.W.keepIn K (.ref (He.ga K "next_lights")) = true := by
  obtain ⟨fd, F⟩ := T.c.funD 12 (d := d_next_lights) rfl
  obtain ⟨fd0, G0, B0, K0⟩ := (ok_check_lights (w := w) (base := base) T).ex
  obtain ⟨fd1, G1, B1, K1⟩ := (ok_Crossing_len (w := w) (base := base) T).ex
  obtain ⟨fd2, G2, B2, K2⟩ := (ok_goes_on (w := w) (base := base) T).ex
  obtain ⟨fd3, G3, B3, K3⟩ := (ok_Book_phase (w := w) (base := base) T).ex
  obtain ⟨fd4, G4, B4, K4⟩ := (ok_following_phase (w := w) (base := base) T).ex
  have Sc := sc_next_lights
  obtain ⟨ds, Dd, Bd⟩ := F.binds1 (ps := ["book", "lights", "came", "waiting", "bus"]) 2 0 (by intro z; cases z) rfl (fun T0 kV doc pm an cdv ct us its l1 l2 => match us, its, l1, l2 with | [_, _], [_, _, _], _, _ => ⟨_, rfl, rfl⟩)
  refine ⟨fd, fn_ok0 F Sc rfl rfl (by decide) fun cdv A outer s H E hr => ?_, ds, Dd, Bd, F.kp⟩
  exact (pds_cons (pss_cons (pst_expr (ps_expr (pd_call (pe_call (G0.mono (by omega)) hr rfl (T.glo 8) K0 B0 .nil passA (pda_cons (pa_cons (pd_var 0 (pv 0)) (pda_cons (pa_cons (pd_var 1 (pv 1)) (pda_nil pa_nil)))))) runB_len))) (pds_cons (pss_cons (pst_if (ps_if (PW.pt (pb_and (pw_and (pb_val (pt_cmp (pcd op_notN b_isn (pd_var 4 (pv 4)) (pd_c pe_non fun _ _ _ => rfl)))) (pw_and1 (pb_not (pt_not (pb_chain op_le op_lt b_le b_lt (pd_c pe_int fun _ _ _ => rfl) (pd_var 4 (pv 4)) (pd_lenO (c := 1) (pe_callB (cr_lenO (T.meth 13) (G1.mono (by omega)) hr B1 passA) rfl (T.free 3) bb_len (pa_cons (pd_fld (fl := 0) (pe_fld (pd_var 0 (pv 0)) rfl)) pa_nil)))))))))) (pds_cons (pss_cons pst_no0 (pds_nil pss_nil))) (pds_nil pss_nil))) (pds_cons (pss_cons (pst_set (g_tup [6, 7, 8] rfl) (ps_asg (pd_var 1 (pv 1)) (pg_tup rfl (pgs_cons (pg_name (i := 6) Sc.nd rfl (Or.inl rfl)) (pgs_cons (pg_name (i := 7) Sc.nd rfl (Or.inl rfl)) (pgs_cons (pg_name (i := 8) Sc.nd rfl (Or.inl rfl)) pgs_nil)))))) (pds_cons (pss_cons (pst_set (g_name 5) (ps_set (i := 5) Sc.nd rfl (Or.inl rfl) (pd_bin (pe_op op_mod (pd_bin (pe_op op_addA (pd_var 6 (pv 6)) (pd_c pe_int fun _ _ _ => rfl)) b_add) (pd_fld (fl := 1) (pe_fld (pd_var 0 (pv 0)) rfl))) b_mod))) (pds_cons (pss_cons (pst_if (ps_if (pb_val (pt_cmp (pcd op_lt b_lt (pd_var 8 (pv 8)) (pd_un (pe_un un_neg (pd_c pe_int fun _ _ _ => rfl)) u_neg)))) (pds_cons (pss_cons (pst_ret (ps_ret (pd_tup (pe_tup (pda_cons (pa_cons (pd_var 5 (pv 5)) (pda_cons (pa_cons (pd_var 7 (pv 7)) (pda_cons (pa_cons (pd_bin (pe_op op_addA (pd_var 8 (pv 8)) (pd_c pe_int fun _ _ _ => rfl)) b_add) (pda_nil pa_nil))))))))))) (pds_nil pss_nil))) (pds_nil pss_nil))) (pds_cons (pss_cons (pst_if (ps_if (pb_val (pt_cmp (pcd op_ge b_ge (pd_var 8 (pv 8)) (pd_c pe_int fun _ _ _ => rfl)))) (pds_cons (pss_cons (pst_if (ps_if (pb_truth (pd_call (pe_call (G2.mono (by omega)) hr rfl (T.glo 14) K2 B2 .nil passA (pda_cons (pa_cons (pd_var 0 (pv 0)) (pda_cons (pa_cons (pd_var 1 (pv 1)) (pda_cons (pa_cons (pd_var 2 (pv 2)) (pda_cons (pa_cons (pd_var 3 (pv 3)) (pda_cons (pa_cons (pd_var 4 (pv 4)) (pda_nil pa_nil)))))))))))) runB_len)) (pds_cons (pss_cons (pst_ret (ps_ret (pd_tup (pe_tup (pda_cons (pa_cons (pd_var 5 (pv 5)) (pda_cons (pa_cons (pd_var 7 (pv 7)) (pda_cons (pa_cons (pd_if (pe_ifExp (pb_val (pt_cmp (pcd (op_eqA hr.units) b_eq (pd_var 7 (pv 7)) (pd_c pe_int fun _ _ _ => rfl)))) (pd_c pe_int fun _ _ _ => rfl) (pd_bin (pe_op op_addA (pd_var 8 (pv 8)) (pd_c pe_int fun _ _ _ => rfl)) b_add))) (pda_nil pa_nil))))))))))) (pds_nil pss_nil))) (pds_nil pss_nil))) (pds_cons (pss_cons (pst_set (g_name 9) (ps_set (i := 9) Sc.nd rfl (Or.inl rfl) (pd_fld (fl := 16) (pe_fld (pd_meth (c := 0) T.nofld_phase (pe_meth (pd_var 0 (pv 0)) (T.cls 5) (T.meth 6) (G3.mono (by omega)) hr B3 .nil passA (pda_cons (pa_cons (pd_var 7 (pv 7)) (pda_nil pa_nil)))) runB_len) rfl)))) (pds_cons (pss_cons (pst_if (ps_if (pb_val (pt_cmp (pcd op_gt b_gt (pd_var 9 (pv 9)) (pd_c pe_int fun _ _ _ => rfl)))) (pds_cons (pss_cons (pst_ret (ps_ret (pd_tup (pe_tup (pda_cons (pa_cons (pd_var 5 (pv 5)) (pda_cons (pa_cons (pd_var 7 (pv 7)) (pda_cons (pa_cons (pd_un (pe_un un_neg (pd_var 9 (pv 9))) u_neg) (pda_nil pa_nil))))))))))) (pds_nil pss_nil))) (pds_nil pss_nil))) (pds_nil pss_nil))))))) (pds_nil pss_nil))) (pds_cons (pss_cons (pst_ret (ps_ret (pd_tup (pe_tup (pda_cons (pa_cons (pd_var 5 (pv 5)) (pda_cons (pa_cons (pd_call (pe_call (G4.mono (by omega)) hr rfl (T.glo 11) K4 B4 .nil passA (pda_cons (pa_cons (pd_var 0 (pv 0)) (pda_cons (pa_cons (pd_var 7 (pv 7)) (pda_cons (pa_cons (pd_var 3 (pv 3)) (pda_cons (pa_cons (pd_var 4 (pv 4)) (pda_nil pa_nil)))))))))) runB_len) (pda_cons (pa_cons (pd_c pe_int fun _ _ _ => rfl) (pda_nil pa_nil))))))))))) (pds_nil pss_nil)))))))))))))))
end
theorem sc_quiet : FnScope ["book", "lights", "found", "_"] ["book"] (defScope (top 30)) := ⟨rfl, rfl, rfl, by decide +kernel, rfl, by decide +kernel, by decide +kernel⟩
section
variable {w : World} {K : PySem.W.Frag} {h : Heap} {mg : Str → Option Value} {base : Heap}
theorem ok_quiet (T : Fx K h mg) : FnI Pg w K mg base 7 (He.ga K "quiet") ["book"] (spF K (cfg K) 1 F_quiet) := by
  obtain ⟨fd, F⟩ := T.c.funD 13 (d := d_quiet) rfl
  obtain ⟨fd0, G0, ds0, D0, B0, K0⟩ := ok_next_lights (w := w) (base := base) T
  have Sc := sc_quiet
  refine ⟨fd, fn_ok0 F Sc rfl rfl (by decide) fun cdv A outer s H E hr => ?_, F.bindsN fun _ _ _ _ _ _ us hl => match us, hl with | [_], _ => rfl, F.kp⟩
  exact (pds_cons (pss_cons (pst_set (g_name 1) (ps_set (i := 1) Sc.nd rfl (Or.inl rfl) (pd_tup (pe_tup (pda_cons (pa_cons (pd_bin (pe_op op_sub (pd_fld (fl := 1) (pe_fld (pd_var 0 (pv 0)) rfl)) (pd_c pe_int fun _ _ _ => rfl)) b_sub) (pda_cons (pa_cons (pd_c pe_int fun _ _ _ => rfl) (pda_cons (pa_cons (pd_c pe_int fun _ _ _ => rfl) (pda_nil pa_nil))))))))))) (pds_cons (pss_cons (pst_set (g_name 2) (ps_set (i := 2) Sc.nd rfl (Or.inl rfl) (pd_lstC (pe_lst (pda_nil pa_nil))))) (pds_cons (pss_cons (pst_for i_rng (g_name 3) (ps_for PassesOwn.never rfl (pi_range1 rfl (T.free 9) (pda_cons (pa_cons (pd_fld (fl := 1) (pe_fld (pd_var 0 (pv 0)) rfl)) (pda_nil pa_nil)))) (pg_name (i := 3) Sc.nd rfl (Or.inl rfl)) (pds_cons (pss_cons (pst_set (g_name 1) (ps_set (i := 1) Sc.nd rfl (Or.inl rfl) (pd_callD T.hdd (pe_call (G0.mono (by omega)) hr rfl (T.glo 15) K0 B0 D0 passA (pda_cons (pa_cons (pd_var 0 (pv 0)) (pda_cons (pa_cons (pd_var 1 (pv 1)) (pda_nil pa_nil)))))) runB_len))) (pds_cons (pss_cons (pst_app (ps_expr (pe_bm PySem.F.plainAttrs_list PySem.F.slot_list_append PySem.F.type_list_append mt_append (pd_var 2 (pv 2)) (pa_cons (pd_var 1 (pv 1)) pa_nil)))) (pds_nil pss_nil))))))) (pds_ghost (pds_cons (pss_cons (pst_ret (ps_ret (pd_var 2 (pv 2)))) (pds_nil pss_nil))))))))))
end
theorem sc_check_stream : FnScope ["crossing", "stream"] ["crossing", "stream"] (defScope (top 55)) := ⟨rfl, rfl, rfl, by decide +kernel, rfl, by decide +kernel, by decide +kernel⟩
section
variable {w : World} {K : PySem.W.Frag} {h : Heap} {mg : Str → Option Value} {base : Heap}
theorem ok_check_stream (T : Fx K h mg) : FnI Pg w K mg base 3 (He.ga K "check_stream") ["crossing", "stream"] (spF K (cfg K) 2 F_check_stream) := by
  obtain ⟨fd, F⟩ := T.c.funD 14 (d := d_check_stream) rfl
  obtain ⟨fd0, G0, B0, K0⟩ := (ok_Crossing_len (w := w) (base := base) T).ex
  have Sc := sc_check_stream
  refine ⟨fd, fn_ok0 F Sc rfl rfl (by decide) fun cdv A outer s H E hr => ?_, F.bindsN fun _ _ _ _ _ _ us hl => match us, hl with | [_, _], _ => rfl, F.kp⟩
  exact (pds_cons (pss_cons (pst_if (ps_if (pb_not (pt_not (pb_chain op_le op_lt b_le b_lt (pd_c pe_int fun _ _ _ => rfl) (pd_var 1 (pv 1)) (pd_lenO (c := 1) (pe_callB (cr_lenO (T.meth 13) (G0.mono (by omega)) hr B0 passA) rfl (T.free 3) bb_len (pa_cons (pd_var 0 (pv 0)) pa_nil)))))) (pds_cons (pss_cons pst_no0 (pds_nil pss_nil))) (pds_nil pss_nil))) (pds_nil pss_nil)))
end
theorem sc_Crossing_longest : FnScope ["self", "stream"] ["self", "stream"] (defScope (inClass (top 56) 5)) := ⟨rfl, rfl, rfl, by decide +kernel, rfl, by decide +kernel, by decide +kernel⟩
section
variable {w : World} {K : PySem.W.Frag} {h : Heap} {mg : Str → Option Value} {base : Heap}
theorem ok_Crossing_longest (T : Fx K h mg) : FnI Pg w K mg base 4 (He.ma K (He.ga K "Crossing") "longest") ["self", "stream"] (spF K (cfg K) 2 F_Crossing_longest) := by
  obtain ⟨fd, F⟩ := T.c.funD 15 (d := d_Crossing_longest) rfl
  obtain ⟨fd0, G0, B0, K0⟩ := (ok_check_stream (w := w) (base := base) T).ex
  have Sc := sc_Crossing_longest
  refine ⟨fd, fn_ok0 F Sc rfl rfl (by decide) fun cdv A outer s H E hr => ?_, F.bindsN fun _ _ _ _ _ _ us hl => match us, hl with | [_, _], _ => rfl, F.kp⟩
  exact (pds_cons (pss_cons (pst_expr (ps_expr (pd_call (pe_call (G0.mono (by omega)) hr rfl (T.glo 16) K0 B0 .nil passA (pda_cons (pa_cons (pd_var 0 (pv 0)) (pda_cons (pa_cons (pd_var 1 (pv 1)) (pda_nil pa_nil)))))) runB_len))) (pds_cons (pss_cons (pst_ret (ps_ret (pd_bin (pe_ix ix_any (pd_fld (fl := 8) (pe_fld (pd_var 0 (pv 0)) rfl)) (pd_var 1 (pv 1)) fun _ _ => rfl) b_ix))) (pds_nil pss_nil)))))
end
theorem sc_beats_since : FnScope ["book", "quiet_lights", "beat", "stream", "longest", "passed"] ["book", "quiet_lights", "beat", "stream"] (defScope (top 32)) := ⟨rfl, rfl, rfl, by decide +kernel, rfl, by decide +kernel, by decide +kernel⟩
section
variable {w : World} {K : PySem.W.Frag} {h : Heap} {mg : Str → Option Value} {base : Heap}
theorem ok_beats_since (T : Fx K h mg) : FnI Pg w K mg base 6 (He.ga K "beats_since") ["book", "quiet_lights", "beat", "stream"] (spF K (cfg K) 4 F_beats_since) := by
  obtain ⟨fd, F⟩ := T.c.funD 16 (d := d_beats_since) rfl
  obtain ⟨fd0, G0, B0, K0⟩ := (ok_Crossing_longest (w := w) (base := base) T).ex
  obtain ⟨fd1, G1, B1, K1⟩ := (ok_shown (w := w) (base := base) T).ex
  have Sc := sc_beats_since
  refine ⟨fd, fn_ok0 F Sc rfl rfl (by decide) fun cdv A outer s H E hr => ?_, F.bindsN fun _ _ _ _ _ _ us hl => match us, hl with | [_, _, _, _], _ => rfl, F.kp⟩
  exact (pds_cons (pss_cons (pst_set (g_name 4) (ps_set (i := 4) Sc.nd rfl (Or.inl rfl) (pd_meth (c := 1) T.nofld_longest (pe_meth (pd_fld (fl := 0) (pe_fld (pd_var 0 (pv 0)) rfl)) (T.cls 17) (T.meth 18) (G0.mono (by omega)) hr B0 .nil passA (pda_cons (pa_cons (pd_var 3 (pv 3)) (pda_nil pa_nil)))) runB_len))) (pds_cons (pss_cons (pst_for i_rng (g_name 5) (ps_for PassesOwn.never rfl (pi_range1 rfl (T.free 9) (pda_cons (pa_cons (pd_b2 (call_min2 rfl) b_min2 rfl (T.free 19) bb_min (pd_var 4 (pv 4)) (pd_fld (fl := 1) (pe_fld (pd_var 0 (pv 0)) rfl))) (pda_nil pa_nil)))) (pg_name (i := 5) Sc.nd rfl (Or.inl rfl)) (pds_cons (pss_cons (pst_if (ps_if (pb_val (pt_cmp (pcd op_inA b_in (pd_var 3 (pv 3)) (pd_call (pe_call (G1.mono (by omega)) hr rfl (T.glo 20) K1 B1 .nil passA (pda_cons (pa_cons (pd_var 0 (pv 0)) (pda_cons (pa_cons (pd_bin (pe_ix ix_any (pd_var 1 (pv 1)) (pd_bin (pe_op op_mod (pd_bin (pe_op op_sub (pd_bin (pe_op op_sub (pd_var 2 (pv 2)) (pd_c pe_int fun _ _ _ => rfl)) b_sub) (pd_var 5 (pv 5))) b_sub) (pd_fld (fl := 1) (pe_fld (pd_var 0 (pv 0)) rfl))) b_mod) fun _ _ => rfl) b_ix) (pda_nil pa_nil)))))) runB_len)))) (pds_cons (pss_cons (pst_ret (ps_ret (pd_var 5 (pv 5)))) (pds_nil pss_nil))) (pds_nil pss_nil))) (pds_nil pss_nil))))) (pds_cons (pss_cons (pst_ret (ps_ret (pd_var 4 (pv 4)))) (pds_nil pss_nil)))))))
end
theorem sc_Foot_foot : FnScope ["self"] ["self"] (defScope (inClass (top 62) 2)) := ⟨rfl, rfl, rfl, by decide +kernel, rfl, by decide +kernel, by decide +kernel⟩
section
variable {w : World} {K : PySem.W.Frag} {h : Heap} {mg : Str → Option Value} {base : Heap}
theorem ok_Foot_foot (T : Fx K h mg) : FnI Pg w K mg base 1 (HM.pgM K "Foot" "foot") ["self"] (spF K (cfg K) 1 F_Foot_foot) := by
  obtain ⟨fd, F⟩ := T.c.funD 17 (d := d_Foot_foot) rfl
  have Sc := sc_Foot_foot
  refine ⟨fd, fn_ok0 F Sc rfl rfl (by decide) fun cdv A outer s H E hr => ?_, F.bindsN fun _ _ _ _ _ _ us hl => match us, hl with | [_], _ => rfl, F.kp⟩
  exact (pds_cons (pss_cons (pst_ret (ps_ret (pd_c pe_bl fun _ _ _ => rfl))) (pds_nil pss_nil)))
end
theorem sc_Road_foot : FnScope ["self"] ["self"] (defScope (inClass (top 61) 1)) := ⟨rfl, rfl, rfl, by decide +kernel, rfl, by decide +kernel, by decide +kernel⟩
section
variable {w : World} {K : PySem.W.Frag} {h : Heap} {mg : Str → Option Value} {base : Heap}
theorem ok_Road_foot (T : Fx K h mg) : FnI Pg w K mg base 1 (HM.pgM K "Road" "foot") ["self"] (spF K (cfg K) 1 F_Road_foot) := by
  obtain ⟨fd, F⟩ := T.c.funD 18 (d := d_Road_foot) rfl
  have Sc := sc_Road_foot
  refine ⟨fd, fn_ok0 F Sc rfl rfl (by decide) fun cdv A outer s H E hr => ?_, F.bindsN fun _ _ _ _ _ _ us hl => match us, hl with | [_], _ => rfl, F.kp⟩
  exact (pds_cons (pss_cons (pst_ret (ps_ret (pd_c pe_bl fun _ _ _ => rfl))) (pds_nil pss_nil)))
end
theorem sc_Rate_full : FnScope ["self"] ["self"] (defScope (inClass (top 76) 2)) := ⟨rfl, rfl, rfl, by decide +kernel, rfl, by decide +kernel, by decide +kernel⟩
section
variable {w : World} {K : PySem.W.Frag} {h : Heap} {mg : Str → Option Value} {base : Heap}
theorem ok_Rate_full (T : Fx K h mg) : FnI Pg w K mg base 1 (HM.pgM K "Rate" "full") ["self"] (spF K (cfg K) 1 F_Rate_full) := by
  obtain ⟨fd, F⟩ := T.c.funD 19 (d := d_Rate_full) rfl
  have Sc := sc_Rate_full
  refine ⟨fd, fn_ok0 F Sc rfl rfl (by decide) fun cdv A outer s H E hr => ?_, F.bindsN fun _ _ _ _ _ _ us hl => match us, hl with | [_], _ => rfl, F.kp⟩
  exact (pds_cons (pss_cons (pst_ret (ps_ret (pd_bin (pe_op op_sub (pd_bin (pe_op op_addA (pd_bin (pe_op op_mulA (pd_fld (fl := 20) (pe_fld (pd_var 0 (pv 0)) rfl)) (pd_fld (fl := 22) (pe_fld (pd_var 0 (pv 0)) rfl))) b_mul) (pd_fld (fl := 21) (pe_fld (pd_var 0 (pv 0)) rfl))) b_add) (pd_c pe_int fun _ _ _ => rfl)) b_sub))) (pds_nil pss_nil)))
end
theorem sc_first_credit : FnScope ["lane"] ["lane"] (defScope (top 33)) := ⟨rfl, rfl, rfl, by decide +kernel, rfl, by decide +kernel, by decide +kernel⟩
section
variable {w : World} {K : PySem.W.Frag} {h : Heap} {mg : Str → Option Value} {base : Heap}
theorem ok_first_credit (T : Fx K h mg) : FnI Pg w K mg base 3 (He.ga K "first_credit") ["lane"] (spF K (cfg K) 1 F_first_credit) := by
  obtain ⟨fd, F⟩ := T.c.funD 20 (d := d_first_credit) rfl
  obtain ⟨fd0, G0, B0, K0⟩ := (ok_Foot_foot (w := w) (base := base) T).ex
  obtain ⟨fd1, G1, B1, K1⟩ := (ok_Road_foot (w := w) (base := base) T).ex
  obtain ⟨fd2, G2, B2, K2⟩ := (ok_Rate_full (w := w) (base := base) T).ex
  have Sc := sc_first_credit
  refine ⟨fd, fn_ok0 F Sc rfl rfl (by decide) fun cdv A outer s H E hr => ?_, F.bindsN fun _ _ _ _ _ _ us hl => match us, hl with | [_], _ => rfl, F.kp⟩
  exact (pds_cons (pss_cons (pst_if (ps_if (PW.pt (pb_or (pw_or (pb_truth (pd_alt (pd_prop (c := 2) (pe_prop (pd_var 0 (pv 0)) (T.cls 21) (T.prop_Foot_foot) (G0.mono (by omega)) hr B0 .nil passA rfl)) (pd_prop (c := 3) (pe_prop (pd_var 0 (pv 0)) (T.cls 22) (T.prop_Road_foot) (G1.mono (by omega)) hr B1 .nil passA rfl)))) (pw_or1 (pb_val (pt_cmp (pcd op_isN b_is (pd_fld (fl := 11) (pe_fld (pd_var 0 (pv 0)) rfl)) (pd_c pe_non fun _ _ _ => rfl)))))))) (pds_cons (pss_cons (pst_ret (ps_ret (pd_c pe_int fun _ _ _ => rfl))) (pds_nil pss_nil))) (pds_nil pss_nil))) (pds_cons (pss_cons (pst_ret (ps_ret (pd_prop (c := 5) (pe_prop (pd_fld (fl := 11) (pe_fld (pd_var 0 (pv 0)) rfl)) (T.cls 23) (T.prop_Rate_full) (G2.mono (by omega)) hr B2 .nil passA rfl)))) (pds_nil pss_nil)))))
end
theorem sc_Town_len : FnScope ["self"] ["self"] (defScope (inClass (top 98) 2)) := ⟨rfl, rfl, rfl, by decide +kernel, rfl, by decide +kernel, by decide +kernel⟩
section
variable {w : World} {K : PySem.W.Frag} {h : Heap} {mg : Str → Option Value} {base : Heap}
theorem ok_Town_len (T : Fx K h mg) : FnI Pg w K mg base 1 (He.ma K (He.ga K "Town") "__len__") ["self"] (spF K (cfg K) 1 F_Town_len) := by
  obtain ⟨fd, F⟩ := T.c.funD 21 (d := d_Town_len) rfl
  have Sc := sc_Town_len
  refine ⟨fd, fn_ok0 F Sc rfl rfl (by decide) fun cdv A outer s H E hr => ?_, F.bindsN fun _ _ _ _ _ _ us hl => match us, hl with | [_], _ => rfl, F.kp⟩
  exact (pds_cons (pss_cons (pst_ret (ps_ret (pd_b1 call_len u_len rfl (T.free 3) bb_len (pd_fld (fl := 32) (pe_fld (pd_var 0 (pv 0)) rfl))))) (pds_nil pss_nil)))
end
theorem sc_Town_lane : FnScope ["self", "number"] ["self", "number"] (defScope (inClass (top 98) 5)) := ⟨rfl, rfl, rfl, by decide +kernel, rfl, by decide +kernel, by decide +kernel⟩
section
variable {w : World} {K : PySem.W.Frag} {h : Heap} {mg : Str → Option Value} {base : Heap}
theorem ok_Town_lane (T : Fx K h mg) : FnI Pg w K mg base 1 (He.ma K (He.ga K "Town") "lane") ["self", "number"] (spF K (cfg K) 2 F_Town_lane) := by
  obtain ⟨fd, F⟩ := T.c.funD 22 (d := d_Town_lane) rfl
  have Sc := sc_Town_lane
  refine ⟨fd, fn_ok0 F Sc rfl rfl (by decide) fun cdv A outer s H E hr => ?_, F.bindsN fun _ _ _ _ _ _ us hl => match us, hl with | [_, _], _ => rfl, F.kp⟩
  exact (pds_cons (pss_cons (pst_if (ps_if (pb_not (pt_not (pb_chain op_le op_lt b_le b_lt (pd_c pe_int fun _ _ _ => rfl) (pd_var 1 (pv 1)) (pd_b1 call_len u_len rfl (T.free 3) bb_len (pd_fld (fl := 33) (pe_fld (pd_var 0 (pv 0)) rfl)))))) (pds_cons (pss_cons pst_no0 (pds_nil pss_nil))) (pds_nil pss_nil))) (pds_cons (pss_cons (pst_ret (ps_ret (pd_bin (pe_ix ix_any (pd_fld (fl := 33) (pe_fld (pd_var 0 (pv 0)) rfl)) (pd_var 1 (pv 1)) fun _ _ => rfl) b_ix))) (pds_nil pss_nil)))))
end
theorem sc_first_state : FnScope ["town", "lights", "since", "lanes", "first_credits", "roads", "site", "offset", "beat", "quiet_lights", "stream", "number", "street"] ["town"] (defScope (top 34)) := ⟨rfl, rfl, rfl, by decide +kernel, rfl, by decide +kernel, by decide +kernel⟩
section
variable {w : World} {K : PySem.W.Frag} {h : Heap} {mg : Str → Option Value} {base : Heap}
theorem ok_first_state (T : Fx K h mg) : FnI Pg w K mg base 8 (He.ga K "first_state") ["town"] (spF K (cfg K) 1 F_first_state) := by
  obtain ⟨fd, F⟩ := T.c.funD 23 (d := d_first_state) rfl
  obtain ⟨fd0, G0, B0, K0⟩ := (ok_quiet (w := w) (base := base) T).ex
  obtain ⟨fd1, G1, B1, K1⟩ := (ok_beats_since (w := w) (base := base) T).ex
  obtain ⟨fd2, G2, B2, K2⟩ := (ok_Town_len (w := w) (base := base) T).ex
  obtain ⟨fd3, G3, B3, K3⟩ := (ok_first_credit (w := w) (base := base) T).ex
  obtain ⟨fd4, G4, B4, K4⟩ := (ok_Town_lane (w := w) (base := base) T).ex
  have Sc := sc_first_state
  have BK : ∀ (scope : Scope) (own : List (Str × Nat)), blkC ["town", "lights", "since", "lanes", "first_credits", "roads", "site", "offset", "beat", "quiet_lights", "stream", "number", "street"] (defScope (top 34)) scope own = true → BlkOk ["town", "lights", "since", "lanes", "first_credits", "roads", "site", "offset", "beat", "quiet_lights", "stream", "number", "street"] (defScope (top 34)) scope own := fun _ _ h => blkOk_by h
  refine ⟨fd, fn_ok0 F Sc rfl rfl (by decide) fun cdv A outer s H E hr => ?_, F.bindsN fun _ _ _ _ _ _ us hl => match us, hl with | [_], _ => rfl, F.kp⟩
  exact (pds_cons (pss_cons (pst_set (g_name 1) (ps_set (i := 1) Sc.nd rfl (Or.inl rfl) (pd_lstC (pe_lst (pda_nil pa_nil))))) (pds_cons (pss_cons (pst_set (g_name 2) (ps_set (i := 2) Sc.nd rfl (Or.inl rfl) (pd_lstC (pe_lst (pda_nil pa_nil))))) (pds_cons (pss_cons (pst_for i_zip (g_tup [6, 7] rfl) (ps_for PassesOwn.never rfl (RZ.pi_zipA rfl (T.free 24) (pda_cons (pa_cons (pd_fld (fl := 28) (pe_fld (pd_var 0 (pv 0)) rfl)) (pda_cons (pa_cons (pd_fld (fl := 29) (pe_fld (pd_var 0 (pv 0)) rfl)) (pda_nil pa_nil)))))) (pg_tup rfl (pgs_cons (pg_name (i := 6) Sc.nd rfl (Or.inl rfl)) (pgs_cons (pg_name (i := 7) Sc.nd rfl (Or.inl rfl)) pgs_nil))) (pds_cons (pss_cons (pst_set (g_name 8) (ps_set (i := 8) Sc.nd rfl (Or.inl rfl) (pd_bin (pe_op op_mod (pd_un (pe_un un_neg (pd_var 7 (pv 7))) u_neg) (pd_fld (fl := 1) (pe_fld (pd_var 0 (pv 0)) rfl))) b_mod))) (pds_cons (pss_cons (pst_set (g_name 9) (ps_set (i := 9) Sc.nd rfl (Or.inl rfl) (pd_call (pe_call (G0.mono (by omega)) hr rfl (T.glo 25) K0 B0 .nil passA (pda_cons (pa_cons (pd_fld (fl := 23) (pe_fld (pd_var 6 (pv 6)) rfl)) (pda_nil pa_nil)))) runB_len))) (pds_cons (pss_cons (pst_app (ps_expr (pe_bm PySem.F.plainAttrs_list PySem.F.slot_list_append PySem.F.type_list_append mt_append (pd_var 1 (pv 1)) (pa_cons (pd_sl (pe_slice sl_any (pd_bin (pe_ix ix_any (pd_var 9 (pv 9)) (pd_var 8 (pv 8)) fun _ _ => rfl) b_ix) (po_at (pd_c pe_int fun _ _ _ => rfl)) po_no)) pa_nil)))) (pds_cons (pss_cons (pst_for i_rng (g_name 10) (ps_for PassesOwn.never rfl (pi_range1 rfl (T.free 9) (pda_cons (pa_cons (pd_b1 call_len u_len rfl (T.free 3) bb_len (pd_fld (fl := 24) (pe_fld (pd_var 6 (pv 6)) rfl))) (pda_nil pa_nil)))) (pg_name (i := 10) Sc.nd rfl (Or.inl rfl)) (pds_cons (pss_cons (pst_app (ps_expr (pe_bm PySem.F.plainAttrs_list PySem.F.slot_list_append PySem.F.type_list_append mt_append (pd_var 2 (pv 2)) (pa_cons (pd_call (pe_call (G1.mono (by omega)) hr rfl (T.glo 26) K1 B1 .nil passA (pda_cons (pa_cons (pd_fld (fl := 23) (pe_fld (pd_var 6 (pv 6)) rfl)) (pda_cons (pa_cons (pd_var 9 (pv 9)) (pda_cons (pa_cons (pd_var 8 (pv 8)) (pda_cons (pa_cons (pd_var 10 (pv 10)) (pda_nil pa_nil)))))))))) runB_len) pa_nil)))) (pds_nil pss_nil))))) (pds_nil pss_nil))))))))))) (pds_ghost (pds_ghost (pds_cons (pss_cons (pst_set (g_name 3) (ps_set (i := 3) Sc.nd rfl (Or.inl rfl) (pd_lenO (c := 8) (pe_callB (cr_lenO (T.meth 27) (G2.mono (by omega)) hr B2 passA) rfl (T.free 3) bb_len (pa_cons (pd_var 0 (pv 0)) pa_nil))))) (pds_cons (pss_cons (pst_setLc (own := [11]) i_rng (g_name 11) (by decide) ht_y (ps_setLc (i := 4) (own := [("number", 11)]) rfl Sc.nd rfl rfl rfl (pi_range1 rfl (T.free 9) (pda_cons (pa_cons (pd_var 3 (pv 3)) (pda_nil pa_nil)))) (BK _ _ (by decide +kernel)) (fun _ _ _ _ _ => (pg_name (i := 11) Sc.nd rfl (Or.inl rfl))) (fun _ _ _ _ _ => pts_nil) (fun _ _ _ _ _ => (pd_call (pe_call (G3.mono (by omega)) hr rfl (T.glo 30) K3 B3 .nil passA (pda_cons (pa_cons (pd_meth (c := 8) T.nofld_lane (pe_meth (pd_var 0 (pv 0)) (T.cls 28) (T.meth 29) (G4.mono (by omega)) hr B4 .nil passA (pda_cons (pa_cons (pd_var 11 (pv 11)) (pda_nil pa_nil)))) runB_len) (pda_nil pa_nil)))) runB_len)))) (pds_cons (pss_cons (pst_setLc (own := [12]) i_lst (g_name 12) (by decide) ht_y (ps_setLc (i := 5) (own := [("street", 12)]) rfl Sc.nd rfl rfl rfl (PI.or (pi_list (pd_fld (fl := 30) (pe_fld (pd_var 0 (pv 0)) rfl))) (pi_tup (pd_fld (fl := 30) (pe_fld (pd_var 0 (pv 0)) rfl)))) (BK _ _ (by decide +kernel)) (fun _ _ _ _ _ => (pg_name (i := 12) Sc.nd rfl (Or.inl rfl))) (fun _ _ _ _ _ => pts_nil) (fun _ _ _ _ _ => (pd_bin (pe_op op_mulA (pd_tup (pe_tup (pda_cons (pa_cons (pd_c pe_int fun _ _ _ => rfl) (pda_nil pa_nil))))) (pd_fld (fl := 27) (pe_fld (pd_var 12 (pv 12)) rfl))) b_mul)))) (pds_cons (pss_cons (pst_ret (ps_ret (pd_tup (pe_tup (pda_cons (pa_cons (pd_c pe_int fun _ _ _ => rfl) (pda_cons (pa_cons (pd_t1 call_tuple_of u_tuple rfl (T.free 31) bb_tuple (pd_var 1 (pv 1))) (pda_cons (pa_cons (pd_t1 call_tuple_of u_tuple rfl (T.free 31) bb_tuple (pd_var 2 (pv 2))) (pda_cons (pa_cons (pd_bin (pe_op op_mulA (pd_tup (pe_tup (pda_cons (pa_cons (pd_c pe_int fun _ _ _ => rfl) (pda_nil pa_nil))))) (pd_var 3 (pv 3))) b_mul) (pda_cons (pa_cons (pd_bin (pe_op op_mulA (pd_tup (pe_tup (pda_cons (pa_cons (pd_un (pe_un un_neg (pd_c pe_int fun _ _ _ => rfl)) u_neg) (pda_nil pa_nil))))) (pd_var 3 (pv 3))) b_mul) (pda_cons (pa_cons (pd_bin (pe_op op_mulA (pd_tup (pe_tup (pda_cons (pa_cons (pd_c pe_int fun _ _ _ => rfl) (pda_nil pa_nil))))) (pd_var 3 (pv 3))) b_mul) (pda_cons (pa_cons (pd_t1 call_tuple_of u_tuple rfl (T.free 31) bb_tuple (pd_var 4 (pv 4))) (pda_cons (pa_cons (pd_t1 call_tuple_of u_tuple rfl (T.free 31) bb_tuple (pd_var 5 (pv 5))) (pda_nil pa_nil))))))))))))))))))))) (pds_nil pss_nil)))))))))))))))))
end
theorem sc_is_main : FnScope ["phase"] ["phase"] (defScope (top 39)) := ⟨rfl, rfl, rfl, by decide +kernel, rfl, by decide +kernel, by decide +kernel⟩
section
variable {w : World} {K : PySem.W.Frag} {h : Heap} {mg : Str → Option Value} {base : Heap}
theorem ok_is_main (T : Fx K h mg) : FnI Pg w K mg base 1 (He.ga K "is_main") ["phase"] (spF K (cfg K) 1 F_is_main) := by
  obtain ⟨fd, F⟩ := T.c.funD 24 (d := d_is_main) rfl
  have Sc := sc_is_main
  refine ⟨fd, fn_ok0 F Sc rfl rfl (by decide) fun cdv A outer s H E hr => ?_, F.bindsN fun _ _ _ _ _ _ us hl => match us, hl with | [_], _ => rfl, F.kp⟩
  exact (pds_cons (pss_cons (pst_ret (ps_ret (pd_and (pe_and (pd_notv (pd_fld (fl := 19) (pe_fld (pd_var 0 (pv 0)) rfl))) (pd_and (pe_and (pd_notv (pd_fld (fl := 17) (pe_fld (pd_var 0 (pv 0)) rfl))) (pd_and (pe_and (pd_notv (pd_fld (fl := 18) (pe_fld (pd_var 0 (pv 0)) rfl))) (pe_one (pe_cmp (pcd (op_eqA hr.units) b_eq (pd_fld (fl := 15) (pe_fld (pd_var 0 (pv 0)) rfl)) (pd_fld (fl := 14) (pe_fld (pd_var 0 (pv 0)) rfl))))))))))))) (pds_nil pss_nil)))
end
theorem sc_has_stranger : FnScope ["phase", "streams", "stream"] ["phase", "streams"] (defScope (top 40)) := ⟨rfl, rfl, rfl, by decide +kernel, rfl, by decide +kernel, by decide +kernel⟩
section
variable {w : World} {K : PySem.W.Frag} {h : Heap} {mg : Str → Option Value} {base : Heap}
theorem ok_has_stranger (T : Fx K h mg) : FnI Pg w K mg base 1 (He.ga K "has_stranger") ["phase", "streams"] (spF K (cfg K) 2 F_has_stranger) := by
  obtain ⟨fd, F⟩ := T.c.funD 25 (d := d_has_stranger) rfl
  have Sc := sc_has_stranger
  refine ⟨fd, fn_ok0 F Sc rfl rfl (by decide) fun cdv A outer s H E hr => ?_, F.bindsN fun _ _ _ _ _ _ us hl => match us, hl with | [_, _], _ => rfl, F.kp⟩
  exact (pds_cons (pss_cons (pst_for i_lst (g_name 2) (ps_for PassesOwn.never rfl (PI.or (pi_list (pd_bin (pe_op op_addA (pd_bin (pe_op op_addA (pd_fld (fl := 13) (pe_fld (pd_var 0 (pv 0)) rfl)) (pd_fld (fl := 17) (pe_fld (pd_var 0 (pv 0)) rfl))) b_add) (pd_fld (fl := 18) (pe_fld (pd_var 0 (pv 0)) rfl))) b_add)) (pi_tup (pd_bin (pe_op op_addA (pd_bin (pe_op op_addA (pd_fld (fl := 13) (pe_fld (pd_var 0 (pv 0)) rfl)) (pd_fld (fl := 17) (pe_fld (pd_var 0 (pv 0)) rfl))) b_add) (pd_fld (fl := 18) (pe_fld (pd_var 0 (pv 0)) rfl))) b_add))) (pg_name (i := 2) Sc.nd rfl (Or.inl rfl)) (pds_cons (pss_cons (pst_if (ps_if (pb_val (pt_cmp (pcd op_ge b_ge (pd_var 2 (pv 2)) (pd_var 1 (pv 1))))) (pds_cons (pss_cons (pst_ret (ps_ret (pd_c pe_bl fun _ _ _ => rfl))) (pds_nil pss_nil))) (pds_nil pss_nil))) (pds_nil pss_nil))))) (pds_cons (pss_cons (pst_ret (ps_ret (pd_c pe_bl fun _ _ _ => rfl))) (pds_nil pss_nil)))))
end
theorem sc_beats_needed : FnScope ["main", "phases", "beats", "phase"] ["main", "phases"] (defScope (top 41)) := ⟨rfl, rfl, rfl, by decide +kernel, rfl, by decide +kernel, by decide +kernel⟩
section
variable {w : World} {K : PySem.W.Frag} {h : Heap} {mg : Str → Option Value} {base : Heap}
theorem ok_beats_needed (T : Fx K h mg) : FnI Pg w K mg base 1 (He.ga K "beats_needed") ["main", "phases"] (spF K (cfg K) 2 F_beats_needed) := by
  obtain ⟨fd, F⟩ := T.c.funD 26 (d := d_beats_needed) rfl
  have Sc := sc_beats_needed
  refine ⟨fd, fn_ok0 F Sc rfl rfl (by decide) fun cdv A outer s H E hr => ?_, F.bindsN fun _ _ _ _ _ _ us hl => match us, hl with | [_, _], _ => rfl, F.kp⟩
  exact (pds_cons (pss_cons (pst_set (g_name 2) (ps_set (i := 2) Sc.nd rfl (Or.inl rfl) (pd_bin (pe_op op_addA (pd_fld (fl := 14) (pe_fld (pd_var 0 (pv 0)) rfl)) (pd_fld (fl := 16) (pe_fld (pd_var 0 (pv 0)) rfl))) b_add))) (pds_cons (pss_cons (pst_for i_lst (g_name 3) (ps_for PassesOwn.never rfl (PI.or (pi_list (pd_var 1 (pv 1))) (pi_tup (pd_var 1 (pv 1)))) (pg_name (i := 3) Sc.nd rfl (Or.inl rfl)) (pds_cons (pss_cons (pst_set (g_name 2) (ps_set (i := 2) Sc.nd rfl (Or.inl rfl) (pd_bin (pe_op op_addA (pd_bin (pe_op op_addA (pd_var 2 (pv 2)) (pd_fld (fl := 15) (pe_fld (pd_var 3 (pv 3)) rfl))) b_add) (pd_fld (fl := 16) (pe_fld (pd_var 3 (pv 3)) rfl))) b_add))) (pds_nil pss_nil))))) (pds_cons (pss_cons (pst_ret (ps_ret (pd_var 2 (pv 2)))) (pds_nil pss_nil)))))))
end
theorem sc_check_book : FnScope ["crossing", "length", "main", "phases", "number", "phase"] ["crossing", "length", "main", "phases"] (defScope (top 42)) := ⟨rfl, rfl, rfl, by decide +kernel, rfl, by decide +kernel, by decide +kernel⟩
section
variable {w : World} {K : PySem.W.Frag} {h : Heap} {mg : Str → Option Value} {base : Heap}
theorem ok_check_book (T : Fx K h mg) : FnI Pg w K mg base 3 (He.ga K "check_book") ["crossing", "length", "main", "phases"] (spF K (cfg K) 4 F_check_book) := by
  obtain ⟨fd, F⟩ := T.c.funD 27 (d := d_check_book) rfl
  obtain ⟨fd0, G0, B0, K0⟩ := (ok_is_main (w := w) (base := base) T).ex
  obtain ⟨fd1, G1, B1, K1⟩ := (ok_has_stranger (w := w) (base := base) T).ex
  obtain ⟨fd2, G2, B2, K2⟩ := (ok_Crossing_len (w := w) (base := base) T).ex
  obtain ⟨fd3, G3, B3, K3⟩ := (ok_beats_needed (w := w) (base := base) T).ex
  have Sc := sc_check_book
  refine ⟨fd, fn_ok0 F Sc rfl rfl (by decide) fun cdv A outer s H E hr => ?_, F.bindsN fun _ _ _ _ _ _ us hl => match us, hl with | [_, _, _, _], _ => rfl, F.kp⟩
  exact (pds_cons (pss_cons (pst_if (ps_if (pb_not (pt_not (pb_chain op_le op_le b_le b_le (pd_gint rfl (T.gint 32)) (pd_var 1 (pv 1)) (pd_gint rfl (T.gint 33))))) (pds_cons (pss_cons pst_no0 (pds_nil pss_nil))) (pds_nil pss_nil))) (pds_cons (pss_cons (pst_if (ps_if (pb_val (pt_cmp (pcd op_gt b_gt (pd_b1 call_len u_len rfl (T.free 3) bb_len (pd_var 3 (pv 3))) (pd_gint rfl (T.gint 34))))) (pds_cons (pss_cons pst_no0 (pds_nil pss_nil))) (pds_nil pss_nil))) (pds_cons (pss_cons (pst_if (ps_if (pb_not (pt_not (pb_truth (pd_call (pe_call (G0.mono (by omega)) hr rfl (T.glo 35) K0 B0 .nil passA (pda_cons (pa_cons (pd_var 2 (pv 2)) (pda_nil pa_nil)))) runB_len)))) (pds_cons (pss_cons pst_no0 (pds_nil pss_nil))) (pds_nil pss_nil))) (pds_cons (pss_cons (pst_for i_enum (g_tup [4, 5] rfl) (ps_for PassesOwn.never rfl (pi_enumA rfl (T.free 36) (pda_cons (pa_cons (pd_lst (pe_lst (pda_cons (pa_cons (pd_var 2 (pv 2)) (pda_star (StX.pa_star (pd_var 3 (pv 3)) (pda_nil pa_nil))))))) (pda_nil pa_nil)))) (pg_tup rfl (pgs_cons (pg_name (i := 4) Sc.nd rfl (Or.inl rfl)) (pgs_cons (pg_name (i := 5) Sc.nd rfl (Or.inl rfl)) pgs_nil))) (pds_cons (pss_cons (pst_if (ps_if (pb_truth (pd_call (pe_call (G1.mono (by omega)) hr rfl (T.glo 37) K1 B1 .nil passA (pda_cons (pa_cons (pd_var 5 (pv 5)) (pda_cons (pa_cons (pd_lenO (c := 1) (pe_callB (cr_lenO (T.meth 13) (G2.mono (by omega)) hr B2 passA) rfl (T.free 3) bb_len (pa_cons (pd_var 0 (pv 0)) pa_nil))) (pda_nil pa_nil)))))) runB_len)) (pds_cons (pss_cons pst_no0 (pds_nil pss_nil))) (pds_nil pss_nil))) (pds_nil pss_nil))))) (pds_cons (pss_cons (pst_if (ps_if (pb_val (pt_cmp (pcd op_gt b_gt (pd_call (pe_call (G3.mono (by omega)) hr rfl (T.glo 38) K3 B3 .nil passA (pda_cons (pa_cons (pd_var 2 (pv 2)) (pda_cons (pa_cons (pd_var 3 (pv 3)) (pda_nil pa_nil)))))) runB_len) (pd_var 1 (pv 1))))) (pds_cons (pss_cons pst_no0 (pds_nil pss_nil))) (pds_nil pss_nil))) (pds_nil pss_nil)))))))))))
end
theorem sc_Book_init : FnScope ["self", "crossing", "length", "main", "phases"] ["self", "crossing", "length", "main", "phases"] (defScope (inClass (top 43) 0)) := ⟨rfl, rfl, rfl, by decide +kernel, rfl, by decide +kernel, by decide +kernel⟩
section
variable {w : World} {K : PySem.W.Frag} {h : Heap} {mg : Str → Option Value} {base : Heap}
theorem ok_Book_init (T : Fx K h mg) : FnI Pg w K mg base 4 (He.ma K (He.ga K "Book") "__init__") ["self", "crossing", "length", "main", "phases"] (spF K (cfg K) 5 F_Book_init) := by
  obtain ⟨fd, F⟩ := T.c.funD 28 (d := d_Book_init) rfl
  obtain ⟨fd0, G0, B0, K0⟩ := (ok_check_book (w := w) (base := base) T).ex
  have Sc := sc_Book_init
  refine ⟨fd, fn_ok0 F Sc rfl rfl (by decide) fun cdv A outer s H E hr => ?_, F.bindsN fun _ _ _ _ _ _ us hl => match us, hl with | [_, _, _, _, _], _ => rfl, F.kp⟩
  exact (pds_cons (pss_cons (pst_expr (ps_expr (pd_call (pe_call (G0.mono (by omega)) hr rfl (T.glo 39) K0 B0 .nil passA (pda_cons (pa_cons (pd_var 1 (pv 1)) (pda_cons (pa_cons (pd_var 2 (pv 2)) (pda_cons (pa_cons (pd_var 3 (pv 3)) (pda_cons (pa_cons (pd_var 4 (pv 4)) (pda_nil pa_nil)))))))))) runB_len))) (pds_cons (pss_cons (pst_fld (c := 0) (fl := 0) (T.cls 5) (okF _ (by decide)) (T.noat 40) (ps_fld (pd_var 0 (pv 0)) (pd_var 1 (pv 1)) rfl)) (pds_cons (pss_cons (pst_fld (c := 0) (fl := 1) (T.cls 5) (okF _ (by decide)) (T.noat 41) (ps_fld (pd_var 0 (pv 0)) (pd_var 2 (pv 2)) rfl)) (pds_cons (pss_cons (pst_fld (c := 0) (fl := 2) (T.cls 5) (okF _ (by decide)) (T.noat 42) (ps_fld (pd_var 0 (pv 0)) (pd_var 3 (pv 3)) rfl)) (pds_cons (pss_cons (pst_fld (c := 0) (fl := 3) (T.cls 5) (okF _ (by decide)) (T.noat 43) (ps_fld (pd_var 0 (pv 0)) (pd_t1 call_tuple_of u_tuple rfl (T.free 31) bb_tuple (pd_var 4 (pv 4))) rfl)) (pds_cons (pss_cons (pst_fld (c := 0) (fl := 4) (T.cls 5) (okF _ (by decide)) (T.noat 44) (ps_fld (pd_var 0 (pv 0)) (pd_tup (pe_tup (pda_cons (pa_cons (pd_var 3 (pv 3)) (pda_star (StX.pa_star (pd_var 4 (pv 4)) (pda_nil pa_nil))))))) rfl)) (pds_nil pss_nil)))))))))))))
end
theorem sc_is_name : FnScope ["text", "letter"] ["text"] (defScope (top 47)) := ⟨rfl, rfl, rfl, by decide +kernel, rfl, by decide +kernel, by decide +kernel⟩
section
variable {w : World} {K : PySem.W.Frag} {h : Heap} {mg : Str → Option Value} {base : Heap}
theorem ok_is_name (T : Fx K h mg) : FnI Pg w K mg base 1 (He.ga K "is_name") ["text"] (spF K (cfg K) 1 F_is_name) := by
  obtain ⟨fd, F⟩ := T.c.funD 29 (d := d_is_name) rfl
  have Sc := sc_is_name
  have BK : ∀ (scope : Scope) (own : List (Str × Nat)), blkC ["text", "letter"] (defScope (top 47)) scope own = true → BlkOk ["text", "letter"] (defScope (top 47)) scope own := fun _ _ h => blkOk_by h
  refine ⟨fd, fn_ok0 F Sc rfl rfl (by decide) fun cdv A outer s H E hr => ?_, F.bindsN fun _ _ _ _ _ _ us hl => match us, hl with | [_], _ => rfl, F.kp⟩
  exact (pds_cons (pss_cons (pst_if (ps_if (pb_not (pt_not (pb_chain op_le op_le b_le b_le (pd_c pe_int fun _ _ _ => rfl) (pd_b1 call_len u_len rfl (T.free 3) bb_len (pd_var 0 (pv 0))) (pd_gint rfl (T.gint 45))))) (pds_cons (pss_cons (pst_ret (ps_ret (pd_c pe_bl fun _ _ _ => rfl))) (pds_nil pss_nil))) (pds_nil pss_nil))) (pds_cons (pss_cons (pst_ret (ps_ret (pd_b1 (cr_all rfl) u_all rfl (T.free 47) bb_all (pd_lc (own := [1]) i_str (g_name 1) (by decide) ht_y (pe_lc (own := [("letter", 1)]) rfl Sc.nd (pi_str (pd_var 0 (pv 0))) (BK _ _ (by decide +kernel)) (fun _ _ _ _ _ => (pg_name (i := 1) Sc.nd rfl (Or.inl rfl))) (fun _ _ _ _ _ => pts_nil) (fun _ _ _ _ _ => (pe_cmp (pcd op_inA b_in (pd_var 1 (pv 1)) (pd_gstr rfl (T.gstr 46)))))))))) (pds_nil pss_nil)))))
end
theorem sc_check_streams : FnScope ["streams", "number", "name"] ["streams"] (defScope (top 51)) := ⟨rfl, rfl, rfl, by decide +kernel, rfl, by decide +kernel, by decide +kernel⟩
section
variable {w : World} {K : PySem.W.Frag} {h : Heap} {mg : Str → Option Value} {base : Heap}
theorem ok_check_streams (T : Fx K h mg) : FnI Pg w K mg base 2 (He.ga K "check_streams") ["streams"] (spF K (cfg K) 1 F_check_streams) := by
  obtain ⟨fd, F⟩ := T.c.funD 30 (d := d_check_streams) rfl
  obtain ⟨fd0, G0, B0, K0⟩ := (ok_is_name (w := w) (base := base) T).ex
  have Sc := sc_check_streams
  refine ⟨fd, fn_ok0 F Sc rfl rfl (by decide) fun cdv A outer s H E hr => ?_, F.bindsN fun _ _ _ _ _ _ us hl => match us, hl with | [_], _ => rfl, F.kp⟩
  exact (pds_cons (pss_cons (pst_if (ps_if (pb_not (pt_not (pb_chain op_le op_le b_le b_le (pd_c pe_int fun _ _ _ => rfl) (pd_b1 call_len u_len rfl (T.free 3) bb_len (pd_var 0 (pv 0))) (pd_gint rfl (T.gint 48))))) (pds_cons (pss_cons pst_no0 (pds_nil pss_nil))) (pds_nil pss_nil))) (pds_cons (pss_cons (pst_for i_enum (g_tup [1, 2] rfl) (ps_for PassesOwn.never rfl (pi_enumA rfl (T.free 36) (pda_cons (pa_cons (pd_var 0 (pv 0)) (pda_nil pa_nil)))) (pg_tup rfl (pgs_cons (pg_name (i := 1) Sc.nd rfl (Or.inl rfl)) (pgs_cons (pg_name (i := 2) Sc.nd rfl (Or.inl rfl)) pgs_nil))) (pds_cons (pss_cons (pst_if (ps_if (PW.pt (pb_or (pw_or (pb_not (pt_not (pb_truth (pd_call (pe_call (G0.mono (by omega)) hr rfl (T.glo 49) K0 B0 .nil passA (pda_cons (pa_cons (pd_var 2 (pv 2)) (pda_nil pa_nil)))) runB_len)))) (pw_or1 (pb_val (pt_cmp (pcd op_inA b_in (pd_var 2 (pv 2)) (pd_sl (pe_slice sl_any (pd_var 0 (pv 0)) po_no (po_at (pd_var 1 (pv 1)))))))))))) (pds_cons (pss_cons pst_no0 (pds_nil pss_nil))) (pds_nil pss_nil))) (pds_nil pss_nil))))) (pds_nil pss_nil)))))
end
theorem sc_is_rival : FnScope ["count", "rival", "first", "second", "forth", "back"] ["count", "rival"] (defScope (top 52)) := ⟨rfl, rfl, rfl, by decide +kernel, rfl, by decide +kernel, by decide +kernel⟩
section
variable {w : World} {K : PySem.W.Frag} {h : Heap} {mg : Str → Option Value} {base : Heap}
theorem ok_is_rival (T : Fx K h mg) : FnI Pg w K mg base 1 (He.ga K "is_rival") ["count", "rival"] (spF K (cfg K) 2 F_is_rival) := by
  obtain ⟨fd, F⟩ := T.c.funD 31 (d := d_is_rival) rfl
  have Sc := sc_is_rival
  refine ⟨fd, fn_ok0 F Sc rfl rfl (by decide) fun cdv A outer s H E hr => ?_, F.bindsN fun _ _ _ _ _ _ us hl => match us, hl with | [_, _], _ => rfl, F.kp⟩
  exact (pds_cons (pss_cons (pst_if (ps_if (pb_val (pt_cmp (pcd (op_neA hr.units) b_ne (pd_b1 call_len u_len rfl (T.free 3) bb_len (pd_var 1 (pv 1))) (pd_c pe_int fun _ _ _ => rfl)))) (pds_cons (pss_cons (pst_ret (ps_ret (pd_c pe_bl fun _ _ _ => rfl))) (pds_nil pss_nil))) (pds_nil pss_nil))) (pds_cons (pss_cons (pst_set (g_tup [2, 3, 4, 5] rfl) (ps_asg (pd_var 1 (pv 1)) (pg_tup rfl (pgs_cons (pg_name (i := 2) Sc.nd rfl (Or.inl rfl)) (pgs_cons (pg_name (i := 3) Sc.nd rfl (Or.inl rfl)) (pgs_cons (pg_name (i := 4) Sc.nd rfl (Or.inl rfl)) (pgs_cons (pg_name (i := 5) Sc.nd rfl (Or.inl rfl)) pgs_nil))))))) (pds_cons (pss_cons (pst_if (ps_if (PW.pt (pb_or (pw_or (pb_val (pt_cmp (pcd (op_eqA hr.units) b_eq (pd_var 2 (pv 2)) (pd_var 3 (pv 3))))) (pb_or (pw_or (pb_not (pt_not (pb_chain op_le op_lt b_le b_lt (pd_c pe_int fun _ _ _ => rfl) (pd_var 2 (pv 2)) (pd_var 0 (pv 0))))) (pw_or1 (pb_not (pt_not (pb_chain op_le op_lt b_le b_lt (pd_c pe_int fun _ _ _ => rfl) (pd_var 3 (pv 3)) (pd_var 0 (pv 0))))))))))) (pds_cons (pss_cons (pst_ret (ps_ret (pd_c pe_bl fun _ _ _ => rfl))) (pds_nil pss_nil))) (pds_nil pss_nil))) (pds_cons (pss_cons (pst_ret (ps_ret (pd_and (pe_and (pd_ch (pe_chain op_le op_le (pd_c pe_int fun _ _ _ => rfl) (pd_var 4 (pv 4)) (pd_gint rfl (T.gint 50))) b_le b_le) (pe_one (pd_ch (pe_chain op_le op_le (pd_c pe_int fun _ _ _ => rfl) (pd_var 5 (pv 5)) (pd_gint rfl (T.gint 50))) b_le b_le)))))) (pds_nil pss_nil)))))))))
end
theorem sc_rival_spans : FnScope ["count", "rivals", "spans", "number", "rival", "first", "second", "forth", "back"] ["count", "rivals"] (defScope (top 53)) := ⟨rfl, rfl, rfl, by decide +kernel, rfl, by decide +kernel, by decide +kernel⟩
section
variable {w : World} {K : PySem.W.Frag} {h : Heap} {mg : Str → Option Value} {base : Heap}
theorem ok_rival_spans (T : Fx K h mg) : FnI Pg w K mg base 2 (He.ga K "rival_spans") ["count", "rivals"] (spF K (cfg K) 2 F_rival_spans) := by
  obtain ⟨fd, F⟩ := T.c.funD 32 (d := d_rival_spans) rfl
  obtain ⟨fd0, G0, B0, K0⟩ := (ok_is_rival (w := w) (base := base) T).ex
  have Sc := sc_rival_spans
  refine ⟨fd, fn_ok0 F Sc rfl rfl (by decide) fun cdv A outer s H E hr => ?_, F.bindsN fun _ _ _ _ _ _ us hl => match us, hl with | [_, _], _ => rfl, F.kp⟩
  exact (pds_cons (pss_cons (pst_set (g_name 2) (ps_set (i := 2) Sc.nd rfl (Or.inl rfl) (pd_dicC pe_dnewT))) (pds_cons (pss_cons (pst_for i_enum (g_tup [3, 4] rfl) (ps_for PassesOwn.never rfl (pi_enumA rfl (T.free 36) (pda_cons (pa_cons (pd_var 1 (pv 1)) (pda_nil pa_nil)))) (pg_tup rfl (pgs_cons (pg_name (i := 3) Sc.nd rfl (Or.inl rfl)) (pgs_cons (pg_name (i := 4) Sc.nd rfl (Or.inl rfl)) pgs_nil))) (pds_cons (pss_cons (pst_if (ps_if (PW.pt (pb_or (pw_or (pb_not (pt_not (pb_truth (pd_call (pe_call (G0.mono (by omega)) hr rfl (T.glo 51) K0 B0 .nil passA (pda_cons (pa_cons (pd_var 0 (pv 0)) (pda_cons (pa_cons (pd_var 4 (pv 4)) (pda_nil pa_nil)))))) runB_len)))) (pw_or1 (pb_val (pt_cmp (pcd_din (hu_of hr) (pd_tup (pe_tup (pda_cons (pa_cons (pd_bin (pe_ix ix_any (pd_var 4 (pv 4)) (pd_c pe_int fun _ _ _ => rfl) fun _ _ => rfl) b_ix) (pda_cons (pa_cons (pd_bin (pe_ix ix_any (pd_var 4 (pv 4)) (pd_c pe_int fun _ _ _ => rfl) fun _ _ => rfl) b_ix) (pda_nil pa_nil))))))) (pd_var 2 (pv 2))))))))) (pds_cons (pss_cons pst_no0 (pds_nil pss_nil))) (pds_nil pss_nil))) (pds_cons (pss_cons (pst_set (g_tup [5, 6, 7, 8] rfl) (ps_asg (pd_var 4 (pv 4)) (pg_tup rfl (pgs_cons (pg_name (i := 5) Sc.nd rfl (Or.inl rfl)) (pgs_cons (pg_name (i := 6) Sc.nd rfl (Or.inl rfl)) (pgs_cons (pg_name (i := 7) Sc.nd rfl (Or.inl rfl)) (pgs_cons (pg_name (i := 8) Sc.nd rfl (Or.inl rfl)) pgs_nil))))))) (pds_cons (pss_cons (pst_subD (ps_dput (hu_of hr) (pd_var 2 (pv 2)) (pd_tup (pe_tup (pda_cons (pa_cons (pd_var 5 (pv 5)) (pda_cons (pa_cons (pd_var 6 (pv 6)) (pda_nil pa_nil))))))) (pd_var 7 (pv 7)) rfl)) (pds_cons (pss_cons (pst_subD (ps_dput (hu_of hr) (pd_var 2 (pv 2)) (pd_tup (pe_tup (pda_cons (pa_cons (pd_var 6 (pv 6)) (pda_cons (pa_cons (pd_var 5 (pv 5)) (pda_nil pa_nil))))))) (pd_var 8 (pv 8)) rfl)) (pds_nil pss_nil))))))))))) (pds_ghost (pds_cons (pss_cons (pst_ret (ps_ret (pd_var 2 (pv 2)))) (pds_nil pss_nil))))))))
end
theorem sc_greatest_span : FnScope ["spans", "stream", "pair", "beats"] ["spans", "stream"] (defScope (top 54)) := ⟨rfl, rfl, rfl, by decide +kernel, rfl, by decide +kernel, by decide +kernel⟩
section
variable {w : World} {K : PySem.W.Frag} {h : Heap} {mg : Str → Option Value} {base : Heap}
theorem ok_greatest_span (T : Fx K h mg) : FnI Pg w K mg base 1 (He.ga K "greatest_span") ["spans", "stream"] (spF K (cfg K) 2 F_greatest_span) := by
  obtain ⟨fd, F⟩ := T.c.funD 33 (d := d_greatest_span) rfl
  have Sc := sc_greatest_span
  have BK : ∀ (scope : Scope) (own : List (Str × Nat)), blkC ["spans", "stream", "pair", "beats"] (defScope (top 54)) scope own = true → BlkOk ["spans", "stream", "pair", "beats"] (defScope (top 54)) scope own := fun _ _ h => blkOk_by h
  refine ⟨fd, fn_ok0 F Sc rfl rfl (by decide) fun cdv A outer s H E hr => ?_, F.bindsN fun _ _ _ _ _ _ us hl => match us, hl with | [_, _], _ => rfl, F.kp⟩
  exact (pds_cons (pss_cons (pst_ret (ps_ret (pd_maxdef (pe_callBK (cr_maxDef rfl (hu_of hr)) rfl (T.free 52) bb_max (pa_cons (pd_lcI (own := [2, 3]) (g_tup [2, 3] rfl) (by decide) ht_t (pe_lc (own := [("pair", 2), ("beats", 3)]) rfl Sc.nd (pi_itemsT (pv 0)) (BK _ _ (by decide +kernel)) (fun _ _ _ _ _ => (pg_tup rfl (pgs_cons (pg_name (i := 2) Sc.nd rfl (Or.inl rfl)) (pgs_cons (pg_name (i := 3) Sc.nd rfl (Or.inl rfl)) pgs_nil)))) (fun _ _ _ _ _ => (pts_one (pb_val (pt_cmp (pcd (op_eqA hr.units) b_eq (pd_bin (pe_ix ix_any (pd_var 2 (pv 2)) (pd_c pe_int fun _ _ _ => rfl) fun _ _ => rfl) b_ix) (pd_var 1 (pv 1))))))) (fun _ _ _ _ _ => (pd_var 3 (pv 3))))) pa_nil) (pk_cons (pd_c pe_int fun _ _ _ => rfl) pk_nil))))) (pds_nil pss_nil)))
end
theorem sc_Crossing_init : FnScope ["self", "streams", "rivals", "spans", "rival", "stream"] ["self", "streams", "rivals"] (defScope (inClass (top 56) 0)) := ⟨rfl, rfl, rfl, by decide +kernel, rfl, by decide +kernel, by decide +kernel⟩
section
variable {w : World} {K : PySem.W.Frag} {h : Heap} {mg : Str → Option Value} {base : Heap}
theorem ok_Crossing_init (T : Fx K h mg) : FnI Pg w K mg base 3 (He.ma K (He.ga K "Crossing") "__init__") ["self", "streams", "rivals"] (spF K (cfg K) 3 F_Crossing_init) := by
  obtain ⟨fd, F⟩ := T.c.funD 34 (d := d_Crossing_init) rfl
  obtain ⟨fd0, G0, B0, K0⟩ := (ok_check_streams (w := w) (base := base) T).ex
  obtain ⟨fd1, G1, B1, K1⟩ := (ok_rival_spans (w := w) (base := base) T).ex
  obtain ⟨fd2, G2, B2, K2⟩ := (ok_greatest_span (w := w) (base := base) T).ex
  have Sc := sc_Crossing_init
  have BK : ∀ (scope : Scope) (own : List (Str × Nat)), blkC ["self", "streams", "rivals", "spans", "rival", "stream"] (defScope (inClass (top 56) 0)) scope own = true → BlkOk ["self", "streams", "rivals", "spans", "rival", "stream"] (defScope (inClass (top 56) 0)) scope own := fun _ _ h => blkOk_by h
  refine ⟨fd, fn_ok0 F Sc rfl rfl (by decide) fun cdv A outer s H E hr => ?_, F.bindsN fun _ _ _ _ _ _ us hl => match us, hl with | [_, _, _], _ => rfl, F.kp⟩
  exact (pds_cons (pss_cons (pst_expr (ps_expr (pd_call (pe_call (G0.mono (by omega)) hr rfl (T.glo 53) K0 B0 .nil passA (pda_cons (pa_cons (pd_var 1 (pv 1)) (pda_nil pa_nil)))) runB_len))) (pds_cons (pss_cons (pst_set (g_name 3) (ps_set (i := 3) Sc.nd rfl (Or.inr rfl) (pd_call (pe_call (G1.mono (by omega)) hr rfl (T.glo 54) K1 B1 .nil passA (pda_cons (pa_cons (pd_b1 call_len u_len rfl (T.free 3) bb_len (pd_var 1 (pv 1))) (pda_cons (pa_cons (pd_var 2 (pv 2)) (pda_nil pa_nil)))))) runB_len))) (pds_cons (pss_cons (pst_fld (c := 1) (fl := 5) (T.cls 17) (okF _ (by decide)) (T.noat 55) (ps_fld (pd_var 0 (pv 0)) (pd_t1 call_tuple_of u_tuple rfl (T.free 31) bb_tuple (pd_var 1 (pv 1))) rfl)) (pds_cons (pss_cons (pst_fld (c := 1) (fl := 6) (T.cls 17) (okF _ (by decide)) (T.noat 56) (ps_fld (pd_var 0 (pv 0)) (pd_t1 call_tuple_of u_tuple rfl (T.free 31) bb_tuple (pd_lc (own := [4]) i_lst (g_name 4) (by decide) ht_y (pe_lc (own := [("rival", 4)]) rfl Sc.nd (PI.or (pi_list (pd_var 2 (pv 2))) (pi_tup (pd_var 2 (pv 2)))) (BK _ _ (by decide +kernel)) (fun _ _ _ _ _ => (pg_name (i := 4) Sc.nd rfl (Or.inl rfl))) (fun _ _ _ _ _ => pts_nil) (fun _ _ _ _ _ => (pd_t1 call_tuple_of u_tuple rfl (T.free 31) bb_tuple (pd_var 4 (pv 4))))))) rfl)) (pds_cons (pss_cons (pst_fld (c := 1) (fl := 7) (T.cls 17) (okF _ (by decide)) (T.noat 57) (ps_fld (pd_var 0 (pv 0)) (pd_var 3 (pv 3)) rfl)) (pds_cons (pss_cons (pst_fld (c := 1) (fl := 8) (T.cls 17) (okF _ (by decide)) (T.noat 59) (ps_fld (pd_var 0 (pv 0)) (pd_t1 call_tuple_of u_tuple rfl (T.free 31) bb_tuple (pd_lc (own := [5]) i_rng (g_name 5) (by decide) ht_y (pe_lc (own := [("stream", 5)]) rfl Sc.nd (pi_range1 rfl (T.free 9) (pda_cons (pa_cons (pd_b1 call_len u_len rfl (T.free 3) bb_len (pd_var 1 (pv 1))) (pda_nil pa_nil)))) (BK _ _ (by decide +kernel)) (fun _ _ _ _ _ => (pg_name (i := 5) Sc.nd rfl (Or.inl rfl))) (fun _ _ _ _ _ => pts_nil) (fun _ _ _ _ _ => (pd_call (pe_call (G2.mono (by omega)) hr rfl (T.glo 58) K2 B2 .nil passA (pda_cons (pa_cons (pd_var 3 (pv 3)) (pda_cons (pa_cons (pd_var 5 (pv 5)) (pda_nil pa_nil)))))) runB_len))))) rfl)) (pds_nil pss_nil)))))))))))))
end
theorem sc_Lane_init_at_Foot : FnScope ["self", "bound"] ["self", "bound"] (defScope (inClass (top 61) 0)) := ⟨rfl, rfl, rfl, by decide +kernel, rfl, by decide +kernel, by decide +kernel⟩
section
variable {w : World} {K : PySem.W.Frag} {h : Heap} {mg : Str → Option Value} {base : Heap}
theorem ok_Lane_init_at_Foot (T : Fx K h mg) : FnI Pg w K mg base 1 (He.ma K (He.ga K "Lane") "__init__") ["self", "bound"] (spF K (cfg K) 2 F_Lane_init_at_Foot) := by
  obtain ⟨fd, F⟩ := T.c.funD 35 (d := d_Lane_init_at_Foot) rfl
  have Sc := sc_Lane_init_at_Foot
  refine ⟨fd, fn_ok0 F Sc rfl rfl (by decide) fun cdv A outer s H E hr => ?_, F.bindsN fun _ _ _ _ _ _ us hl => match us, hl with | [_, _], _ => rfl, F.kp⟩
  exact (pds_cons (pss_cons (pst_fld (c := 2) (fl := 9) (T.cls 21) (okF _ (by decide)) (T.noat 60) (ps_fld (pd_var 0 (pv 0)) (pd_var 1 (pv 1)) rfl)) (pds_nil pss_nil)))
end
theorem sc_Lane_init_at_Road : FnScope ["self", "bound"] ["self", "bound"] (defScope (inClass (top 61) 0)) := ⟨rfl, rfl, rfl, by decide +kernel, rfl, by decide +kernel, by decide +kernel⟩
section
variable {w : World} {K : PySem.W.Frag} {h : Heap} {mg : Str → Option Value} {base : Heap}
theorem ok_Lane_init_at_Road (T : Fx K h mg) : FnI Pg w K mg base 1 (He.ma K (He.ga K "Lane") "__init__") ["self", "bound"] (spF K (cfg K) 2 F_Lane_init_at_Road) := by
  obtain ⟨fd, F⟩ := T.c.funD 36 (d := d_Lane_init_at_Road) rfl
  have Sc := sc_Lane_init_at_Road
  refine ⟨fd, fn_ok0 F Sc rfl rfl (by decide) fun cdv A outer s H E hr => ?_, F.bindsN fun _ _ _ _ _ _ us hl => match us, hl with | [_, _], _ => rfl, F.kp⟩
  exact (pds_cons (pss_cons (pst_fld (c := 3) (fl := 9) (T.cls 22) (okF _ (by decide)) (T.noat 61) (ps_fld (pd_var 0 (pv 0)) (pd_var 1 (pv 1)) rfl)) (pds_nil pss_nil)))
end
theorem sc_Foot_init : NdefX.NScope ["self", "bound", "__class__"] ["self", "bound"] ["__class__"] (defScope (inClass (top 62) 0)) := NdefX.nscope_by (by decide +kernel)
section
variable {w : World} {K : PySem.W.Frag} {h : Heap} {mg : Str → Option Value} {base : Heap}
theorem ok_Foot_init (T : Fx K h mg) : FnI Pg w K mg base 2 (He.ma K (He.ga K "Foot") "__init__") ["self", "bound"] (spF K (cfg K) 2 F_Foot_init) := by
  obtain ⟨fd, F⟩ := T.c.funF 37 (d := d_Foot_init) rfl
  obtain ⟨fd0, G0, B0, K0⟩ := (ok_Lane_init_at_Foot (w := w) (base := base) T).ex
  have Sc := sc_Foot_init
  refine ⟨fd, fn_okF0 F Sc rfl rfl (by decide) fun A outer s H E hr => ?_, by
    obtain ⟨oc, od, kV, doc, pm, an, ct, osl, rfl, _, _⟩ := F.ex
    exact .all fun us hl => match us, hl with | [_, _], _ => rfl, F.kp⟩
  exact (pdsa_cons (psa_cons (pst_if (ps_if (pb_not (pt_not (pb_chain op_le op_le b_le b_le (pd_c pe_int fun _ _ _ => rfl) (pd_var 1 (pv 1)) (pd_gint rfl (T.gint 62))))) (pds_cons (pss_cons pst_no0 (pds_nil pss_nil))) (pds_nil pss_nil))) (pdsa_sup (c := 2) (psa_super (i := 0) (G0.mono (by omega)) B0 hr passA T.sup_Foot (beq_self_eq_true _) topS rfl rfl rfl rfl rfl rfl rfl (T.free 63) bb_super rfl (pda_cons (pa_cons (pd_var 1 (pv 1)) (pda_nil pa_nil))) (pdsa_of (pds_nil pss_nil))) runB_len)))
end
theorem sc_Road_init : NdefX.NScope ["self", "capacity", "rate", "bus", "__class__"] ["self", "capacity", "rate", "bus"] ["__class__"] (defScope (inClass (top 63) 0)) := NdefX.nscope_by (by decide +kernel)
section
variable {w : World} {K : PySem.W.Frag} {h : Heap} {mg : Str → Option Value} {base : Heap}
theorem ok_Road_init (T : Fx K h mg) : ∃ fd, FnOk Pg w K mg base CX0 2 (He.ma K (He.ga K "Road") "__init__") fd ["self", "capacity", "rate", "bus"] (spF K (cfg K) 4 F_Road_init) ∧ KBn K fd ["self", "capacity", "rate", "bus"] 2 ["rate", "bus"] (fun us ws => us ++ ws) (fun vs zs => vs ++ zs) ∧ PySem.W.keepIn K (.ref (He.ma K (He.ga K "Road") "__init__")) = true := by
  obtain ⟨fd, F⟩ := T.c.funF 38 (d := d_Road_init) rfl
  obtain ⟨fd0, G0, B0, K0⟩ := (ok_Lane_init_at_Road (w := w) (base := base) T).ex
  have Sc := sc_Road_init
  refine ⟨fd, fn_okF0 F Sc rfl rfl (by decide) fun A outer s H E hr => ?_, by
    obtain ⟨oc, od, kV, doc, pm, an, ct, osl, rfl, _, _⟩ := F.ex
    exact kbn_all fun us ws l1 l2 => match us, ws, l1, l2 with | [_, _], [_, _], _, _ => rfl, F.kp⟩
  exact (pdsa_cons (psa_cons (pst_if (ps_if (pb_not (pt_not (pb_chain op_le op_le b_le b_le (pd_c pe_int fun _ _ _ => rfl) (pd_var 1 (pv 1)) (pd_gint rfl (T.gint 64))))) (pds_cons (pss_cons pst_no0 (pds_nil pss_nil))) (pds_nil pss_nil))) (pdsa_cons (psa_cons (pst_if (ps_if (PW.pt (pb_or (pw_or (pb_not (pt_not (pb_chain op_le op_le b_le b_le (pd_c pe_int fun _ _ _ => rfl) (pd_var 3 (pv 3)) (pd_gint rfl (T.gint 65))))) (pw_or1 (PW.pt (pb_and (pw_and (pb_val (pt_cmp (pcd (op_neA hr.units) b_ne (pd_var 3 (pv 3)) (pd_c pe_int fun _ _ _ => rfl)))) (pw_and1 (pb_val (pt_cmp (pcd op_isN b_is (pd_var 2 (pv 2)) (pd_c pe_non fun _ _ _ => rfl)))))))))))) (pds_cons (pss_cons pst_no0 (pds_nil pss_nil))) (pds_nil pss_nil))) (pdsa_sup (c := 3) (psa_super (i := 0) (G0.mono (by omega)) B0 hr passA T.sup_Road (beq_self_eq_true _) topS rfl rfl rfl rfl rfl rfl rfl (T.free 63) bb_super rfl (pda_cons (pa_cons (pd_var 3 (pv 3)) (pda_nil pa_nil))) (pdsa_of (pds_cons (pss_cons (pst_fld (c := 3) (fl := 10) (T.cls 22) (okF _ (by decide)) (T.noat 66) (ps_fld (pd_var 0 (pv 0)) (pd_var 1 (pv 1)) rfl)) (pds_cons (pss_cons (pst_fld (c := 3) (fl := 11) (T.cls 22) (okF _ (by decide)) (T.noat 67) (ps_fld (pd_var 0 (pv 0)) (pd_var 2 (pv 2)) rfl)) (pds_cons (pss_cons (pst_fld (c := 3) (fl := 12) (T.cls 22) (okF _ (by decide)) (T.noat 68) (ps_fld (pd_var 0 (pv 0)) (pd_var 3 (pv 3)) rfl)) (pds_nil pss_nil))))))))) runB_len)))))
end
theorem sc_are_streams : FnScope ["numbers", "place", "number"] ["numbers"] (defScope (top 68)) := ⟨rfl, rfl, rfl, by decide +kernel, rfl, by decide +kernel, by decide +kernel⟩
section
variable {w : World} {K : PySem.W.Frag} {h : Heap} {mg : Str → Option Value} {base : Heap}
theorem ok_are_streams (T : Fx K h mg) : FnI Pg w K mg base 1 (He.ga K "are_streams") ["numbers"] (spF K (cfg K) 1 F_are_streams) := by
  obtain ⟨fd, F⟩ := T.c.funD 39 (d := d_are_streams) rfl
  have Sc := sc_are_streams
  refine ⟨fd, fn_ok0 F Sc rfl rfl (by decide) fun cdv A outer s H E hr => ?_, F.bindsN fun _ _ _ _ _ _ us hl => match us, hl with | [_], _ => rfl, F.kp⟩
  exact (pds_cons (pss_cons (pst_for i_enum (g_tup [1, 2] rfl) (ps_for PassesOwn.never rfl (pi_enumA rfl (T.free 36) (pda_cons (pa_cons (pd_var 0 (pv 0)) (pda_nil pa_nil)))) (pg_tup rfl (pgs_cons (pg_name (i := 1) Sc.nd rfl (Or.inl rfl)) (pgs_cons (pg_name (i := 2) Sc.nd rfl (Or.inl rfl)) pgs_nil))) (pds_cons (pss_cons (pst_if (ps_if (PW.pt (pb_or (pw_or (pb_not (pt_not (pb_chain op_le op_le b_le b_le (pd_c pe_int fun _ _ _ => rfl) (pd_var 2 (pv 2)) (pd_gint rfl (T.gint 69))))) (pw_or1 (pb_val (pt_cmp (pcd op_inA b_in (pd_var 2 (pv 2)) (pd_sl (pe_slice sl_any (pd_var 0 (pv 0)) po_no (po_at (pd_var 1 (pv 1)))))))))))) (pds_cons (pss_cons (pst_ret (ps_ret (pd_c pe_bl fun _ _ _ => rfl))) (pds_nil pss_nil))) (pds_nil pss_nil))) (pds_nil pss_nil))))) (pds_cons (pss_cons (pst_ret (ps_ret (pd_c pe_bl fun _ _ _ => rfl))) (pds_nil pss_nil)))))
end
theorem sc_check_phase : FnScope ["green", "least", "most", "pause", "holds", "calls"] ["green", "least", "most", "pause", "holds", "calls"] (defScope (top 69)) := ⟨rfl, rfl, rfl, by decide +kernel, rfl, by decide +kernel, by decide +kernel⟩
section
variable {w : World} {K : PySem.W.Frag} {h : Heap} {mg : Str → Option Value} {base : Heap}
theorem ok_check_phase (T : Fx K h mg) : FnI Pg w K mg base 2 (He.ga K "check_phase") ["green", "least", "most", "pause", "holds", "calls"] (spF K (cfg K) 6 F_check_phase) := by
  obtain ⟨fd, F⟩ := T.c.funD 40 (d := d_check_phase) rfl
  obtain ⟨fd0, G0, B0, K0⟩ := (ok_are_streams (w := w) (base := base) T).ex
  have Sc := sc_check_phase
  refine ⟨fd, fn_ok0 F Sc rfl rfl (by decide) fun cdv A outer s H E hr => ?_, F.bindsN fun _ _ _ _ _ _ us hl => match us, hl with | [_, _, _, _, _, _], _ => rfl, F.kp⟩
  exact (pds_cons (pss_cons (pst_if (ps_if (pb_not (pt_not (pb_truth (pd_call (pe_call (G0.mono (by omega)) hr rfl (T.glo 70) K0 B0 .nil passA (pda_cons (pa_cons (pd_var 0 (pv 0)) (pda_nil pa_nil)))) runB_len)))) (pds_cons (pss_cons pst_no0 (pds_nil pss_nil))) (pds_nil pss_nil))) (pds_cons (pss_cons (pst_if (ps_if (pb_not (pt_not (pb_chain op_le op_le b_le b_le (pd_c pe_int fun _ _ _ => rfl) (pd_var 1 (pv 1)) (pd_gint rfl (T.gint 71))))) (pds_cons (pss_cons pst_no0 (pds_nil pss_nil))) (pds_nil pss_nil))) (pds_cons (pss_cons (pst_if (ps_if (pb_not (pt_not (pb_chain op_le op_le b_le b_le (pd_var 1 (pv 1)) (pd_var 2 (pv 2)) (pd_gint rfl (T.gint 71))))) (pds_cons (pss_cons pst_no0 (pds_nil pss_nil))) (pds_nil pss_nil))) (pds_cons (pss_cons (pst_if (ps_if (pb_not (pt_not (pb_chain op_le op_le b_le b_le (pd_c pe_int fun _ _ _ => rfl) (pd_var 3 (pv 3)) (pd_gint rfl (T.gint 72))))) (pds_cons (pss_cons pst_no0 (pds_nil pss_nil))) (pds_nil pss_nil))) (pds_cons (pss_cons (pst_if (ps_if (pb_not (pt_not (pb_truth (pd_call (pe_call (G0.mono (by omega)) hr rfl (T.glo 70) K0 B0 .nil passA (pda_cons (pa_cons (pd_var 4 (pv 4)) (pda_nil pa_nil)))) runB_len)))) (pds_cons (pss_cons pst_no0 (pds_nil pss_nil))) (pds_nil pss_nil))) (pds_cons (pss_cons (pst_if (ps_if (pb_not (pt_not (pb_truth (pd_call (pe_call (G0.mono (by omega)) hr rfl (T.glo 70) K0 B0 .nil passA (pda_cons (pa_cons (pd_var 5 (pv 5)) (pda_nil pa_nil)))) runB_len)))) (pds_cons (pss_cons pst_no0 (pds_nil pss_nil))) (pds_nil pss_nil))) (pds_nil pss_nil)))))))))))))
end
theorem sc_Phase_init : FnScope ["self", "green", "least", "most", "pause", "holds", "calls", "yields", "greatest"] ["self", "green", "least", "most", "pause", "holds", "calls", "yields"] (defScope (inClass (top 70) 0)) := ⟨rfl, rfl, rfl, by decide +kernel, rfl, by decide +kernel, by decide +kernel⟩
section
variable {w : World} {K : PySem.W.Frag} {h : Heap} {mg : Str → Option Value} {base : Heap}
theorem ok_Phase_init (T : Fx K h mg) : ∃ fd, FnOk Pg w K mg base CX0 3 (He.ma K (He.ga K "Phase") "__init__") fd ["self", "green", "least", "most", "pause", "holds", "calls", "yields"] (spF K (cfg K) 8 F_Phase_init) ∧ KBn K fd ["self", "green", "least", "most", "pause", "holds", "calls", "yields"] 2 ["least", "most", "pause", "holds", "calls", "yields"] (fun us ws => us ++ ws) (fun vs zs => vs ++ zs) ∧ PySem.W.keepIn K (.ref (He.ma K (He.ga K "Phase") "__init__")) = true := by
  obtain ⟨fd, F⟩ := T.c.funD 41 (d := d_Phase_init) rfl
  obtain ⟨fd0, G0, B0, K0⟩ := (ok_check_phase (w := w) (base := base) T).ex
  have Sc := sc_Phase_init
  refine ⟨fd, fn_ok0 F Sc rfl rfl (by decide) fun cdv A outer s H E hr => ?_, ?_, F.kp⟩
  · exact (pds_cons (pss_cons (pst_set (g_name 8) (ps_set (i := 8) Sc.nd rfl (Or.inl rfl) (pd_if (pe_ifExp (pb_val (pt_cmp (pcd op_isN b_is (pd_var 3 (pv 3)) (pd_c pe_non fun _ _ _ => rfl)))) (pd_var 2 (pv 2)) (pd_var 3 (pv 3)))))) (pds_cons (pss_cons (pst_expr (ps_expr (pd_call (pe_call (G0.mono (by omega)) hr rfl (T.glo 73) K0 B0 .nil passA (pda_cons (pa_cons (pd_var 1 (pv 1)) (pda_cons (pa_cons (pd_var 2 (pv 2)) (pda_cons (pa_cons (pd_var 8 (pv 8)) (pda_cons (pa_cons (pd_var 4 (pv 4)) (pda_cons (pa_cons (pd_var 5 (pv 5)) (pda_cons (pa_cons (pd_var 6 (pv 6)) (pda_nil pa_nil)))))))))))))) runB_len))) (pds_cons (pss_cons (pst_fld (c := 4) (fl := 13) (T.cls 75) (okF _ (by decide)) (T.noat 76) (ps_fld (pd_var 0 (pv 0)) (pd_t1 call_tuple_of u_tuple rfl (T.free 31) bb_tuple (pd_b1 cr_sortedI u_sort rfl (T.free 74) bb_sorted (pd_var 1 (pv 1)))) rfl)) (pds_cons (pss_cons (pst_fld (c := 4) (fl := 14) (T.cls 75) (okF _ (by decide)) (T.noat 77) (ps_fld (pd_var 0 (pv 0)) (pd_var 2 (pv 2)) rfl)) (pds_cons (pss_cons (pst_fld (c := 4) (fl := 15) (T.cls 75) (okF _ (by decide)) (T.noat 78) (ps_fld (pd_var 0 (pv 0)) (pd_var 8 (pv 8)) rfl)) (pds_cons (pss_cons (pst_fld (c := 4) (fl := 16) (T.cls 75) (okF _ (by decide)) (T.noat 79) (ps_fld (pd_var 0 (pv 0)) (pd_var 4 (pv 4)) rfl)) (pds_cons (pss_cons (pst_fld (c := 4) (fl := 17) (T.cls 75) (okF _ (by decide)) (T.noat 80) (ps_fld (pd_var 0 (pv 0)) (pd_t1 call_tuple_of u_tuple rfl (T.free 31) bb_tuple (pd_b1 cr_sortedI u_sort rfl (T.free 74) bb_sorted (pd_var 5 (pv 5)))) rfl)) (pds_cons (pss_cons (pst_fld (c := 4) (fl := 18) (T.cls 75) (okF _ (by decide)) (T.noat 81) (ps_fld (pd_var 0 (pv 0)) (pd_t1 call_tuple_of u_tuple rfl (T.free 31) bb_tuple (pd_b1 cr_sortedI u_sort rfl (T.free 74) bb_sorted (pd_var 6 (pv 6)))) rfl)) (pds_cons (pss_cons (pst_fld (c := 4) (fl := 19) (T.cls 75) (okF _ (by decide)) (T.noat 82) (ps_fld (pd_var 0 (pv 0)) (pd_var 7 (pv 7)) rfl)) (pds_nil pss_nil)))))))))))))))))))
  · obtain ⟨oc, od, dV, kV, doc, pm, an, cdv, ct, osl, rfl, _, _, hD, _⟩ := F.ex
    have hdV : dV = .none := by
      rcases hD with ⟨_, z⟩ | ⟨z, _⟩
      · exact z
      · exact absurd rfl z
    subst hdV
    exact kbn_all fun us ws l1 l2 => match us, ws, l1, l2 with | [_, _], [_, _, _, _, _, _], _, _ => rfl
end
theorem sc_Rate_init : FnScope ["self", "burst", "num", "den"] ["self", "burst", "num", "den"] (defScope (inClass (top 76) 0)) := ⟨rfl, rfl, rfl, by decide +kernel, rfl, by decide +kernel, by decide +kernel⟩
section
variable {w : World} {K : PySem.W.Frag} {h : Heap} {mg : Str → Option Value} {base : Heap}
theorem ok_Rate_init (T : Fx K h mg) : FnI Pg w K mg base 1 (He.ma K (He.ga K "Rate") "__init__") ["self", "burst", "num", "den"] (spF K (cfg K) 4 F_Rate_init) := by
  obtain ⟨fd, F⟩ := T.c.funD 42 (d := d_Rate_init) rfl
  have Sc := sc_Rate_init
  refine ⟨fd, fn_ok0 F Sc rfl rfl (by decide) fun cdv A outer s H E hr => ?_, F.bindsN fun _ _ _ _ _ _ us hl => match us, hl with | [_, _, _, _], _ => rfl, F.kp⟩
  exact (pds_cons (pss_cons (pst_if (ps_if (pb_not (pt_not (pb_chain op_le op_le b_le b_le (pd_c pe_int fun _ _ _ => rfl) (pd_var 1 (pv 1)) (pd_gint rfl (T.gint 83))))) (pds_cons (pss_cons pst_no0 (pds_nil pss_nil))) (pds_nil pss_nil))) (pds_cons (pss_cons (pst_if (ps_if (pb_not (pt_not (pb_chain op_le op_le b_le b_le (pd_c pe_int fun _ _ _ => rfl) (pd_var 3 (pv 3)) (pd_gint rfl (T.gint 84))))) (pds_cons (pss_cons pst_no0 (pds_nil pss_nil))) (pds_nil pss_nil))) (pds_cons (pss_cons (pst_if (ps_if (pb_not (pt_not (pb_chain op_le op_le b_le b_le (pd_c pe_int fun _ _ _ => rfl) (pd_var 2 (pv 2)) (pd_var 3 (pv 3))))) (pds_cons (pss_cons pst_no0 (pds_nil pss_nil))) (pds_nil pss_nil))) (pds_cons (pss_cons (pst_fld (c := 5) (fl := 20) (T.cls 23) (okF _ (by decide)) (T.noat 85) (ps_fld (pd_var 0 (pv 0)) (pd_var 1 (pv 1)) rfl)) (pds_cons (pss_cons (pst_fld (c := 5) (fl := 21) (T.cls 23) (okF _ (by decide)) (T.noat 86) (ps_fld (pd_var 0 (pv 0)) (pd_var 2 (pv 2)) rfl)) (pds_cons (pss_cons (pst_fld (c := 5) (fl := 22) (T.cls 23) (okF _ (by decide)) (T.noat 87) (ps_fld (pd_var 0 (pv 0)) (pd_var 3 (pv 3)) rfl)) (pds_nil pss_nil)))))))))))))
end
theorem sc_bus_streams : FnScope ["lanes", "stream", "lane"] ["lanes"] (defScope (top 78)) := ⟨rfl, rfl, rfl, by decide +kernel, rfl, by decide +kernel, by decide +kernel⟩
section
variable {w : World} {K : PySem.W.Frag} {h : Heap} {mg : Str → Option Value} {base : Heap}
theorem ok_bus_streams (T : Fx K h mg) : FnI Pg w K mg base 3 (He.ga K "bus_streams") ["lanes"] (spF K (cfg K) 1 F_bus_streams) := by
  obtain ⟨fd, F⟩ := T.c.funD 43 (d := d_bus_streams) rfl
  obtain ⟨fd0, G0, B0, K0⟩ := (ok_Foot_foot (w := w) (base := base) T).ex
  obtain ⟨fd1, G1, B1, K1⟩ := (ok_Road_foot (w := w) (base := base) T).ex
  have Sc := sc_bus_streams
  have BK : ∀ (scope : Scope) (own : List (Str × Nat)), blkC ["lanes", "stream", "lane"] (defScope (top 78)) scope own = true → BlkOk ["lanes", "stream", "lane"] (defScope (top 78)) scope own := fun _ _ h => blkOk_by h
  refine ⟨fd, fn_ok0 F Sc rfl rfl (by decide) fun cdv A outer s H E hr => ?_, F.bindsN fun _ _ _ _ _ _ us hl => match us, hl with | [_], _ => rfl, F.kp⟩
  exact (pds_cons (pss_cons (pst_ret (ps_ret (pd_lc (own := [1, 2]) i_enum (g_tup [1, 2] rfl) (by decide) ht_t (pe_lc (own := [("stream", 1), ("lane", 2)]) rfl Sc.nd (pi_enumA rfl (T.free 36) (pda_cons (pa_cons (pd_var 0 (pv 0)) (pda_nil pa_nil)))) (BK _ _ (by decide +kernel)) (fun _ _ _ _ _ => (pg_tup rfl (pgs_cons (pg_name (i := 1) Sc.nd rfl (Or.inl rfl)) (pgs_cons (pg_name (i := 2) Sc.nd rfl (Or.inl rfl)) pgs_nil)))) (fun _ _ _ _ _ => (pts_one (PW.pt (pb_and (pw_and (pb_not (pt_not (pb_truth (pd_alt (pd_prop (c := 2) (pe_prop (pd_var 2 (pv 2)) (T.cls 21) (T.prop_Foot_foot) (G0.mono (by omega)) hr B0 .nil passA rfl)) (pd_prop (c := 3) (pe_prop (pd_var 2 (pv 2)) (T.cls 22) (T.prop_Road_foot) (G1.mono (by omega)) hr B1 .nil passA rfl)))))) (pw_and1 (pb_val (pt_cmp (pcd (op_neA hr.units) b_ne (pd_fld (fl := 12) (pe_fld (pd_var 2 (pv 2)) rfl)) (pd_c pe_int fun _ _ _ => rfl)))))))))) (fun _ _ _ _ _ => (pd_var 1 (pv 1))))))) (pds_nil pss_nil)))
end
theorem sc_Site_init : FnScope ["self", "book", "lanes", "streams", "buses"] ["self", "book", "lanes"] (defScope (inClass (top 79) 0)) := ⟨rfl, rfl, rfl, by decide +kernel, rfl, by decide +kernel, by decide +kernel⟩
section
variable {w : World} {K : PySem.W.Frag} {h : Heap} {mg : Str → Option Value} {base : Heap}
theorem ok_Site_init (T : Fx K h mg) : FnI Pg w K mg base 4 (He.ma K (He.ga K "Site") "__init__") ["self", "book", "lanes"] (spF K (cfg K) 3 F_Site_init) := by
  obtain ⟨fd, F⟩ := T.c.funD 44 (d := d_Site_init) rfl
  obtain ⟨fd0, G0, B0, K0⟩ := (ok_Crossing_len (w := w) (base := base) T).ex
  obtain ⟨fd1, G1, B1, K1⟩ := (ok_bus_streams (w := w) (base := base) T).ex
  have Sc := sc_Site_init
  refine ⟨fd, fn_ok0 F Sc rfl rfl (by decide) fun cdv A outer s H E hr => ?_, F.bindsN fun _ _ _ _ _ _ us hl => match us, hl with | [_, _, _], _ => rfl, F.kp⟩
  exact (pds_cons (pss_cons (pst_set (g_name 3) (ps_set (i := 3) Sc.nd rfl (Or.inl rfl) (pd_lenO (c := 1) (pe_callB (cr_lenO (T.meth 13) (G0.mono (by omega)) hr B0 passA) rfl (T.free 3) bb_len (pa_cons (pd_fld (fl := 0) (pe_fld (pd_var 1 (pv 1)) rfl)) pa_nil))))) (pds_cons (pss_cons (pst_if (ps_if (pb_val (pt_cmp (pcd (op_neA hr.units) b_ne (pd_b1 call_len u_len rfl (T.free 3) bb_len (pd_var 2 (pv 2))) (pd_var 3 (pv 3))))) (pds_cons (pss_cons pst_no0 (pds_nil pss_nil))) (pds_nil pss_nil))) (pds_cons (pss_cons (pst_set (g_name 4) (ps_set (i := 4) Sc.nd rfl (Or.inl rfl) (pd_call (pe_call (G1.mono (by omega)) hr rfl (T.glo 88) K1 B1 .nil passA (pda_cons (pa_cons (pd_var 2 (pv 2)) (pda_nil pa_nil)))) runB_len))) (pds_cons (pss_cons (pst_if (ps_if (pb_val (pt_cmp (pcd op_gt b_gt (pd_b1 call_len u_len rfl (T.free 3) bb_len (pd_var 4 (pv 4))) (pd_c pe_int fun _ _ _ => rfl)))) (pds_cons (pss_cons pst_no0 (pds_nil pss_nil))) (pds_nil pss_nil))) (pds_cons (pss_cons (pst_fld (c := 6) (fl := 23) (T.cls 89) (okF _ (by decide)) (T.noat 90) (ps_fld (pd_var 0 (pv 0)) (pd_var 1 (pv 1)) rfl)) (pds_cons (pss_cons (pst_fld (c := 6) (fl := 24) (T.cls 89) (okF _ (by decide)) (T.noat 91) (ps_fld (pd_var 0 (pv 0)) (pd_t1 call_tuple_of u_tuple rfl (T.free 31) bb_tuple (pd_var 2 (pv 2))) rfl)) (pds_nil pss_nil)))))))))))))
end
theorem sc_Street_init : FnScope ["self", "start", "end", "travel"] ["self", "start", "end", "travel"] (defScope (inClass (top 82) 0)) := ⟨rfl, rfl, rfl, by decide +kernel, rfl, by decide +kernel, by decide +kernel⟩
section
variable {w : World} {K : PySem.W.Frag} {h : Heap} {mg : Str → Option Value} {base : Heap}
theorem ok_Street_init (T : Fx K h mg) : FnI Pg w K mg base 1 (He.ma K (He.ga K "Street") "__init__") ["self", "start", "end", "travel"] (spF K (cfg K) 4 F_Street_init) := by
  obtain ⟨fd, F⟩ := T.c.funD 45 (d := d_Street_init) rfl
  have Sc := sc_Street_init
  refine ⟨fd, fn_ok0 F Sc rfl rfl (by decide) fun cdv A outer s H E hr => ?_, F.bindsN fun _ _ _ _ _ _ us hl => match us, hl with | [_, _, _, _], _ => rfl, F.kp⟩
  exact (pds_cons (pss_cons (pst_if (ps_if (pb_not (pt_not (pb_chain op_le op_le b_le b_le (pd_c pe_int fun _ _ _ => rfl) (pd_var 3 (pv 3)) (pd_gint rfl (T.gint 92))))) (pds_cons (pss_cons pst_no0 (pds_nil pss_nil))) (pds_nil pss_nil))) (pds_cons (pss_cons (pst_fld (c := 7) (fl := 25) (T.cls 93) (okF _ (by decide)) (T.noat 94) (ps_fld (pd_var 0 (pv 0)) (pd_t1 call_tuple_of u_tuple rfl (T.free 31) bb_tuple (pd_var 1 (pv 1))) rfl)) (pds_cons (pss_cons (pst_fld (c := 7) (fl := 26) (T.cls 93) (okF _ (by decide)) (T.noat 95) (ps_fld (pd_var 0 (pv 0)) (pd_t1 call_tuple_of u_tuple rfl (T.free 31) bb_tuple (pd_var 2 (pv 2))) rfl)) (pds_cons (pss_cons (pst_fld (c := 7) (fl := 27) (T.cls 93) (okF _ (by decide)) (T.noat 96) (ps_fld (pd_var 0 (pv 0)) (pd_var 3 (pv 3)) rfl)) (pds_nil pss_nil)))))))))
end
theorem sc_check_sites : FnScope ["sites", "number", "site"] ["sites"] (defScope (top 87)) := ⟨rfl, rfl, rfl, by decide +kernel, rfl, by decide +kernel, by decide +kernel⟩
section
variable {w : World} {K : PySem.W.Frag} {h : Heap} {mg : Str → Option Value} {base : Heap}
theorem ok_check_sites (T : Fx K h mg) : FnI Pg w K mg base 1 (He.ga K "check_sites") ["sites"] (spF K (cfg K) 1 F_check_sites) := by
  obtain ⟨fd, F⟩ := T.c.funD 46 (d := d_check_sites) rfl
  have Sc := sc_check_sites
  refine ⟨fd, fn_ok0 F Sc rfl rfl (by decide) fun cdv A outer s H E hr => ?_, F.bindsN fun _ _ _ _ _ _ us hl => match us, hl with | [_], _ => rfl, F.kp⟩
  exact (pds_cons (pss_cons (pst_if (ps_if (pb_not (pt_not (pb_chain op_le op_le b_le b_le (pd_c pe_int fun _ _ _ => rfl) (pd_b1 call_len u_len rfl (T.free 3) bb_len (pd_var 0 (pv 0))) (pd_gint rfl (T.gint 97))))) (pds_cons (pss_cons pst_no0 (pds_nil pss_nil))) (pds_nil pss_nil))) (pds_cons (pss_cons (pst_for i_enum (g_tup [1, 2] rfl) (ps_for PassesOwn.never rfl (pi_enumA rfl (T.free 36) (pda_cons (pa_cons (pd_var 0 (pv 0)) (pda_nil pa_nil)))) (pg_tup rfl (pgs_cons (pg_name (i := 1) Sc.nd rfl (Or.inl rfl)) (pgs_cons (pg_name (i := 2) Sc.nd rfl (Or.inl rfl)) pgs_nil))) (pds_cons (pss_cons (pst_if (ps_if (pb_val (pt_cmp (pcd (op_neA hr.units) b_ne (pd_fld (fl := 1) (pe_fld (pd_fld (fl := 23) (pe_fld (pd_var 2 (pv 2)) rfl)) rfl)) (pd_fld (fl := 1) (pe_fld (pd_fld (fl := 23) (pe_fld (pd_bin (pe_ix ix_any (pd_var 0 (pv 0)) (pd_c pe_int fun _ _ _ => rfl) fun _ _ => rfl) b_ix) rfl)) rfl))))) (pds_cons (pss_cons pst_no0 (pds_nil pss_nil))) (pds_nil pss_nil))) (pds_nil pss_nil))))) (pds_nil pss_nil)))))
end
theorem sc_check_offsets : FnScope ["offsets", "count", "length", "place"] ["offsets", "count", "length"] (defScope (top 88)) := ⟨rfl, rfl, rfl, by decide +kernel, rfl, by decide +kernel, by decide +kernel⟩
section
variable {w : World} {K : PySem.W.Frag} {h : Heap} {mg : Str → Option Value} {base : Heap}
theorem ok_check_offsets (T : Fx K h mg) : FnI Pg w K mg base 1 (He.ga K "check_offsets") ["offsets", "count", "length"] (spF K (cfg K) 3 F_check_offsets) := by
  obtain ⟨fd, F⟩ := T.c.funD 47 (d := d_check_offsets) rfl
  have Sc := sc_check_offsets
  refine ⟨fd, fn_ok0 F Sc rfl rfl (by decide) fun cdv A outer s H E hr => ?_, F.bindsN fun _ _ _ _ _ _ us hl => match us, hl with | [_, _, _], _ => rfl, F.kp⟩
  exact (pds_cons (pss_cons (pst_for i_rng (g_name 3) (ps_for PassesOwn.never rfl (pi_range1 rfl (T.free 9) (pda_cons (pa_cons (pd_b2 (call_max2 rfl) b_max2 rfl (T.free 52) bb_max (pd_b1 call_len u_len rfl (T.free 3) bb_len (pd_var 0 (pv 0))) (pd_var 1 (pv 1))) (pda_nil pa_nil)))) (pg_name (i := 3) Sc.nd rfl (Or.inl rfl)) (pds_cons (pss_cons (pst_if (ps_if (PW.pt (pb_or (pw_or (pb_val (pt_cmp (pcd op_ge b_ge (pd_var 3 (pv 3)) (pd_b1 call_len u_len rfl (T.free 3) bb_len (pd_var 0 (pv 0)))))) (pb_or (pw_or (pb_val (pt_cmp (pcd op_ge b_ge (pd_var 3 (pv 3)) (pd_var 1 (pv 1))))) (pw_or1 (pb_not (pt_not (pb_chain op_le op_lt b_le b_lt (pd_c pe_int fun _ _ _ => rfl) (pd_bin (pe_ix ix_any (pd_var 0 (pv 0)) (pd_var 3 (pv 3)) fun _ _ => rfl) b_ix) (pd_var 2 (pv 2))))))))))) (pds_cons (pss_cons pst_no0 (pds_nil pss_nil))) (pds_nil pss_nil))) (pds_nil pss_nil))))) (pds_nil pss_nil)))
end
theorem sc_is_source : FnScope ["lane"] ["lane"] (defScope (top 89)) := ⟨rfl, rfl, rfl, by decide +kernel, rfl, by decide +kernel, by decide +kernel⟩
section
variable {w : World} {K : PySem.W.Frag} {h : Heap} {mg : Str → Option Value} {base : Heap}
theorem ok_is_source (T : Fx K h mg) : FnI Pg w K mg base 3 (He.ga K "is_source") ["lane"] (spF K (cfg K) 1 F_is_source) := by
  obtain ⟨fd, F⟩ := T.c.funD 48 (d := d_is_source) rfl
  obtain ⟨fd0, G0, B0, K0⟩ := (ok_Foot_foot (w := w) (base := base) T).ex
  obtain ⟨fd1, G1, B1, K1⟩ := (ok_Road_foot (w := w) (base := base) T).ex
  have Sc := sc_is_source
  refine ⟨fd, fn_ok0 F Sc rfl rfl (by decide) fun cdv A outer s H E hr => ?_, F.bindsN fun _ _ _ _ _ _ us hl => match us, hl with | [_], _ => rfl, F.kp⟩
  exact (pds_cons (pss_cons (pst_ret (ps_ret (pd_or (pe_or (pd_alt (pd_prop (c := 2) (pe_prop (pd_var 0 (pv 0)) (T.cls 21) (T.prop_Foot_foot) (G0.mono (by omega)) hr B0 .nil passA rfl)) (pd_prop (c := 3) (pe_prop (pd_var 0 (pv 0)) (T.cls 22) (T.prop_Road_foot) (G1.mono (by omega)) hr B1 .nil passA rfl))) (pe_one (pe_cmp (pcd op_notN b_isn (pd_fld (fl := 11) (pe_fld (pd_var 0 (pv 0)) rfl)) (pd_c pe_non fun _ _ _ => rfl)))))))) (pds_nil pss_nil)))
end
theorem sc_check_sources : FnScope ["sites", "sources", "site", "lane"] ["sites"] (defScope (top 90)) := ⟨rfl, rfl, rfl, by decide +kernel, rfl, by decide +kernel, by decide +kernel⟩
section
variable {w : World} {K : PySem.W.Frag} {h : Heap} {mg : Str → Option Value} {base : Heap}
theorem ok_check_sources (T : Fx K h mg) : FnI Pg w K mg base 4 (He.ga K "check_sources") ["sites"] (spF K (cfg K) 1 F_check_sources) := by
  obtain ⟨fd, F⟩ := T.c.funD 49 (d := d_check_sources) rfl
  obtain ⟨fd0, G0, B0, K0⟩ := (ok_is_source (w := w) (base := base) T).ex
  have Sc := sc_check_sources
  refine ⟨fd, fn_ok0 F Sc rfl rfl (by decide) fun cdv A outer s H E hr => ?_, F.bindsN fun _ _ _ _ _ _ us hl => match us, hl with | [_], _ => rfl, F.kp⟩
  exact (pds_cons (pss_cons (pst_set (g_name 1) (ps_set (i := 1) Sc.nd rfl (Or.inl rfl) (pd_c pe_int fun _ _ _ => rfl))) (pds_cons (pss_cons (pst_for i_lst (g_name 2) (ps_for PassesOwn.never rfl (PI.or (pi_list (pd_var 0 (pv 0))) (pi_tup (pd_var 0 (pv 0)))) (pg_name (i := 2) Sc.nd rfl (Or.inl rfl)) (pds_cons (pss_cons (pst_for i_lst (g_name 3) (ps_for PassesOwn.never rfl (PI.or (pi_list (pd_fld (fl := 24) (pe_fld (pd_var 2 (pv 2)) rfl))) (pi_tup (pd_fld (fl := 24) (pe_fld (pd_var 2 (pv 2)) rfl)))) (pg_name (i := 3) Sc.nd rfl (Or.inl rfl)) (pds_cons (pss_cons (pst_if (ps_if (pb_truth (pd_call (pe_call (G0.mono (by omega)) hr rfl (T.glo 98) K0 B0 .nil passA (pda_cons (pa_cons (pd_var 3 (pv 3)) (pda_nil pa_nil)))) runB_len)) (pds_cons (pss_cons (pst_set (g_name 1) (ps_set (i := 1) Sc.nd rfl (Or.inl rfl) (pd_bin (pe_op op_addA (pd_var 1 (pv 1)) (pd_c pe_int fun _ _ _ => rfl)) b_add))) (pds_nil pss_nil))) (pds_nil pss_nil))) (pds_nil pss_nil))))) (pds_nil pss_nil))))) (pds_cons (pss_cons (pst_if (ps_if (pb_val (pt_cmp (pcd op_gt b_gt (pd_var 1 (pv 1)) (pd_gint rfl (T.gint 99))))) (pds_cons (pss_cons pst_no0 (pds_nil pss_nil))) (pds_nil pss_nil))) (pds_nil pss_nil)))))))
end
theorem sc_road_at : FnScope ["sites", "pair", "lanes", "site", "stream"] ["sites", "pair"] (defScope (top 91)) := ⟨rfl, rfl, rfl, by decide +kernel, rfl, by decide +kernel, by decide +kernel⟩
section
variable {w : World} {K : PySem.W.Frag} {h : Heap} {mg : Str → Option Value} {base : Heap}
theorem ok_road_at (T : Fx K h mg) : FnI Pg w K mg base 3 (He.ga K "road_at") ["sites", "pair"] (spF K (cfg K) 2 F_road_at) := by
  obtain ⟨fd, F⟩ := T.c.funD 50 (d := d_road_at) rfl
  obtain ⟨fd0, G0, B0, K0⟩ := (ok_Foot_foot (w := w) (base := base) T).ex
  obtain ⟨fd1, G1, B1, K1⟩ := (ok_Road_foot (w := w) (base := base) T).ex
  have Sc := sc_road_at
  refine ⟨fd, fn_ok0 F Sc rfl rfl (by decide) fun cdv A outer s H E hr => ?_, F.bindsN fun _ _ _ _ _ _ us hl => match us, hl with | [_, _], _ => rfl, F.kp⟩
  exact (pds_cons (pss_cons (pst_set (g_tup [3, 4] rfl) (ps_asg (pd_var 1 (pv 1)) (pg_tup rfl (pgs_cons (pg_name (i := 3) Sc.nd rfl (Or.inl rfl)) (pgs_cons (pg_name (i := 4) Sc.nd rfl (Or.inl rfl)) pgs_nil))))) (pds_cons (pss_cons (pst_if (ps_if (pb_not (pt_not (pb_chain op_le op_lt b_le b_lt (pd_c pe_int fun _ _ _ => rfl) (pd_var 3 (pv 3)) (pd_b1 call_len u_len rfl (T.free 3) bb_len (pd_var 0 (pv 0)))))) (pds_cons (pss_cons (pst_ret (ps_ret (pd_c pe_non fun _ _ _ => rfl))) (pds_nil pss_nil))) (pds_nil pss_nil))) (pds_cons (pss_cons (pst_set (g_name 2) (ps_set (i := 2) Sc.nd rfl (Or.inl rfl) (pd_fld (fl := 24) (pe_fld (pd_bin (pe_ix ix_any (pd_var 0 (pv 0)) (pd_var 3 (pv 3)) fun _ _ => rfl) b_ix) rfl)))) (pds_cons (pss_cons (pst_if (ps_if (PW.pt (pb_or (pw_or (pb_not (pt_not (pb_chain op_le op_lt b_le b_lt (pd_c pe_int fun _ _ _ => rfl) (pd_var 4 (pv 4)) (pd_b1 call_len u_len rfl (T.free 3) bb_len (pd_var 2 (pv 2)))))) (pw_or1 (pb_truth (pd_alt (pd_prop (c := 2) (pe_prop (pd_bin (pe_ix ix_any (pd_var 2 (pv 2)) (pd_var 4 (pv 4)) fun _ _ => rfl) b_ix) (T.cls 21) (T.prop_Foot_foot) (G0.mono (by omega)) hr B0 .nil passA rfl)) (pd_prop (c := 3) (pe_prop (pd_bin (pe_ix ix_any (pd_var 2 (pv 2)) (pd_var 4 (pv 4)) fun _ _ => rfl) b_ix) (T.cls 22) (T.prop_Road_foot) (G1.mono (by omega)) hr B1 .nil passA rfl)))))))) (pds_cons (pss_cons (pst_ret (ps_ret (pd_c pe_non fun _ _ _ => rfl))) (pds_nil pss_nil))) (pds_nil pss_nil))) (pds_cons (pss_cons (pst_ret (ps_ret (pd_bin (pe_ix ix_any (pd_var 2 (pv 2)) (pd_var 4 (pv 4)) fun _ _ => rfl) b_ix))) (pds_nil pss_nil)))))))))))
end
theorem sc_fits : FnScope ["sites", "street", "earlier", "end", "other"] ["sites", "street", "earlier"] (defScope (top 92)) := ⟨rfl, rfl, rfl, by decide +kernel, rfl, by decide +kernel, by decide +kernel⟩
section
variable {w : World} {K : PySem.W.Frag} {h : Heap} {mg : Str → Option Value} {base : Heap}
theorem ok_fits (T : Fx K h mg) : FnI Pg w K mg base 4 (He.ga K "fits") ["sites", "street", "earlier"] (spF K (cfg K) 3 F_fits) := by
  obtain ⟨fd, F⟩ := T.c.funD 51 (d := d_fits) rfl
  obtain ⟨fd0, G0, B0, K0⟩ := (ok_road_at (w := w) (base := base) T).ex
  have Sc := sc_fits
  refine ⟨fd, fn_ok0 F Sc rfl rfl (by decide) fun cdv A outer s H E hr => ?_, F.bindsN fun _ _ _ _ _ _ us hl => match us, hl with | [_, _, _], _ => rfl, F.kp⟩
  exact (pds_cons (pss_cons (pst_set (g_name 3) (ps_set (i := 3) Sc.nd rfl (Or.inl rfl) (pd_call (pe_call (G0.mono (by omega)) hr rfl (T.glo 100) K0 B0 .nil passA (pda_cons (pa_cons (pd_var 0 (pv 0)) (pda_cons (pa_cons (pd_fld (fl := 26) (pe_fld (pd_var 1 (pv 1)) rfl)) (pda_nil pa_nil)))))) runB_len))) (pds_cons (pss_cons (pst_if (ps_if (PW.pt (pb_or (pw_or (pb_val (pt_cmp (pcd op_isN b_is (pd_call (pe_call (G0.mono (by omega)) hr rfl (T.glo 100) K0 B0 .nil passA (pda_cons (pa_cons (pd_var 0 (pv 0)) (pda_cons (pa_cons (pd_fld (fl := 25) (pe_fld (pd_var 1 (pv 1)) rfl)) (pda_nil pa_nil)))))) runB_len) (pd_c pe_non fun _ _ _ => rfl)))) (pb_or (pw_or (pb_val (pt_cmp (pcd op_isN b_is (pd_var 3 (pv 3)) (pd_c pe_non fun _ _ _ => rfl)))) (pw_or1 (pb_val (pt_cmp (pcd op_notN b_isn (pd_fld (fl := 11) (pe_fld (pd_var 3 (pv 3)) rfl)) (pd_c pe_non fun _ _ _ => rfl)))))))))) (pds_cons (pss_cons (pst_ret (ps_ret (pd_c pe_bl fun _ _ _ => rfl))) (pds_nil pss_nil))) (pds_nil pss_nil))) (pds_cons (pss_cons (pst_for i_lst (g_name 4) (ps_for PassesOwn.never rfl (PI.or (pi_list (pd_var 2 (pv 2))) (pi_tup (pd_var 2 (pv 2)))) (pg_name (i := 4) Sc.nd rfl (Or.inl rfl)) (pds_cons (pss_cons (pst_if (ps_if (PW.pt (pb_or (pw_or (pb_val (pt_cmp (pcd (op_eqA hr.units) b_eq (pd_fld (fl := 25) (pe_fld (pd_var 4 (pv 4)) rfl)) (pd_fld (fl := 25) (pe_fld (pd_var 1 (pv 1)) rfl))))) (pw_or1 (pb_val (pt_cmp (pcd (op_eqA hr.units) b_eq (pd_fld (fl := 26) (pe_fld (pd_var 4 (pv 4)) rfl)) (pd_fld (fl := 26) (pe_fld (pd_var 1 (pv 1)) rfl))))))))) (pds_cons (pss_cons (pst_ret (ps_ret (pd_c pe_bl fun _ _ _ => rfl))) (pds_nil pss_nil))) (pds_nil pss_nil))) (pds_nil pss_nil))))) (pds_cons (pss_cons (pst_ret (ps_ret (pd_c pe_bl fun _ _ _ => rfl))) (pds_nil pss_nil)))))))))
end
theorem sc_check_streets : FnScope ["sites", "streets", "number", "street"] ["sites", "streets"] (defScope (top 93)) := ⟨rfl, rfl, rfl, by decide +kernel, rfl, by decide +kernel, by decide +kernel⟩
section
variable {w : World} {K : PySem.W.Frag} {h : Heap} {mg : Str → Option Value} {base : Heap}
theorem ok_check_streets (T : Fx K h mg) : FnI Pg w K mg base 5 (He.ga K "check_streets") ["sites", "streets"] (spF K (cfg K) 2 F_check_streets) := by
  obtain ⟨fd, F⟩ := T.c.funD 52 (d := d_check_streets) rfl
  obtain ⟨fd0, G0, B0, K0⟩ := (ok_fits (w := w) (base := base) T).ex
  have Sc := sc_check_streets
  refine ⟨fd, fn_ok0 F Sc rfl rfl (by decide) fun cdv A outer s H E hr => ?_, F.bindsN fun _ _ _ _ _ _ us hl => match us, hl with | [_, _], _ => rfl, F.kp⟩
  exact (pds_cons (pss_cons (pst_if (ps_if (pb_val (pt_cmp (pcd op_gt b_gt (pd_b1 call_len u_len rfl (T.free 3) bb_len (pd_var 1 (pv 1))) (pd_gint rfl (T.gint 101))))) (pds_cons (pss_cons pst_no0 (pds_nil pss_nil))) (pds_nil pss_nil))) (pds_cons (pss_cons (pst_for i_enum (g_tup [2, 3] rfl) (ps_for PassesOwn.never rfl (pi_enumA rfl (T.free 36) (pda_cons (pa_cons (pd_var 1 (pv 1)) (pda_nil pa_nil)))) (pg_tup rfl (pgs_cons (pg_name (i := 2) Sc.nd rfl (Or.inl rfl)) (pgs_cons (pg_name (i := 3) Sc.nd rfl (Or.inl rfl)) pgs_nil))) (pds_cons (pss_cons (pst_if (ps_if (pb_not (pt_not (pb_truth (pd_call (pe_call (G0.mono (by omega)) hr rfl (T.glo 102) K0 B0 .nil passA (pda_cons (pa_cons (pd_var 0 (pv 0)) (pda_cons (pa_cons (pd_var 3 (pv 3)) (pda_cons (pa_cons (pd_sl (pe_slice sl_any (pd_var 1 (pv 1)) po_no (po_at (pd_var 2 (pv 2))))) (pda_nil pa_nil)))))))) runB_len)))) (pds_cons (pss_cons pst_no0 (pds_nil pss_nil))) (pds_nil pss_nil))) (pds_nil pss_nil))))) (pds_nil pss_nil)))))
end
theorem sc_check_town : FnScope ["sites", "offsets", "streets"] ["sites", "offsets", "streets"] (defScope (top 94)) := ⟨rfl, rfl, rfl, by decide +kernel, rfl, by decide +kernel, by decide +kernel⟩
section
variable {w : World} {K : PySem.W.Frag} {h : Heap} {mg : Str → Option Value} {base : Heap}
theorem ok_check_town (T : Fx K h mg) : FnI Pg w K mg base 6 (He.ga K "check_town") ["sites", "offsets", "streets"] (spF K (cfg K) 3 F_check_town) := by
  obtain ⟨fd, F⟩ := T.c.funD 53 (d := d_check_town) rfl
  obtain ⟨fd0, G0, B0, K0⟩ := (ok_check_sites (w := w) (base := base) T).ex
  obtain ⟨fd1, G1, B1, K1⟩ := (ok_check_offsets (w := w) (base := base) T).ex
  obtain ⟨fd2, G2, B2, K2⟩ := (ok_check_sources (w := w) (base := base) T).ex
  obtain ⟨fd3, G3, B3, K3⟩ := (ok_check_streets (w := w) (base := base) T).ex
  have Sc := sc_check_town
  refine ⟨fd, fn_ok0 F Sc rfl rfl (by decide) fun cdv A outer s H E hr => ?_, F.bindsN fun _ _ _ _ _ _ us hl => match us, hl with | [_, _, _], _ => rfl, F.kp⟩
  exact (pds_cons (pss_cons (pst_expr (ps_expr (pd_call (pe_call (G0.mono (by omega)) hr rfl (T.glo 103) K0 B0 .nil passA (pda_cons (pa_cons (pd_var 0 (pv 0)) (pda_nil pa_nil)))) runB_len))) (pds_cons (pss_cons (pst_expr (ps_expr (pd_call (pe_call (G1.mono (by omega)) hr rfl (T.glo 104) K1 B1 .nil passA (pda_cons (pa_cons (pd_var 1 (pv 1)) (pda_cons (pa_cons (pd_b1 call_len u_len rfl (T.free 3) bb_len (pd_var 0 (pv 0))) (pda_cons (pa_cons (pd_fld (fl := 1) (pe_fld (pd_fld (fl := 23) (pe_fld (pd_bin (pe_ix ix_any (pd_var 0 (pv 0)) (pd_c pe_int fun _ _ _ => rfl) fun _ _ => rfl) b_ix) rfl)) rfl)) (pda_nil pa_nil)))))))) runB_len))) (pds_cons (pss_cons (pst_expr (ps_expr (pd_call (pe_call (G2.mono (by omega)) hr rfl (T.glo 105) K2 B2 .nil passA (pda_cons (pa_cons (pd_var 0 (pv 0)) (pda_nil pa_nil)))) runB_len))) (pds_cons (pss_cons (pst_expr (ps_expr (pd_call (pe_call (G3.mono (by omega)) hr rfl (T.glo 106) K3 B3 .nil passA (pda_cons (pa_cons (pd_var 0 (pv 0)) (pda_cons (pa_cons (pd_var 2 (pv 2)) (pda_nil pa_nil)))))) runB_len))) (pds_nil pss_nil)))))))))
end
theorem sc_first_numbers : FnScope ["sites", "found", "number", "site"] ["sites"] (defScope (top 96)) := ⟨rfl, rfl, rfl, by decide +kernel, rfl, by decide +kernel, by decide +kernel⟩
section
variable {w : World} {K : PySem.W.Frag} {h : Heap} {mg : Str → Option Value} {base : Heap}
theorem ok_first_numbers (T : Fx K h mg) : FnI Pg w K mg base 1 (He.ga K "first_numbers") ["sites"] (spF K (cfg K) 1 F_first_numbers) := by
  obtain ⟨fd, F⟩ := T.c.funD 54 (d := d_first_numbers) rfl
  have Sc := sc_first_numbers
  refine ⟨fd, fn_ok0 F Sc rfl rfl (by decide) fun cdv A outer s H E hr => ?_, F.bindsN fun _ _ _ _ _ _ us hl => match us, hl with | [_], _ => rfl, F.kp⟩
  exact (pds_cons (pss_cons (pst_set (g_name 1) (ps_set (i := 1) Sc.nd rfl (Or.inl rfl) (pd_lstC (pe_lst (pda_nil pa_nil))))) (pds_cons (pss_cons (pst_set (g_name 2) (ps_set (i := 2) Sc.nd rfl (Or.inl rfl) (pd_c pe_int fun _ _ _ => rfl))) (pds_cons (pss_cons (pst_for i_lst (g_name 3) (ps_for PassesOwn.never rfl (PI.or (pi_list (pd_var 0 (pv 0))) (pi_tup (pd_var 0 (pv 0)))) (pg_name (i := 3) Sc.nd rfl (Or.inl rfl)) (pds_cons (pss_cons (pst_app (ps_expr (pe_bm PySem.F.plainAttrs_list PySem.F.slot_list_append PySem.F.type_list_append mt_append (pd_var 1 (pv 1)) (pa_cons (pd_var 2 (pv 2)) pa_nil)))) (pds_cons (pss_cons (pst_set (g_name 2) (ps_set (i := 2) Sc.nd rfl (Or.inl rfl) (pd_bin (pe_op op_addA (pd_var 2 (pv 2)) (pd_b1 call_len u_len rfl (T.free 3) bb_len (pd_fld (fl := 24) (pe_fld (pd_var 3 (pv 3)) rfl)))) b_add))) (pds_nil pss_nil))))))) (pds_ghost (pds_cons (pss_cons (pst_ret (ps_ret (pd_var 1 (pv 1)))) (pds_nil pss_nil))))))))))
end
theorem sc_pairs_of : FnScope ["sites", "stream", "number", "site"] ["sites"] (defScope (top 97)) := ⟨rfl, rfl, rfl, by decide +kernel, rfl, by decide +kernel, by decide +kernel⟩
section
variable {w : World} {K : PySem.W.Frag} {h : Heap} {mg : Str → Option Value} {base : Heap}
theorem ok_pairs_of (T : Fx K h mg) : FnI Pg w K mg base 1 (He.ga K "pairs_of") ["sites"] (spF K (cfg K) 1 F_pairs_of) := by
  obtain ⟨fd, F⟩ := T.c.funD 55 (d := d_pairs_of) rfl
  have Sc := sc_pairs_of
  have BK : ∀ (scope : Scope) (own : List (Str × Nat)), blkC ["sites", "stream", "number", "site"] (defScope (top 97)) scope own = true → BlkOk ["sites", "stream", "number", "site"] (defScope (top 97)) scope own := fun _ _ h => blkOk_by h
  refine ⟨fd, fn_ok0 F Sc rfl rfl (by decide) fun cdv A outer s H E hr => ?_, F.bindsN fun _ _ _ _ _ _ us hl => match us, hl with | [_], _ => rfl, F.kp⟩
  exact (pds_cons (pss_cons (pst_ret (ps_ret (pd_lc2 (own := [2, 3, 1]) (own1 := [1]) i_enum (g_tup [2, 3] rfl) (by decide) (fun _ _ _ h => h) i_rng (g_name 1) (by decide) (fun _ _ _ h => h) (pe_lc2 (own := [("number", 2), ("site", 3), ("stream", 1)]) (vs1 := [1]) rfl Sc.nd (pi_enumA rfl (T.free 36) (pda_cons (pa_cons (pd_var 0 (pv 0)) (pda_nil pa_nil)))) (BK _ _ (by decide +kernel)) (by decide) (fun _ _ _ _ _ => (pg_tup rfl (pgs_cons (pg_name (i := 2) Sc.nd rfl (Or.inl rfl)) (pgs_cons (pg_name (i := 3) Sc.nd rfl (Or.inl rfl)) pgs_nil)))) (fun _ _ _ _ _ => pts_nil) (fun _ _ _ _ _ => (pi_range1 rfl (T.free 9) (pda_cons (pa_cons (pd_b1 call_len u_len rfl (T.free 3) bb_len (pd_fld (fl := 24) (pe_fld (pd_var 3 (pv 3)) rfl))) (pda_nil pa_nil))))) (fun _ _ _ _ _ => (pg_name (i := 1) Sc.nd rfl (Or.inl rfl))) (fun _ _ _ _ _ => pts_nil) (fun _ _ _ _ _ => (pd_tup (pe_tup (pda_cons (pa_cons (pd_var 2 (pv 2)) (pda_cons (pa_cons (pd_var 1 (pv 1)) (pda_nil pa_nil)))))))))))) (pds_nil pss_nil)))
end
theorem sc_Town_init : FnScope ["self", "sites", "offsets", "streets", "site", "lane"] ["self", "sites", "offsets", "streets"] (defScope (inClass (top 98) 0)) := ⟨rfl, rfl, rfl, by decide +kernel, rfl, by decide +kernel, by decide +kernel⟩
section
variable {w : World} {K : PySem.W.Frag} {h : Heap} {mg : Str → Option Value} {base : Heap}
theorem ok_Town_init (T : Fx K h mg) : FnI Pg w K mg base 7 (He.ma K (He.ga K "Town") "__init__") ["self", "sites", "offsets", "streets"] (spF K (cfg K) 4 F_Town_init) := by
  obtain ⟨fd, F⟩ := T.c.funD 56 (d := d_Town_init) rfl
  obtain ⟨fd0, G0, B0, K0⟩ := (ok_check_town (w := w) (base := base) T).ex
  obtain ⟨fd1, G1, B1, K1⟩ := (ok_first_numbers (w := w) (base := base) T).ex
  obtain ⟨fd2, G2, B2, K2⟩ := (ok_pairs_of (w := w) (base := base) T).ex
  have Sc := sc_Town_init
  have BK : ∀ (scope : Scope) (own : List (Str × Nat)), blkC ["self", "sites", "offsets", "streets", "site", "lane"] (defScope (inClass (top 98) 0)) scope own = true → BlkOk ["self", "sites", "offsets", "streets", "site", "lane"] (defScope (inClass (top 98) 0)) scope own := fun _ _ h => blkOk_by h
  refine ⟨fd, fn_ok0 F Sc rfl rfl (by decide) fun cdv A outer s H E hr => ?_, F.bindsN fun _ _ _ _ _ _ us hl => match us, hl with | [_, _, _, _], _ => rfl, F.kp⟩
  exact (pds_cons (pss_cons (pst_expr (ps_expr (pd_call (pe_call (G0.mono (by omega)) hr rfl (T.glo 107) K0 B0 .nil passA (pda_cons (pa_cons (pd_var 1 (pv 1)) (pda_cons (pa_cons (pd_var 2 (pv 2)) (pda_cons (pa_cons (pd_var 3 (pv 3)) (pda_nil pa_nil)))))))) runB_len))) (pds_cons (pss_cons (pst_fld (c := 8) (fl := 1) (T.cls 28) (okF _ (by decide)) (T.noat 108) (ps_fld (pd_var 0 (pv 0)) (pd_fld (fl := 1) (pe_fld (pd_fld (fl := 23) (pe_fld (pd_bin (pe_ix ix_any (pd_var 1 (pv 1)) (pd_c pe_int fun _ _ _ => rfl) fun _ _ => rfl) b_ix) rfl)) rfl)) rfl)) (pds_cons (pss_cons (pst_fld (c := 8) (fl := 28) (T.cls 28) (okF _ (by decide)) (T.noat 109) (ps_fld (pd_var 0 (pv 0)) (pd_t1 call_tuple_of u_tuple rfl (T.free 31) bb_tuple (pd_var 1 (pv 1))) rfl)) (pds_cons (pss_cons (pst_fld (c := 8) (fl := 29) (T.cls 28) (okF _ (by decide)) (T.noat 110) (ps_fld (pd_var 0 (pv 0)) (pd_t1 call_tuple_of u_tuple rfl (T.free 31) bb_tuple (pd_var 2 (pv 2))) rfl)) (pds_cons (pss_cons (pst_fld (c := 8) (fl := 30) (T.cls 28) (okF _ (by decide)) (T.noat 111) (ps_fld (pd_var 0 (pv 0)) (pd_t1 call_tuple_of u_tuple rfl (T.free 31) bb_tuple (pd_var 3 (pv 3))) rfl)) (pds_cons (pss_cons (pst_fld (c := 8) (fl := 31) (T.cls 28) (okF _ (by decide)) (T.noat 113) (ps_fld (pd_var 0 (pv 0)) (pd_t1 call_tuple_of u_tuple rfl (T.free 31) bb_tuple (pd_call (pe_call (G1.mono (by omega)) hr rfl (T.glo 112) K1 B1 .nil passA (pda_cons (pa_cons (pd_var 1 (pv 1)) (pda_nil pa_nil)))) runB_len)) rfl)) (pds_cons (pss_cons (pst_fld (c := 8) (fl := 32) (T.cls 28) (okF _ (by decide)) (T.noat 115) (ps_fld (pd_var 0 (pv 0)) (pd_t1 call_tuple_of u_tuple rfl (T.free 31) bb_tuple (pd_call (pe_call (G2.mono (by omega)) hr rfl (T.glo 114) K2 B2 .nil passA (pda_cons (pa_cons (pd_var 1 (pv 1)) (pda_nil pa_nil)))) runB_len)) rfl)) (pds_cons (pss_cons (pst_fld (c := 8) (fl := 33) (T.cls 28) (okF _ (by decide)) (T.noat 116) (ps_fld (pd_var 0 (pv 0)) (pd_t1 call_tuple_of u_tuple rfl (T.free 31) bb_tuple (pd_lc2 (own := [4, 5]) (own1 := [5]) i_lst (g_name 4) (by decide) (fun _ _ _ h => h) i_lst (g_name 5) (by decide) (fun _ _ _ h => h) (pe_lc2 (own := [("site", 4), ("lane", 5)]) (vs1 := [5]) rfl Sc.nd (PI.or (pi_list (pd_var 1 (pv 1))) (pi_tup (pd_var 1 (pv 1)))) (BK _ _ (by decide +kernel)) (by decide) (fun _ _ _ _ _ => (pg_name (i := 4) Sc.nd rfl (Or.inl rfl))) (fun _ _ _ _ _ => pts_nil) (fun _ _ _ _ _ => (PI.or (pi_list (pd_fld (fl := 24) (pe_fld (pd_var 4 (pv 4)) rfl))) (pi_tup (pd_fld (fl := 24) (pe_fld (pd_var 4 (pv 4)) rfl))))) (fun _ _ _ _ _ => (pg_name (i := 5) Sc.nd rfl (Or.inl rfl))) (fun _ _ _ _ _ => pts_nil) (fun _ _ _ _ _ => (pd_var 5 (pv 5)))))) rfl)) (pds_nil pss_nil)))))))))))))))))
end
theorem sc_Town_at : FnScope ["self", "offsets"] ["self", "offsets"] (defScope (inClass (top 98) 6)) := ⟨rfl, rfl, rfl, by decide +kernel, rfl, by decide +kernel, by decide +kernel⟩
section
variable {w : World} {K : PySem.W.Frag} {h : Heap} {mg : Str → Option Value} {base : Heap}
theorem ok_Town_at (T : Fx K h mg) : FnI Pg w K mg base 9 (He.ma K (He.ga K "Town") "at") ["self", "offsets"] (spF K (cfg K) 2 F_Town_at) := by
  obtain ⟨fd, F⟩ := T.c.funD 57 (d := d_Town_at) rfl
  obtain ⟨fd0, G0, B0, K0⟩ := (ok_Town_init (w := w) (base := base) T).ex
  have Sc := sc_Town_at
  refine ⟨fd, fn_ok0 F Sc rfl rfl (by decide) fun cdv A outer s H E hr => ?_, F.bindsN fun _ _ _ _ _ _ us hl => match us, hl with | [_, _], _ => rfl, F.kp⟩
  exact (pds_cons (pss_cons (pst_ret (ps_ret (pd_make (c := 8) (T.cls 28) (pe_make (T.mkr 117) (G0.mono (by omega)) hr rfl (T.glo 118) B0 .nil passA (pda_cons (pa_cons (pd_fld (fl := 28) (pe_fld (pd_var 0 (pv 0)) rfl)) (pda_cons (pa_cons (pd_var 1 (pv 1)) (pda_cons (pa_cons (pd_fld (fl := 30) (pe_fld (pd_var 0 (pv 0)) rfl)) (pda_nil pa_nil)))))))) runB_len))) (pds_nil pss_nil)))
end
theorem sc_Town_turned : FnScope ["self", "beats", "offset"] ["self", "beats"] (defScope (inClass (top 98) 7)) := ⟨rfl, rfl, rfl, by decide +kernel, rfl, by decide +kernel, by decide +kernel⟩
section
variable {w : World} {K : PySem.W.Frag} {h : Heap} {mg : Str → Option Value} {base : Heap}
theorem ok_Town_turned (T : Fx K h mg) : FnI Pg w K mg base 10 (He.ma K (He.ga K "Town") "turned") ["self", "beats"] (spF K (cfg K) 2 F_Town_turned) := by
  obtain ⟨fd, F⟩ := T.c.funD 58 (d := d_Town_turned) rfl
  obtain ⟨fd0, G0, B0, K0⟩ := (ok_Town_at (w := w) (base := base) T).ex
  have Sc := sc_Town_turned
  have BK : ∀ (scope : Scope) (own : List (Str × Nat)), blkC ["self", "beats", "offset"] (defScope (inClass (top 98) 7)) scope own = true → BlkOk ["self", "beats", "offset"] (defScope (inClass (top 98) 7)) scope own := fun _ _ h => blkOk_by h
  refine ⟨fd, fn_ok0 F Sc rfl rfl (by decide) fun cdv A outer s H E hr => ?_, F.bindsN fun _ _ _ _ _ _ us hl => match us, hl with | [_, _], _ => rfl, F.kp⟩
  exact (pds_cons (pss_cons (pst_ret (ps_ret (pd_meth (c := 8) T.nofld_at (pe_meth (pd_var 0 (pv 0)) (T.cls 28) (T.meth 119) (G0.mono (by omega)) hr B0 .nil passA (pda_cons (pa_cons (pd_lc (own := [2]) i_lst (g_name 2) (by decide) ht_y (pe_lc (own := [("offset", 2)]) rfl Sc.nd (PI.or (pi_list (pd_fld (fl := 29) (pe_fld (pd_var 0 (pv 0)) rfl))) (pi_tup (pd_fld (fl := 29) (pe_fld (pd_var 0 (pv 0)) rfl)))) (BK _ _ (by decide +kernel)) (fun _ _ _ _ _ => (pg_name (i := 2) Sc.nd rfl (Or.inl rfl))) (fun _ _ _ _ _ => pts_nil) (fun _ _ _ _ _ => (pd_bin (pe_op op_mod (pd_bin (pe_op op_addA (pd_var 2 (pv 2)) (pd_var 1 (pv 1))) b_add) (pd_fld (fl := 1) (pe_fld (pd_var 0 (pv 0)) rfl))) b_mod)))) (pda_nil pa_nil)))) runB_len))) (pds_nil pss_nil)))
end
theorem sc_law_cell : FnScope ["script", "k"] ["script", "k"] (defScope (top 100)) := ⟨rfl, rfl, rfl, by decide +kernel, rfl, by decide +kernel, by decide +kernel⟩
section
variable {w : World} {K : PySem.W.Frag} {h : Heap} {mg : Str → Option Value} {base : Heap}
theorem ok_law_cell (T : Fx K h mg) : FnI Pg w K mg base 1 (He.ga K "_law_cell") ["script", "k"] (spF K (cfg K) 2 F_law_cell) := by
  obtain ⟨fd, F⟩ := T.c.funD 59 (d := d_law_cell) rfl
  have Sc := sc_law_cell
  refine ⟨fd, fn_ok0 F Sc rfl rfl (by decide) fun cdv A outer s H E hr => ?_, F.bindsN fun _ _ _ _ _ _ us hl => match us, hl with | [_, _], _ => rfl, F.kp⟩
  exact (pds_cons (pss_cons (pst_if (ps_if (pb_val (pt_cmp (pcd op_lt b_lt (pd_var 1 (pv 1)) (pd_b1 call_len u_len rfl (T.free 3) bb_len (pd_var 0 (pv 0)))))) (pds_cons (pss_cons (pst_ret (ps_ret (pd_b1 call_abs u_abs rfl (T.free 120) bb_abs (pd_bin (pe_ix ix_any (pd_var 0 (pv 0)) (pd_var 1 (pv 1)) fun _ _ => rfl) b_ix)))) (pds_nil pss_nil))) (pds_nil pss_nil))) (pds_cons (pss_cons (pst_ret (ps_ret (pd_c pe_int fun _ _ _ => rfl))) (pds_nil pss_nil)))))
end
theorem sc_law_hand : FnScope ["script", "k", "cell"] ["script", "k"] (defScope (top 101)) := ⟨rfl, rfl, rfl, by decide +kernel, rfl, by decide +kernel, by decide +kernel⟩
section
variable {w : World} {K : PySem.W.Frag} {h : Heap} {mg : Str → Option Value} {base : Heap}
theorem ok_law_hand (T : Fx K h mg) : FnI Pg w K mg base 2 (He.ga K "_law_hand") ["script", "k"] (spF K (cfg K) 2 F_law_hand) := by
  obtain ⟨fd, F⟩ := T.c.funD 60 (d := d_law_hand) rfl
  obtain ⟨fd0, G0, B0, K0⟩ := (ok_law_cell (w := w) (base := base) T).ex
  have Sc := sc_law_hand
  refine ⟨fd, fn_okC0 F Sc rfl rfl (by decide) fun cdv A outer s H E hr => ?_, F.bindsN fun _ _ _ _ _ _ us hl => match us, hl with | [_, _], _ => rfl, F.kp⟩
  exact (pds_cons (pss_cons (pst_set (g_name 2) (ps_set (i := 2) Sc.nd rfl (Or.inl rfl) (pd_call (pe_call (G0.mono (by omega)) hr rfl (T.glo 121) K0 B0 .nil passA (pda_cons (pa_cons (pd_var 0 (pv 0)) (pda_cons (pa_cons (pd_var 1 (pv 1)) (pda_nil pa_nil)))))) runB_len))) (pds_cons (pss_cons (pst_ret (ps_ret (pd_lstC (pe_lst (pda_cons (pa_cons (pd_var 2 (pv 2)) (pda_cons (pa_cons (pd_t1 call_int1 u_int1 rfl (T.free 122) bb_int (pe_cmp (pcd op_ge b_ge (pd_var 2 (pv 2)) (pd_bin (pe_op op_pow (pd_c pe_int fun _ _ _ => rfl) (pd_c pe_int fun _ _ _ => rfl)) b_pow)))) (pda_cons (pa_cons (pd_c pe_int fun _ _ _ => rfl) (pda_cons (pa_cons (pd_bin (pe_op op_addA (pd_bin (pe_op op_mod (pd_t1 call_int1 u_int1 rfl (T.free 122) bb_int (pd_var 2 (pv 2))) (pd_c pe_int fun _ _ _ => rfl)) b_mod) (pd_bin (pe_op op_mulA (pd_c pe_int fun _ _ _ => rfl) (pd_var 1 (pv 1))) b_mul)) b_add) (pda_nil pa_nil))))))))))))) (pds_nil pss_nil)))))
end
theorem sc_law_take : FnScope ["hand", "many", "mixed", "digit"] ["hand", "many"] (defScope (top 102)) := ⟨rfl, rfl, rfl, by decide +kernel, rfl, by decide +kernel, by decide +kernel⟩
section
variable {w : World} {K : PySem.W.Frag} {h : Heap} {mg : Str → Option Value} {base : Heap}
theorem ok_law_take (T : Fx K h mg) : FnI Pg w K mg base 1 (He.ga K "_law_take") ["hand", "many"] (spF K (cfg K) 2 F_law_take) := by
  obtain ⟨fd, F⟩ := T.c.funD 61 (d := d_law_take) rfl
  have Sc := sc_law_take
  refine ⟨fd, fn_ok0 F Sc rfl rfl (by decide) fun cdv A outer s H E hr => ?_, F.bindsN fun _ _ _ _ _ _ us hl => match us, hl with | [_, _], _ => rfl, F.kp⟩
  exact (pds_cons (pss_cons (pst_if (ps_if (PW.pt (pb_and (pw_and (pb_val (pt_cmp (pcd (op_eqA hr.units) b_eq (pd_bin (pe_ix ix_any (pd_var 0 (pv 0)) (pd_c pe_int fun _ _ _ => rfl) fun _ _ => rfl) b_ix) (pd_c pe_int fun _ _ _ => rfl)))) (pw_and1 (pb_val (pt_cmp (pcd op_gt b_gt (pd_bin (pe_ix ix_any (pd_var 0 (pv 0)) (pd_c pe_int fun _ _ _ => rfl) fun _ _ => rfl) b_ix) (pd_c pe_int fun _ _ _ => rfl)))))))) (pds_cons (pss_cons (pst_set (g_name 3) (ps_set (i := 3) Sc.nd rfl (Or.inl rfl) (pd_bin (pe_op op_mod (pd_t1 call_int1 u_int1 rfl (T.free 122) bb_int (pd_bin (pe_ix ix_any (pd_var 0 (pv 0)) (pd_c pe_int fun _ _ _ => rfl) fun _ _ => rfl) b_ix)) (pd_var 1 (pv 1))) b_mod))) (pds_cons (pss_cons (pst_subL (ps_asg (pd_bin (pe_op op_fdiv (pd_bin (pe_ix ix_any (pd_var 0 (pv 0)) (pd_c pe_int fun _ _ _ => rfl) fun _ _ => rfl) b_ix) (pd_var 1 (pv 1))) b_fdiv) (pg_sub (pd_var 0 (pv 0)) (pd_c pe_int fun _ _ _ => rfl) set_list))) (pds_cons (pss_cons (pst_ret (ps_ret (pd_var 3 (pv 3)))) (pds_nil pss_nil))))))) (pds_nil pss_nil))) (pds_cons (pss_cons (pst_subL (ps_asg (pd_bin (pe_op op_addA (pd_bin (pe_ix ix_any (pd_var 0 (pv 0)) (pd_c pe_int fun _ _ _ => rfl) fun _ _ => rfl) b_ix) (pd_c pe_int fun _ _ _ => rfl)) b_add) (pg_sub (pd_var 0 (pv 0)) (pd_c pe_int fun _ _ _ => rfl) set_list))) (pds_cons (pss_cons (pst_set (g_name 2) (ps_set (i := 2) Sc.nd rfl (Or.inl rfl) (pd_bin (pe_op op_mod (pd_t1 call_int1 u_int1 rfl (T.free 122) bb_int (pd_bin (pe_op op_addA (pd_bin (pe_op op_addA (pd_bin (pe_op op_mulA (pd_bin (pe_ix ix_any (pd_var 0 (pv 0)) (pd_c pe_int fun _ _ _ => rfl) fun _ _ => rfl) b_ix) (pd_c pe_int fun _ _ _ => rfl)) b_mul) (pd_bin (pe_op op_mulA (pd_bin (pe_ix ix_any (pd_var 0 (pv 0)) (pd_c pe_int fun _ _ _ => rfl) fun _ _ => rfl) b_ix) (pd_c pe_int fun _ _ _ => rfl)) b_mul)) b_add) (pd_c pe_int fun _ _ _ => rfl)) b_add)) (pd_c pe_int fun _ _ _ => rfl)) b_mod))) (pds_cons (pss_cons (pst_set (g_name 2) (ps_set (i := 2) Sc.nd rfl (Or.inl rfl) (pd_bin (pe_op op_mod (pd_t1 call_int1 u_int1 rfl (T.free 122) bb_int (pd_bin (pe_op op_addA (pd_bin (pe_op op_addA (pd_bin (pe_op op_mulA (pd_var 2 (pv 2)) (pd_var 2 (pv 2))) b_mul) (pd_bin (pe_op op_mulA (pd_bin (pe_ix ix_any (pd_var 0 (pv 0)) (pd_c pe_int fun _ _ _ => rfl) fun _ _ => rfl) b_ix) (pd_c pe_int fun _ _ _ => rfl)) b_mul)) b_add) (pd_c pe_int fun _ _ _ => rfl)) b_add)) (pd_c pe_int fun _ _ _ => rfl)) b_mod))) (pds_cons (pss_cons (pst_set (g_name 2) (ps_set (i := 2) Sc.nd rfl (Or.inl rfl) (pd_bin (pe_op op_mod (pd_t1 call_int1 u_int1 rfl (T.free 122) bb_int (pd_bin (pe_op op_addA (pd_bin (pe_op op_mulA (pd_var 2 (pv 2)) (pd_var 2 (pv 2))) b_mul) (pd_bin (pe_op op_fdiv (pd_var 2 (pv 2)) (pd_c pe_int fun _ _ _ => rfl)) b_fdiv)) b_add)) (pd_c pe_int fun _ _ _ => rfl)) b_mod))) (pds_cons (pss_cons (pst_ret (ps_ret (pd_bin (pe_op op_mod (pd_t1 call_int1 u_int1 rfl (T.free 122) bb_int (pd_bin (pe_op op_fdiv (pd_var 2 (pv 2)) (pd_c pe_int fun _ _ _ => rfl)) b_fdiv)) (pd_var 1 (pv 1))) b_mod))) (pds_nil pss_nil)))))))))))))
end
theorem sc_law_is_int : FnScope ["got"] ["got"] (defScope (top 103)) := ⟨rfl, rfl, rfl, by decide +kernel, rfl, by decide +kernel, by decide +kernel⟩
section
variable {w : World} {K : PySem.W.Frag} {h : Heap} {mg : Str → Option Value} {base : Heap}
theorem ok_law_is_int (T : Fx K h mg) : FnI Pg w K mg base 1 (He.ga K "_law_is_int") ["got"] (spF K (cfg K) 1 F_law_is_int) := by
  obtain ⟨fd, F⟩ := T.c.funD 62 (d := d_law_is_int) rfl
  have Sc := sc_law_is_int
  refine ⟨fd, fn_ok0 F Sc rfl rfl (by decide) fun cdv A outer s H E hr => ?_, F.bindsN fun _ _ _ _ _ _ us hl => match us, hl with | [_], _ => rfl, F.kp⟩
  exact (pds_cons (pss_cons (pst_ret (ps_ret (pd_and (pe_and (pd_isty (.inl rfl) (pe_callB call_isi rfl (T.free 123) bb_isinstance (pa_cons (pd_var 0 (pv 0)) (pa_cons (pe_ty rfl (T.free 122) bb_int) pa_nil)))) (pe_one (pd_notv (pd_isty (.inr (.inl rfl)) (pe_callB call_isi rfl (T.free 123) bb_isinstance (pa_cons (pd_var 0 (pv 0)) (pa_cons (pe_ty rfl (T.free 124) bb_bool) pa_nil)))))))))) (pds_nil pss_nil)))
end
theorem sc_law_same : FnScope ["got", "due", "k"] ["got", "due"] (defScope (top 104)) := ⟨rfl, rfl, rfl, by decide +kernel, rfl, by decide +kernel, by decide +kernel⟩
section
variable {w : World} {K : PySem.W.Frag} {h : Heap} {mg : Str → Option Value} {base : Heap}
theorem ok_law_same : ∀ (m : Nat) (T : Fx K h mg), FnI Pg w K mg base (m + 2) (He.ga K "_law_same") ["got", "due"] (spF K (cfg K) 2 (F_law_same m))
  | 0, T => by
    obtain ⟨fd, F⟩ := T.c.funD 63 (d := d_law_same) rfl
    exact ⟨fd, fn_ok_fail rfl, F.bindsN fun _ _ _ _ _ _ us hl => match us, hl with | [_, _], _ => rfl, F.kp⟩
  | m + 1, T => by
    obtain ⟨fd, FR⟩ := T.c.funD 63 (d := d_law_same) rfl
    obtain ⟨fdR, GR, BR, kR⟩ := (ok_law_same m T).ex
    obtain ⟨fd0, G0, B0, K0⟩ := (ok_law_is_int (w := w) (base := base) T).ex
    have hnR := runBR_len m
    have Sc := sc_law_same
    have F := FR
    refine ⟨fd, fn_ok0 (k := m + 2) FR Sc rfl rfl (by decide) fun cdv A outer s H E hr => ?_, F.bindsN fun _ _ _ _ _ _ us hl => match us, hl with | [_, _], _ => rfl, FR.kp⟩
    exact (pds_cons (pss_cons (pst_if (ps_if (pb_val (pt_cmp (pcd op_isN b_is (pd_var 1 (pv 1)) (pd_c pe_non fun _ _ _ => rfl)))) (pds_cons (pss_cons (pst_ret (ps_ret (pe_cmp (pcd op_isN b_is (pd_var 0 (pv 0)) (pd_c pe_non fun _ _ _ => rfl))))) (pds_nil pss_nil))) (pds_nil pss_nil))) (pds_cons (pss_cons (pst_if (ps_if (pb_truth (pd_isty (.inr (.inl rfl)) (pe_callB call_isi rfl (T.free 123) bb_isinstance (pa_cons (pd_var 1 (pv 1)) (pa_cons (pe_ty rfl (T.free 124) bb_bool) pa_nil))))) (pds_cons (pss_cons (pst_ret (ps_ret (pd_and (pe_and (pd_isty (.inr (.inl rfl)) (pe_callB call_isi rfl (T.free 123) bb_isinstance (pa_cons (pd_var 0 (pv 0)) (pa_cons (pe_ty rfl (T.free 124) bb_bool) pa_nil)))) (pe_one (pe_cmp (pcd (op_eqA hr.units) b_eq (pd_var 0 (pv 0)) (pd_var 1 (pv 1))))))))) (pds_nil pss_nil))) (pds_nil pss_nil))) (pds_cons (pss_cons (pst_if (ps_if (pb_truth (pd_isty (.inl rfl) (pe_callB call_isi rfl (T.free 123) bb_isinstance (pa_cons (pd_var 1 (pv 1)) (pa_cons (pe_ty rfl (T.free 122) bb_int) pa_nil))))) (pds_cons (pss_cons (pst_ret (ps_ret (pd_and (pe_and (pd_call (pe_call (G0.mono (by omega)) hr rfl (T.glo 125) K0 B0 .nil passA (pda_cons (pa_cons (pd_var 0 (pv 0)) (pda_nil pa_nil)))) runB_len) (pe_one (pe_cmp (pcd (op_eqA hr.units) b_eq (pd_var 0 (pv 0)) (pd_var 1 (pv 1))))))))) (pds_nil pss_nil))) (pds_nil pss_nil))) (pds_cons (pss_cons (pst_if (ps_if (pb_truth (pd_isty (.inr (.inr (.inl rfl))) (pe_callB call_isi rfl (T.free 123) bb_isinstance (pa_cons (pd_var 1 (pv 1)) (pa_cons (pe_ty rfl (T.free 126) bb_str) pa_nil))))) (pds_cons (pss_cons (pst_ret (ps_ret (pd_and (pe_and (pd_isty (.inr (.inr (.inl rfl))) (pe_callB call_isi rfl (T.free 123) bb_isinstance (pa_cons (pd_var 0 (pv 0)) (pa_cons (pe_ty rfl (T.free 126) bb_str) pa_nil)))) (pe_one (pe_cmp (pcd (op_eqA hr.units) b_eq (pd_var 0 (pv 0)) (pd_var 1 (pv 1))))))))) (pds_nil pss_nil))) (pds_nil pss_nil))) (pds_cons (pss_cons (pst_if (ps_if (PW.pt (pb_and (pw_and (pb_truth (pd_isty (.inr (.inr (.inr (.inl rfl)))) (pe_callB call_isi rfl (T.free 123) bb_isinstance (pa_cons (pd_var 1 (pv 1)) (pa_cons (pe_ty rfl (T.free 31) bb_tuple) pa_nil))))) (pw_and1 (pb_not (pt_not (pb_truth (pd_isty (.inr (.inr (.inr (.inl rfl)))) (pe_callB call_isi rfl (T.free 123) bb_isinstance (pa_cons (pd_var 0 (pv 0)) (pa_cons (pe_ty rfl (T.free 31) bb_tuple) pa_nil))))))))))) (pds_cons (pss_cons (pst_ret (ps_ret (pd_c pe_bl fun _ _ _ => rfl))) (pds_nil pss_nil))) (pds_nil pss_nil))) (pds_cons (pss_cons (pst_if (ps_if (PW.pt (pb_and (pw_and (pb_truth (pd_isty (.inr (.inr (.inr (.inr rfl)))) (pe_callB call_isi rfl (T.free 123) bb_isinstance (pa_cons (pd_var 1 (pv 1)) (pa_cons (pe_ty rfl (T.free 127) bb_list) pa_nil))))) (pw_and1 (pb_not (pt_not (pb_truth (pd_isty (.inr (.inr (.inr (.inr rfl)))) (pe_callB call_isi rfl (T.free 123) bb_isinstance (pa_cons (pd_var 0 (pv 0)) (pa_cons (pe_ty rfl (T.free 127) bb_list) pa_nil))))))))))) (pds_cons (pss_cons (pst_ret (ps_ret (pd_c pe_bl fun _ _ _ => rfl))) (pds_nil pss_nil))) (pds_nil pss_nil))) (pds_cons (pss_cons (pst_if (ps_if (pb_val (pt_cmp (pcd (op_neA hr.units) b_ne (pd_b1 call_len u_len rfl (T.free 3) bb_len (pd_var 0 (pv 0))) (pd_b1 call_len u_len rfl (T.free 3) bb_len (pd_var 1 (pv 1)))))) (pds_cons (pss_cons (pst_ret (ps_ret (pd_c pe_bl fun _ _ _ => rfl))) (pds_nil pss_nil))) (pds_nil pss_nil))) (pds_cons (pss_cons (pst_for i_rng (g_name 2) (ps_for PassesOwn.never rfl (pi_range1 rfl (T.free 9) (pda_cons (pa_cons (pd_b1 call_len u_len rfl (T.free 3) bb_len (pd_var 1 (pv 1))) (pda_nil pa_nil)))) (pg_name (i := 2) Sc.nd rfl (Or.inl rfl)) (pds_cons (pss_cons (pst_if (ps_if (pb_not (pt_not (pb_truth (pd_call (pe_call GR hr rfl (T.glo 128) FR.kp BR .nil passA (pda_cons (pa_cons (pd_bin (pe_ix ix_any (pd_var 0 (pv 0)) (pd_var 2 (pv 2)) fun _ _ => rfl) b_ix) (pda_cons (pa_cons (pd_bin (pe_ix ix_any (pd_var 1 (pv 1)) (pd_var 2 (pv 2)) fun _ _ => rfl) b_ix) (pda_nil pa_nil)))))) hnR)))) (pds_cons (pss_cons (pst_ret (ps_ret (pd_c pe_bl fun _ _ _ => rfl))) (pds_nil pss_nil))) (pds_nil pss_nil))) (pds_nil pss_nil))))) (pds_cons (pss_cons (pst_ret (ps_ret (pd_c pe_bl fun _ _ _ => rfl))) (pds_nil pss_nil)))))))))))))))))))
end
theorem sc_law_streams : FnScope ["hand", "count", "s"] ["hand", "count"] (defScope (top 105)) := ⟨rfl, rfl, rfl, by decide +kernel, rfl, by decide +kernel, by decide +kernel⟩
section
variable {w : World} {K : PySem.W.Frag} {h : Heap} {mg : Str → Option Value} {base : Heap}
theorem ok_law_streams (T : Fx K h mg) : FnI Pg w K mg base 2 (He.ga K "_law_streams") ["hand", "count"] (spF K (cfg K) 2 F_law_streams) := by
  obtain ⟨fd, F⟩ := T.c.funD 64 (d := d_law_streams) rfl
  obtain ⟨fd0, G0, B0, K0⟩ := (ok_law_take (w := w) (base := base) T).ex
  have Sc := sc_law_streams
  have BK : ∀ (scope : Scope) (own : List (Str × Nat)), blkC ["hand", "count", "s"] (defScope (top 105)) scope own = true → BlkOk ["hand", "count", "s"] (defScope (top 105)) scope own := fun _ _ h => blkOk_by h
  refine ⟨fd, fn_ok0 F Sc rfl rfl (by decide) fun cdv A outer s H E hr => ?_, F.bindsN fun _ _ _ _ _ _ us hl => match us, hl with | [_, _], _ => rfl, F.kp⟩
  exact (pds_cons (pss_cons (pst_ret (ps_ret (pd_lc (own := [2]) i_rng (g_name 2) (by decide) ht_t (pe_lc (own := [("s", 2)]) rfl Sc.nd (pi_range1 rfl (T.free 9) (pda_cons (pa_cons (pd_var 1 (pv 1)) (pda_nil pa_nil)))) (BK _ _ (by decide +kernel)) (fun _ _ _ _ _ => (pg_name (i := 2) Sc.nd rfl (Or.inl rfl))) (fun _ _ _ _ _ => (pts_one (pb_val (pt_cmp (pcd (op_eqA hr.units) b_eq (pd_call (pe_call (G0.mono (by omega)) hr rfl (T.glo 129) K0 B0 .nil passA (pda_cons (pa_cons (pd_var 0 (pv 0)) (pda_cons (pa_cons (pd_c pe_int fun _ _ _ => rfl) (pda_nil pa_nil)))))) runB_len) (pd_c pe_int fun _ _ _ => rfl)))))) (fun _ _ _ _ _ => (pd_var 2 (pv 2))))))) (pds_nil pss_nil)))
end
theorem sc_law_phase : FnScope ["hand", "count", "room", "side", "reach", "green", "lower", "upper", "grips", "pushes", "gives", "calm"] ["hand", "count", "room", "side"] (defScope (top 106)) := ⟨rfl, rfl, rfl, by decide +kernel, rfl, by decide +kernel, by decide +kernel⟩
section
variable {w : World} {K : PySem.W.Frag} {h : Heap} {mg : Str → Option Value} {base : Heap}
theorem ok_law_phase (T : Fx K h mg) : FnI Pg w K mg base 3 (He.ga K "_law_phase") ["hand", "count", "room", "side"] (spF K (cfg K) 4 F_law_phase) := by
  obtain ⟨fd, F⟩ := T.c.funD 65 (d := d_law_phase) rfl
  obtain ⟨fd0, G0, B0, K0⟩ := (ok_law_take (w := w) (base := base) T).ex
  obtain ⟨fd1, G1, B1, K1⟩ := (ok_law_streams (w := w) (base := base) T).ex
  have Sc := sc_law_phase
  refine ⟨fd, fn_ok0 F Sc rfl rfl (by decide) fun cdv A outer s H E hr => ?_, F.bindsN fun _ _ _ _ _ _ us hl => match us, hl with | [_, _, _, _], _ => rfl, F.kp⟩
  exact (pds_cons (pss_cons (pst_set (g_name 4) (ps_set (i := 4) Sc.nd rfl (Or.inl rfl) (pd_b2 (call_min2 rfl) b_min2 rfl (T.free 19) bb_min (pd_var 2 (pv 2)) (pd_c pe_int fun _ _ _ => rfl)))) (pds_cons (pss_cons (pst_if (ps_if (pb_val (pt_cmp (pcd (op_eqA hr.units) b_eq (pd_call (pe_call (G0.mono (by omega)) hr rfl (T.glo 129) K0 B0 .nil passA (pda_cons (pa_cons (pd_var 0 (pv 0)) (pda_cons (pa_cons (pd_c pe_int fun _ _ _ => rfl) (pda_nil pa_nil)))))) runB_len) (pd_c pe_int fun _ _ _ => rfl)))) (pds_cons (pss_cons (pst_set (g_name 4) (ps_set (i := 4) Sc.nd rfl (Or.inl rfl) (pd_var 2 (pv 2)))) (pds_nil pss_nil))) (pds_nil pss_nil))) (pds_cons (pss_cons (pst_set (g_name 5) (ps_set (i := 5) Sc.nd rfl (Or.inl rfl) (pd_call (pe_call (G1.mono (by omega)) hr rfl (T.glo 130) K1 B1 .nil passA (pda_cons (pa_cons (pd_var 0 (pv 0)) (pda_cons (pa_cons (pd_var 1 (pv 1)) (pda_nil pa_nil)))))) runB_len))) (pds_cons (pss_cons (pst_set (g_name 6) (ps_set (i := 6) Sc.nd rfl (Or.inl rfl) (pd_bin (pe_op op_addA (pd_c pe_int fun _ _ _ => rfl) (pd_call (pe_call (G0.mono (by omega)) hr rfl (T.glo 129) K0 B0 .nil passA (pda_cons (pa_cons (pd_var 0 (pv 0)) (pda_cons (pa_cons (pd_var 4 (pv 4)) (pda_nil pa_nil)))))) runB_len)) b_add))) (pds_cons (pss_cons (pst_set (g_name 7) (ps_set (i := 7) Sc.nd rfl (Or.inl rfl) (pd_var 6 (pv 6)))) (pds_cons (pss_cons (pst_set (g_name 8) (ps_set (i := 8) Sc.nd rfl (Or.inl rfl) (pd_lst (pe_lst (pda_nil pa_nil))))) (pds_cons (pss_cons (pst_set (g_name 9) (ps_set (i := 9) Sc.nd rfl (Or.inl rfl) (pd_lst (pe_lst (pda_nil pa_nil))))) (pds_cons (pss_cons (pst_set (g_name 10) (ps_set (i := 10) Sc.nd rfl (Or.inl rfl) (pd_c pe_bl fun _ _ _ => rfl))) (pds_cons (pss_cons (pst_if (ps_if (pb_truth (pd_var 3 (pv 3))) (pds_cons (pss_cons (pst_set (g_name 7) (ps_set (i := 7) Sc.nd rfl (Or.inl rfl) (pd_bin (pe_op op_addA (pd_var 6 (pv 6)) (pd_call (pe_call (G0.mono (by omega)) hr rfl (T.glo 129) K0 B0 .nil passA (pda_cons (pa_cons (pd_var 0 (pv 0)) (pda_cons (pa_cons (pd_bin (pe_op op_addA (pd_c pe_int fun _ _ _ => rfl) (pd_b2 (call_min2 rfl) b_min2 rfl (T.free 19) bb_min (pd_var 4 (pv 4)) (pd_bin (pe_op op_sub (pd_var 2 (pv 2)) (pd_var 6 (pv 6))) b_sub))) b_add) (pda_nil pa_nil)))))) runB_len)) b_add))) (pds_cons (pss_cons (pst_if (ps_if (pb_val (pt_cmp (pcd (op_eqA hr.units) b_eq (pd_call (pe_call (G0.mono (by omega)) hr rfl (T.glo 129) K0 B0 .nil passA (pda_cons (pa_cons (pd_var 0 (pv 0)) (pda_cons (pa_cons (pd_c pe_int fun _ _ _ => rfl) (pda_nil pa_nil)))))) runB_len) (pd_c pe_int fun _ _ _ => rfl)))) (pds_cons (pss_cons (pst_set (g_name 8) (ps_set (i := 8) Sc.nd rfl (Or.inl rfl) (pd_call (pe_call (G1.mono (by omega)) hr rfl (T.glo 130) K1 B1 .nil passA (pda_cons (pa_cons (pd_var 0 (pv 0)) (pda_cons (pa_cons (pd_var 1 (pv 1)) (pda_nil pa_nil)))))) runB_len))) (pds_nil pss_nil))) (pds_nil pss_nil))) (pds_cons (pss_cons (pst_if (ps_if (pb_val (pt_cmp (pcd (op_eqA hr.units) b_eq (pd_call (pe_call (G0.mono (by omega)) hr rfl (T.glo 129) K0 B0 .nil passA (pda_cons (pa_cons (pd_var 0 (pv 0)) (pda_cons (pa_cons (pd_c pe_int fun _ _ _ => rfl) (pda_nil pa_nil)))))) runB_len) (pd_c pe_int fun _ _ _ => rfl)))) (pds_cons (pss_cons (pst_set (g_name 9) (ps_set (i := 9) Sc.nd rfl (Or.inl rfl) (pd_call (pe_call (G1.mono (by omega)) hr rfl (T.glo 130) K1 B1 .nil passA (pda_cons (pa_cons (pd_var 0 (pv 0)) (pda_cons (pa_cons (pd_var 1 (pv 1)) (pda_nil pa_nil)))))) runB_len))) (pds_nil pss_nil))) (pds_nil pss_nil))) (pds_cons (pss_cons (pst_set (g_name 10) (ps_set (i := 10) Sc.nd rfl (Or.inl rfl) (pe_cmp (pcd (op_eqA hr.units) b_eq (pd_call (pe_call (G0.mono (by omega)) hr rfl (T.glo 129) K0 B0 .nil passA (pda_cons (pa_cons (pd_var 0 (pv 0)) (pda_cons (pa_cons (pd_c pe_int fun _ _ _ => rfl) (pda_nil pa_nil)))))) runB_len) (pd_c pe_int fun _ _ _ => rfl))))) (pds_nil pss_nil))))))))) (pds_nil pss_nil))) (pds_cons (pss_cons (pst_set (g_name 11) (ps_set (i := 11) Sc.nd rfl (Or.inl rfl) (pd_call (pe_call (G0.mono (by omega)) hr rfl (T.glo 129) K0 B0 .nil passA (pda_cons (pa_cons (pd_var 0 (pv 0)) (pda_cons (pa_cons (pd_bin (pe_op op_addA (pd_c pe_int fun _ _ _ => rfl) (pd_min3 (pe_callB (call_min3Nu rfl) rfl (T.free 19) bb_min (pa_cons (pd_c pe_int fun _ _ _ => rfl) (pa_cons (pd_var 4 (pv 4)) (pa_cons (pd_bin (pe_op op_sub (pd_var 2 (pv 2)) (pd_var 7 (pv 7))) b_sub) pa_nil)))))) b_add) (pda_nil pa_nil)))))) runB_len))) (pds_cons (pss_cons (pst_ret (ps_ret (pd_tup (pe_tup (pda_cons (pa_cons (pd_t1 call_tuple_of u_tuple rfl (T.free 31) bb_tuple (pd_var 5 (pv 5))) (pda_cons (pa_cons (pd_var 6 (pv 6)) (pda_cons (pa_cons (pd_var 7 (pv 7)) (pda_cons (pa_cons (pd_var 11 (pv 11)) (pda_cons (pa_cons (pd_t1 call_tuple_of u_tuple rfl (T.free 31) bb_tuple (pd_var 8 (pv 8))) (pda_cons (pa_cons (pd_t1 call_tuple_of u_tuple rfl (T.free 31) bb_tuple (pd_var 9 (pv 9))) (pda_cons (pa_cons (pd_var 10 (pv 10)) (pda_nil pa_nil))))))))))))))))))) (pds_nil pss_nil)))))))))))))))))))))))
end
theorem sc_law_phases : FnScope ["hand", "count", "length", "phases", "room", "k", "phase"] ["hand", "count", "length"] (defScope (top 107)) := ⟨rfl, rfl, rfl, by decide +kernel, rfl, by decide +kernel, by decide +kernel⟩
section
variable {w : World} {K : PySem.W.Frag} {h : Heap} {mg : Str → Option Value} {base : Heap}
theorem ok_law_phases (T : Fx K h mg) : FnI Pg w K mg base 4 (He.ga K "_law_phases") ["hand", "count", "length"] (spF K (cfg K) 3 F_law_phases) := by
  obtain ⟨fd, F⟩ := T.c.funD 66 (d := d_law_phases) rfl
  obtain ⟨fd0, G0, B0, K0⟩ := (ok_law_phase (w := w) (base := base) T).ex
  obtain ⟨fd1, G1, B1, K1⟩ := (ok_law_take (w := w) (base := base) T).ex
  have Sc := sc_law_phases
  refine ⟨fd, fn_ok0 F Sc rfl rfl (by decide) fun cdv A outer s H E hr => ?_, F.bindsN fun _ _ _ _ _ _ us hl => match us, hl with | [_, _, _], _ => rfl, F.kp⟩
  exact (pds_cons (pss_cons (pst_set (g_name 3) (ps_set (i := 3) Sc.nd rfl (Or.inl rfl) (pd_lstC (pe_lst (pda_cons (pa_cons (pd_call (pe_call (G0.mono (by omega)) hr rfl (T.glo 131) K0 B0 .nil passA (pda_cons (pa_cons (pd_var 0 (pv 0)) (pda_cons (pa_cons (pd_var 1 (pv 1)) (pda_cons (pa_cons (pd_var 2 (pv 2)) (pda_cons (pa_cons (pd_c pe_bl fun _ _ _ => rfl) (pda_nil pa_nil)))))))))) runB_len) (pda_nil pa_nil))))))) (pds_cons (pss_cons (pst_set (g_name 4) (ps_set (i := 4) Sc.nd rfl (Or.inl rfl) (pd_bin (pe_op op_sub (pd_bin (pe_op op_sub (pd_var 2 (pv 2)) (pd_bin (pe_ix ix_any (pd_bin (pe_ix ix_any (pd_var 3 (pv 3)) (pd_c pe_int fun _ _ _ => rfl) fun _ _ => rfl) b_ix) (pd_c pe_int fun _ _ _ => rfl) fun _ _ => rfl) b_ix)) b_sub) (pd_bin (pe_ix ix_any (pd_bin (pe_ix ix_any (pd_var 3 (pv 3)) (pd_c pe_int fun _ _ _ => rfl) fun _ _ => rfl) b_ix) (pd_c pe_int fun _ _ _ => rfl) fun _ _ => rfl) b_ix)) b_sub))) (pds_cons (pss_cons (pst_for i_rng (g_name 5) (ps_for PassesOwn.never rfl (pi_range1 rfl (T.free 9) (pda_cons (pa_cons (pd_c pe_int fun _ _ _ => rfl) (pda_nil pa_nil)))) (pg_name (i := 5) Sc.nd rfl (Or.inl rfl)) (pds_cons (pss_cons (pst_if (ps_if (PW.pt (pb_and (pw_and (pb_val (pt_cmp (pcd op_gt b_gt (pd_var 4 (pv 4)) (pd_c pe_int fun _ _ _ => rfl)))) (pw_and1 (pb_val (pt_cmp (pcd op_gt b_gt (pd_call (pe_call (G1.mono (by omega)) hr rfl (T.glo 129) K1 B1 .nil passA (pda_cons (pa_cons (pd_var 0 (pv 0)) (pda_cons (pa_cons (pd_c pe_int fun _ _ _ => rfl) (pda_nil pa_nil)))))) runB_len) (pd_c pe_int fun _ _ _ => rfl)))))))) (pds_cons (pss_cons (pst_set (g_name 6) (ps_set (i := 6) Sc.nd rfl (Or.inl rfl) (pd_call (pe_call (G0.mono (by omega)) hr rfl (T.glo 131) K0 B0 .nil passA (pda_cons (pa_cons (pd_var 0 (pv 0)) (pda_cons (pa_cons (pd_var 1 (pv 1)) (pda_cons (pa_cons (pd_var 4 (pv 4)) (pda_cons (pa_cons (pd_c pe_bl fun _ _ _ => rfl) (pda_nil pa_nil)))))))))) runB_len))) (pds_cons (pss_cons (pst_app (ps_expr (pe_bm PySem.F.plainAttrs_list PySem.F.slot_list_append PySem.F.type_list_append mt_append (pd_var 3 (pv 3)) (pa_cons (pd_var 6 (pv 6)) pa_nil)))) (pds_cons (pss_cons (pst_set (g_name 4) (ps_set (i := 4) Sc.nd rfl (Or.inl rfl) (pd_bin (pe_op op_sub (pd_bin (pe_op op_sub (pd_var 4 (pv 4)) (pd_bin (pe_ix ix_any (pd_var 6 (pv 6)) (pd_c pe_int fun _ _ _ => rfl) fun _ _ => rfl) b_ix)) b_sub) (pd_bin (pe_ix ix_any (pd_var 6 (pv 6)) (pd_c pe_int fun _ _ _ => rfl) fun _ _ => rfl) b_ix)) b_sub))) (pds_nil pss_nil))))))) (pds_nil pss_nil))) (pds_nil pss_nil))))) (pds_ghost (pds_cons (pss_cons (pst_ret (ps_ret (pd_var 3 (pv 3)))) (pds_nil pss_nil))))))))))
end
theorem sc_law_rivals : FnScope ["hand", "count", "phases", "rows", "a", "b", "way", "apart", "spans", "pair", "phase"] ["hand", "count", "phases"] (defScope (top 108)) := ⟨rfl, rfl, rfl, by decide +kernel, rfl, by decide +kernel, by decide +kernel⟩
section
variable {w : World} {K : PySem.W.Frag} {h : Heap} {mg : Str → Option Value} {base : Heap}
theorem ok_law_rivals (T : Fx K h mg) : FnI Pg w K mg base 2 (He.ga K "_law_rivals") ["hand", "count", "phases"] (spF K (cfg K) 3 F_law_rivals) := by
  obtain ⟨fd, F⟩ := T.c.funD 67 (d := d_law_rivals) rfl
  obtain ⟨fd0, G0, B0, K0⟩ := (ok_law_take (w := w) (base := base) T).ex
  have Sc := sc_law_rivals
  have BK : ∀ (scope : Scope) (own : List (Str × Nat)), blkC ["hand", "count", "phases", "rows", "a", "b", "way", "apart", "spans", "pair", "phase"] (defScope (top 108)) scope own = true → BlkOk ["hand", "count", "phases", "rows", "a", "b", "way", "apart", "spans", "pair", "phase"] (defScope (top 108)) scope own := fun _ _ h => blkOk_by h
  refine ⟨fd, fn_ok0 F Sc rfl rfl (by decide) fun cdv A outer s H E hr => ?_, F.bindsN fun _ _ _ _ _ _ us hl => match us, hl with | [_, _, _], _ => rfl, F.kp⟩
  exact (pds_cons (pss_cons (pst_set (g_name 3) (ps_set (i := 3) Sc.nd rfl (Or.inl rfl) (pd_lstC (pe_lst (pda_nil pa_nil))))) (pds_cons (pss_cons (pst_for i_rng (g_name 4) (ps_for PassesOwn.never rfl (pi_range1 rfl (T.free 9) (pda_cons (pa_cons (pd_var 1 (pv 1)) (pda_nil pa_nil)))) (pg_name (i := 4) Sc.nd rfl (Or.inr rfl)) (pds_cons (pss_cons (pst_for i_rng2 (g_name 5) (ps_for PassesOwn.never rfl (pi_range2 rfl (T.free 9) (pda_cons (pa_cons (pd_bin (pe_op op_addA (pd_var 4 (pv 4)) (pd_c pe_int fun _ _ _ => rfl)) b_add) (pda_cons (pa_cons (pd_var 1 (pv 1)) (pda_nil pa_nil)))))) (pg_name (i := 5) Sc.nd rfl (Or.inr rfl)) (pds_cons (pss_cons (pst_set (g_name 6) (ps_set (i := 6) Sc.nd rfl (Or.inl rfl) (pd_call (pe_call (G0.mono (by omega)) hr rfl (T.glo 129) K0 B0 .nil passA (pda_cons (pa_cons (pd_var 0 (pv 0)) (pda_cons (pa_cons (pd_c pe_int fun _ _ _ => rfl) (pda_nil pa_nil)))))) runB_len))) (pds_cons (pss_cons (pst_set (g_name 7) (ps_set (i := 7) Sc.nd rfl (Or.inl rfl) (pe_cmp (pcd (op_eqA hr.units) b_eq (pd_b1 call_len u_len rfl (T.free 3) bb_len (pd_lc (own := [10]) i_lst (g_name 10) (by decide) ht_t (pe_lc (own := [("phase", 10)]) rfl Sc.nd (PI.or (pi_list (pd_var 2 (pv 2))) (pi_tup (pd_var 2 (pv 2)))) (BK _ _ (by decide +kernel)) (fun _ _ _ _ _ => (pg_name (i := 10) Sc.nd rfl (Or.inl rfl))) (fun _ _ _ _ _ => (pts_one (PW.pt (pb_and (pw_and (pb_val (pt_cmp (pcd op_inA b_in (pd_var 4 (pv 4)) (pd_bin (pe_ix ix_any (pd_var 10 (pv 10)) (pd_c pe_int fun _ _ _ => rfl) fun _ _ => rfl) b_ix)))) (pw_and1 (pb_val (pt_cmp (pcd op_inA b_in (pd_var 5 (pv 5)) (pd_bin (pe_ix ix_any (pd_var 10 (pv 10)) (pd_c pe_int fun _ _ _ => rfl) fun _ _ => rfl) b_ix)))))))))) (fun _ _ _ _ _ => (pd_var 10 (pv 10)))))) (pd_c pe_int fun _ _ _ => rfl))))) (pds_cons (pss_cons (pst_set (g_name 8) (ps_set (i := 8) Sc.nd rfl (Or.inl rfl) (pd_tup (pe_tup (pda_cons (pa_cons (pd_c pe_int fun _ _ _ => rfl) (pda_cons (pa_cons (pd_c pe_int fun _ _ _ => rfl) (pda_nil pa_nil))))))))) (pds_cons (pss_cons (pst_if (ps_if (pb_val (pt_cmp (pcd op_lt b_lt (pd_var 6 (pv 6)) (pd_c pe_int fun _ _ _ => rfl)))) (pds_cons (pss_cons (pst_set (g_name 8) (ps_set (i := 8) Sc.nd rfl (Or.inl rfl) (pd_tup (pe_tup (pda_cons (pa_cons (pd_call (pe_call (G0.mono (by omega)) hr rfl (T.glo 129) K0 B0 .nil passA (pda_cons (pa_cons (pd_var 0 (pv 0)) (pda_cons (pa_cons (pd_c pe_int fun _ _ _ => rfl) (pda_nil pa_nil)))))) runB_len) (pda_cons (pa_cons (pd_call (pe_call (G0.mono (by omega)) hr rfl (T.glo 129) K0 B0 .nil passA (pda_cons (pa_cons (pd_var 0 (pv 0)) (pda_cons (pa_cons (pd_c pe_int fun _ _ _ => rfl) (pda_nil pa_nil)))))) runB_len) (pda_nil pa_nil))))))))) (pds_nil pss_nil))) (pds_nil pss_nil))) (pds_cons (pss_cons (pst_if (ps_if (pb_val (pt_cmp (pcd (op_eqA hr.units) b_eq (pd_var 6 (pv 6)) (pd_c pe_int fun _ _ _ => rfl)))) (pds_cons (pss_cons (pst_set (g_name 8) (ps_set (i := 8) Sc.nd rfl (Or.inl rfl) (pd_tup (pe_tup (pda_cons (pa_cons (pd_call (pe_call (G0.mono (by omega)) hr rfl (T.glo 129) K0 B0 .nil passA (pda_cons (pa_cons (pd_var 0 (pv 0)) (pda_cons (pa_cons (pd_c pe_int fun _ _ _ => rfl) (pda_nil pa_nil)))))) runB_len) (pda_cons (pa_cons (pd_call (pe_call (G0.mono (by omega)) hr rfl (T.glo 129) K0 B0 .nil passA (pda_cons (pa_cons (pd_var 0 (pv 0)) (pda_cons (pa_cons (pd_c pe_int fun _ _ _ => rfl) (pda_nil pa_nil)))))) runB_len) (pda_nil pa_nil))))))))) (pds_nil pss_nil))) (pds_nil pss_nil))) (pds_cons (pss_cons (pst_if (ps_if (PW.pt (pb_or (pw_or (pb_val (pt_cmp (pcd op_lt b_lt (pd_var 6 (pv 6)) (pd_c pe_int fun _ _ _ => rfl)))) (pw_or1 (PW.pt (pb_and (pw_and (pb_val (pt_cmp (pcd op_lt b_lt (pd_var 6 (pv 6)) (pd_c pe_int fun _ _ _ => rfl)))) (pw_and1 (pb_truth (pd_var 7 (pv 7))))))))))) (pds_cons (pss_cons (pst_set (g_name 9) (ps_set (i := 9) Sc.nd rfl (Or.inl rfl) (pd_tup (pe_tup (pda_cons (pa_cons (pd_var 4 (pv 4)) (pda_cons (pa_cons (pd_var 5 (pv 5)) (pda_nil pa_nil))))))))) (pds_cons (pss_cons (pst_if (ps_if (pb_val (pt_cmp (pcd (op_eqA hr.units) b_eq (pd_call (pe_call (G0.mono (by omega)) hr rfl (T.glo 129) K0 B0 .nil passA (pda_cons (pa_cons (pd_var 0 (pv 0)) (pda_cons (pa_cons (pd_c pe_int fun _ _ _ => rfl) (pda_nil pa_nil)))))) runB_len) (pd_c pe_int fun _ _ _ => rfl)))) (pds_cons (pss_cons (pst_set (g_name 9) (ps_set (i := 9) Sc.nd rfl (Or.inl rfl) (pd_tup (pe_tup (pda_cons (pa_cons (pd_var 5 (pv 5)) (pda_cons (pa_cons (pd_var 4 (pv 4)) (pda_nil pa_nil))))))))) (pds_nil pss_nil))) (pds_nil pss_nil))) (pds_cons (pss_cons (pst_app (ps_expr (pe_bm PySem.F.plainAttrs_list PySem.F.slot_list_append PySem.F.type_list_append mt_append (pd_var 3 (pv 3)) (pa_cons (pd_bin (pe_op op_addA (pd_var 9 (pv 9)) (pd_var 8 (pv 8))) b_add) pa_nil)))) (pds_nil pss_nil))))))) (pds_nil pss_nil))) (pds_nil pss_nil))))))))))))))) (pds_nil pss_nil))))) (pds_ghost (pds_cons (pss_cons (pst_ret (ps_ret (pd_var 3 (pv 3)))) (pds_nil pss_nil))))))))
end
theorem sc_law_lane : FnScope ["hand", "springs", "first", "coach", "way", "room", "den", "pace"] ["hand", "springs", "first", "coach"] (defScope (top 109)) := ⟨rfl, rfl, rfl, by decide +kernel, rfl, by decide +kernel, by decide +kernel⟩
section
variable {w : World} {K : PySem.W.Frag} {h : Heap} {mg : Str → Option Value} {base : Heap}
theorem ok_law_lane (T : Fx K h mg) : FnI Pg w K mg base 2 (He.ga K "_law_lane") ["hand", "springs", "first", "coach"] (spF K (cfg K) 4 F_law_lane) := by
  obtain ⟨fd, F⟩ := T.c.funD 68 (d := d_law_lane) rfl
  obtain ⟨fd0, G0, B0, K0⟩ := (ok_law_take (w := w) (base := base) T).ex
  have Sc := sc_law_lane
  refine ⟨fd, fn_ok0 F Sc rfl rfl (by decide) fun cdv A outer s H E hr => ?_, F.bindsN fun _ _ _ _ _ _ us hl => match us, hl with | [_, _, _, _], _ => rfl, F.kp⟩
  exact (pds_cons (pss_cons (pst_set (g_name 4) (ps_set (i := 4) Sc.nd rfl (Or.inl rfl) (pd_call (pe_call (G0.mono (by omega)) hr rfl (T.glo 129) K0 B0 .nil passA (pda_cons (pa_cons (pd_var 0 (pv 0)) (pda_cons (pa_cons (pd_c pe_int fun _ _ _ => rfl) (pda_nil pa_nil)))))) runB_len))) (pds_cons (pss_cons (pst_if (ps_if (PW.pt (pb_and (pw_and (pb_truth (pd_var 2 (pv 2))) (pw_and1 (pb_val (pt_cmp (pcd op_gt b_gt (pd_call (pe_call (G0.mono (by omega)) hr rfl (T.glo 129) K0 B0 .nil passA (pda_cons (pa_cons (pd_var 0 (pv 0)) (pda_cons (pa_cons (pd_c pe_int fun _ _ _ => rfl) (pda_nil pa_nil)))))) runB_len) (pd_c pe_int fun _ _ _ => rfl)))))))) (pds_cons (pss_cons (pst_set (g_name 4) (ps_set (i := 4) Sc.nd rfl (Or.inl rfl) (pd_c pe_int fun _ _ _ => rfl))) (pds_nil pss_nil))) (pds_nil pss_nil))) (pds_cons (pss_cons (pst_if (ps_if (PW.pt (pb_and (pw_and (pb_val (pt_cmp (pcd op_lt b_lt (pd_var 4 (pv 4)) (pd_c pe_int fun _ _ _ => rfl)))) (pw_and1 (pb_val (pt_cmp (pcd op_gt b_gt (pd_var 1 (pv 1)) (pd_c pe_int fun _ _ _ => rfl)))))))) (pds_cons (pss_cons (pst_ret (ps_ret (pd_tup (pe_tup (pda_cons (pa_cons (pd_c pe_str fun _ _ _ => rfl) (pda_cons (pa_cons (pd_bin (pe_op op_addA (pd_c pe_int fun _ _ _ => rfl) (pd_call (pe_call (G0.mono (by omega)) hr rfl (T.glo 129) K0 B0 .nil passA (pda_cons (pa_cons (pd_var 0 (pv 0)) (pda_cons (pa_cons (pd_c pe_int fun _ _ _ => rfl) (pda_nil pa_nil)))))) runB_len)) b_add) (pda_nil pa_nil))))))))) (pds_nil pss_nil))) (pds_nil pss_nil))) (pds_cons (pss_cons (pst_set (g_name 5) (ps_set (i := 5) Sc.nd rfl (Or.inl rfl) (pd_call (pe_call (G0.mono (by omega)) hr rfl (T.glo 129) K0 B0 .nil passA (pda_cons (pa_cons (pd_var 0 (pv 0)) (pda_cons (pa_cons (pd_c pe_int fun _ _ _ => rfl) (pda_nil pa_nil)))))) runB_len))) (pds_cons (pss_cons (pst_if (ps_if (PW.pt (pb_or (pw_or (pb_val (pt_cmp (pcd op_gt b_gt (pd_var 4 (pv 4)) (pd_c pe_int fun _ _ _ => rfl)))) (pw_or1 (pb_val (pt_cmp (pcd (op_eqA hr.units) b_eq (pd_var 1 (pv 1)) (pd_c pe_int fun _ _ _ => rfl)))))))) (pds_cons (pss_cons (pst_ret (ps_ret (pd_tup (pe_tup (pda_cons (pa_cons (pd_c pe_str fun _ _ _ => rfl) (pda_cons (pa_cons (pd_var 5 (pv 5)) (pda_cons (pa_cons (pd_c pe_non fun _ _ _ => rfl) (pda_cons (pa_cons (pd_c pe_int fun _ _ _ => rfl) (pda_nil pa_nil))))))))))))) (pds_nil pss_nil))) (pds_nil pss_nil))) (pds_cons (pss_cons (pst_set (g_name 6) (ps_set (i := 6) Sc.nd rfl (Or.inl rfl) (pd_bin (pe_op op_addA (pd_c pe_int fun _ _ _ => rfl) (pd_call (pe_call (G0.mono (by omega)) hr rfl (T.glo 129) K0 B0 .nil passA (pda_cons (pa_cons (pd_var 0 (pv 0)) (pda_cons (pa_cons (pd_c pe_int fun _ _ _ => rfl) (pda_nil pa_nil)))))) runB_len)) b_add))) (pds_cons (pss_cons (pst_set (g_name 7) (ps_set (i := 7) Sc.nd rfl (Or.inl rfl) (pd_tup (pe_tup (pda_cons (pa_cons (pd_bin (pe_op op_addA (pd_c pe_int fun _ _ _ => rfl) (pd_call (pe_call (G0.mono (by omega)) hr rfl (T.glo 129) K0 B0 .nil passA (pda_cons (pa_cons (pd_var 0 (pv 0)) (pda_cons (pa_cons (pd_c pe_int fun _ _ _ => rfl) (pda_nil pa_nil)))))) runB_len)) b_add) (pda_cons (pa_cons (pd_bin (pe_op op_addA (pd_c pe_int fun _ _ _ => rfl) (pd_call (pe_call (G0.mono (by omega)) hr rfl (T.glo 129) K0 B0 .nil passA (pda_cons (pa_cons (pd_var 0 (pv 0)) (pda_cons (pa_cons (pd_var 6 (pv 6)) (pda_nil pa_nil)))))) runB_len)) b_add) (pda_cons (pa_cons (pd_var 6 (pv 6)) (pda_nil pa_nil))))))))))) (pds_cons (pss_cons (pst_if (ps_if (PW.pt (pb_and (pw_and (pb_truth (pd_var 3 (pv 3))) (pw_and1 (pb_val (pt_cmp (pcd (op_eqA hr.units) b_eq (pd_call (pe_call (G0.mono (by omega)) hr rfl (T.glo 129) K0 B0 .nil passA (pda_cons (pa_cons (pd_var 0 (pv 0)) (pda_cons (pa_cons (pd_c pe_int fun _ _ _ => rfl) (pda_nil pa_nil)))))) runB_len) (pd_c pe_int fun _ _ _ => rfl)))))))) (pds_cons (pss_cons (pst_ret (ps_ret (pd_tup (pe_tup (pda_cons (pa_cons (pd_c pe_str fun _ _ _ => rfl) (pda_cons (pa_cons (pd_var 5 (pv 5)) (pda_cons (pa_cons (pd_var 7 (pv 7)) (pda_cons (pa_cons (pd_bin (pe_op op_addA (pd_c pe_int fun _ _ _ => rfl) (pd_call (pe_call (G0.mono (by omega)) hr rfl (T.glo 129) K0 B0 .nil passA (pda_cons (pa_cons (pd_var 0 (pv 0)) (pda_cons (pa_cons (pd_c pe_int fun _ _ _ => rfl) (pda_nil pa_nil)))))) runB_len)) b_add) (pda_nil pa_nil))))))))))))) (pds_nil pss_nil))) (pds_nil pss_nil))) (pds_cons (pss_cons (pst_ret (ps_ret (pd_tup (pe_tup (pda_cons (pa_cons (pd_c pe_str fun _ _ _ => rfl) (pda_cons (pa_cons (pd_var 5 (pv 5)) (pda_cons (pa_cons (pd_var 7 (pv 7)) (pda_cons (pa_cons (pd_c pe_int fun _ _ _ => rfl) (pda_nil pa_nil))))))))))))) (pds_nil pss_nil)))))))))))))))))))
end
theorem sc_law_springs : FnScope ["lanes", "lane"] ["lanes"] (defScope (top 110)) := ⟨rfl, rfl, rfl, by decide +kernel, rfl, by decide +kernel, by decide +kernel⟩
section
variable {w : World} {K : PySem.W.Frag} {h : Heap} {mg : Str → Option Value} {base : Heap}
theorem ok_law_springs (T : Fx K h mg) : FnI Pg w K mg base 1 (He.ga K "_law_springs") ["lanes"] (spF K (cfg K) 1 F_law_springs) := by
  obtain ⟨fd, F⟩ := T.c.funD 69 (d := d_law_springs) rfl
  have Sc := sc_law_springs
  have BK : ∀ (scope : Scope) (own : List (Str × Nat)), blkC ["lanes", "lane"] (defScope (top 110)) scope own = true → BlkOk ["lanes", "lane"] (defScope (top 110)) scope own := fun _ _ h => blkOk_by h
  refine ⟨fd, fn_ok0 F Sc rfl rfl (by decide) fun cdv A outer s H E hr => ?_, F.bindsN fun _ _ _ _ _ _ us hl => match us, hl with | [_], _ => rfl, F.kp⟩
  exact (pds_cons (pss_cons (pst_ret (ps_ret (pd_b1 call_len u_len rfl (T.free 3) bb_len (pd_lc (own := [1]) i_lst (g_name 1) (by decide) ht_t (pe_lc (own := [("lane", 1)]) rfl Sc.nd (PI.or (pi_list (pd_var 0 (pv 0))) (pi_tup (pd_var 0 (pv 0)))) (BK _ _ (by decide +kernel)) (fun _ _ _ _ _ => (pg_name (i := 1) Sc.nd rfl (Or.inl rfl))) (fun _ _ _ _ _ => (pts_one (PW.pt (pb_or (pw_or (pb_val (pt_cmp (pcd (op_eqA hr.units) b_eq (pd_bin (pe_ix ix_any (pd_var 1 (pv 1)) (pd_c pe_int fun _ _ _ => rfl) fun _ _ => rfl) b_ix) (pd_c pe_str fun _ _ _ => rfl)))) (pw_or1 (pb_val (pt_cmp (pcd op_notN b_isn (pd_bin (pe_ix ix_any (pd_var 1 (pv 1)) (pd_c pe_int fun _ _ _ => rfl) fun _ _ => rfl) b_ix) (pd_c pe_non fun _ _ _ => rfl)))))))))) (fun _ _ _ _ _ => (pd_var 1 (pv 1)))))))) (pds_nil pss_nil)))
end
theorem sc_law_site : FnScope ["hand", "length", "number", "springs", "count", "phases", "rivals", "lanes", "coach", "s", "lane"] ["hand", "length", "number", "springs"] (defScope (top 111)) := ⟨rfl, rfl, rfl, by decide +kernel, rfl, by decide +kernel, by decide +kernel⟩
section
variable {w : World} {K : PySem.W.Frag} {h : Heap} {mg : Str → Option Value} {base : Heap}
theorem ok_law_site (T : Fx K h mg) : FnI Pg w K mg base 5 (He.ga K "_law_site") ["hand", "length", "number", "springs"] (spF K (cfg K) 4 F_law_site) := by
  obtain ⟨fd, F⟩ := T.c.funD 70 (d := d_law_site) rfl
  obtain ⟨fd0, G0, B0, K0⟩ := (ok_law_take (w := w) (base := base) T).ex
  obtain ⟨fd1, G1, B1, K1⟩ := (ok_law_phases (w := w) (base := base) T).ex
  obtain ⟨fd2, G2, B2, K2⟩ := (ok_law_rivals (w := w) (base := base) T).ex
  obtain ⟨fd3, G3, B3, K3⟩ := (ok_law_lane (w := w) (base := base) T).ex
  obtain ⟨fd4, G4, B4, K4⟩ := (ok_law_springs (w := w) (base := base) T).ex
  have Sc := sc_law_site
  refine ⟨fd, fn_ok0 F Sc rfl rfl (by decide) fun cdv A outer s H E hr => ?_, F.bindsN fun _ _ _ _ _ _ us hl => match us, hl with | [_, _, _, _], _ => rfl, F.kp⟩
  exact (pds_cons (pss_cons (pst_set (g_name 4) (ps_set (i := 4) Sc.nd rfl (Or.inl rfl) (pd_bin (pe_op op_addA (pd_c pe_int fun _ _ _ => rfl) (pd_call (pe_call (G0.mono (by omega)) hr rfl (T.glo 129) K0 B0 .nil passA (pda_cons (pa_cons (pd_var 0 (pv 0)) (pda_cons (pa_cons (pd_c pe_int fun _ _ _ => rfl) (pda_nil pa_nil)))))) runB_len)) b_add))) (pds_cons (pss_cons (pst_if (ps_if (pb_val (pt_cmp (pcd (op_eqA hr.units) b_eq (pd_call (pe_call (G0.mono (by omega)) hr rfl (T.glo 129) K0 B0 .nil passA (pda_cons (pa_cons (pd_var 0 (pv 0)) (pda_cons (pa_cons (pd_c pe_int fun _ _ _ => rfl) (pda_nil pa_nil)))))) runB_len) (pd_c pe_int fun _ _ _ => rfl)))) (pds_cons (pss_cons (pst_set (g_name 4) (ps_set (i := 4) Sc.nd rfl (Or.inl rfl) (pd_bin (pe_op op_addA (pd_c pe_int fun _ _ _ => rfl) (pd_call (pe_call (G0.mono (by omega)) hr rfl (T.glo 129) K0 B0 .nil passA (pda_cons (pa_cons (pd_var 0 (pv 0)) (pda_cons (pa_cons (pd_c pe_int fun _ _ _ => rfl) (pda_nil pa_nil)))))) runB_len)) b_add))) (pds_nil pss_nil))) (pds_nil pss_nil))) (pds_cons (pss_cons (pst_set (g_name 5) (ps_set (i := 5) Sc.nd rfl (Or.inl rfl) (pd_call (pe_call (G1.mono (by omega)) hr rfl (T.glo 132) K1 B1 .nil passA (pda_cons (pa_cons (pd_var 0 (pv 0)) (pda_cons (pa_cons (pd_var 4 (pv 4)) (pda_cons (pa_cons (pd_var 1 (pv 1)) (pda_nil pa_nil)))))))) runB_len))) (pds_cons (pss_cons (pst_set (g_name 6) (ps_set (i := 6) Sc.nd rfl (Or.inl rfl) (pd_call (pe_call (G2.mono (by omega)) hr rfl (T.glo 133) K2 B2 .nil passA (pda_cons (pa_cons (pd_var 0 (pv 0)) (pda_cons (pa_cons (pd_var 4 (pv 4)) (pda_cons (pa_cons (pd_var 5 (pv 5)) (pda_nil pa_nil)))))))) runB_len))) (pds_cons (pss_cons (pst_set (g_name 7) (ps_set (i := 7) Sc.nd rfl (Or.inl rfl) (pd_lstC (pe_lst (pda_nil pa_nil))))) (pds_cons (pss_cons (pst_set (g_name 8) (ps_set (i := 8) Sc.nd rfl (Or.inl rfl) (pd_c pe_bl fun _ _ _ => rfl))) (pds_cons (pss_cons (pst_for i_rng (g_name 9) (ps_for PassesOwn.never rfl (pi_range1 rfl (T.free 9) (pda_cons (pa_cons (pd_var 4 (pv 4)) (pda_nil pa_nil)))) (pg_name (i := 9) Sc.nd rfl (Or.inl rfl)) (pds_cons (pss_cons (pst_set (g_name 10) (ps_set (i := 10) Sc.nd rfl (Or.inl rfl) (pd_call (pe_call (G3.mono (by omega)) hr rfl (T.glo 135) K3 B3 .nil passA (pda_cons (pa_cons (pd_var 0 (pv 0)) (pda_cons (pa_cons (pd_bin (pe_op op_sub (pd_var 3 (pv 3)) (pd_lend (i := 0) (pe_call (G4.mono (by omega)) hr rfl (T.glo 134) K4 B4 .nil passA (pda_cons (pa_cons (pd_var 7 (pv 7)) (pda_nil pa_nil)))) runB_len)) b_sub) (pda_cons (pa_cons (pe_cmp (pcd (op_eqA hr.units) b_eq (pd_bin (pe_op op_addA (pd_var 2 (pv 2)) (pd_var 9 (pv 9))) b_add) (pd_c pe_int fun _ _ _ => rfl))) (pda_cons (pa_cons (pd_var 8 (pv 8)) (pda_nil pa_nil)))))))))) runB_len))) (pds_cons (pss_cons (pst_if (ps_if (PW.pt (pb_and (pw_and (pb_val (pt_cmp (pcd (op_eqA hr.units) b_eq (pd_bin (pe_ix ix_any (pd_var 10 (pv 10)) (pd_c pe_int fun _ _ _ => rfl) fun _ _ => rfl) b_ix) (pd_c pe_str fun _ _ _ => rfl)))) (pw_and1 (pb_val (pt_cmp (pcd op_gt b_gt (pd_bin (pe_ix ix_any (pd_var 10 (pv 10)) (pd_c pe_int fun _ _ _ => rfl) fun _ _ => rfl) b_ix) (pd_c pe_int fun _ _ _ => rfl)))))))) (pds_cons (pss_cons (pst_set (g_name 8) (ps_set (i := 8) Sc.nd rfl (Or.inl rfl) (pd_c pe_bl fun _ _ _ => rfl))) (pds_nil pss_nil))) (pds_nil pss_nil))) (pds_cons (pss_cons (pst_app (ps_expr (pe_bm PySem.F.plainAttrs_list PySem.F.slot_list_append PySem.F.type_list_append mt_append (pd_var 7 (pv 7)) (pa_cons (pd_var 10 (pv 10)) pa_nil)))) (pds_nil pss_nil))))))))) (pds_ghost (pds_cons (pss_cons (pst_ret (ps_ret (pd_tup (pe_tup (pda_cons (pa_cons (pd_sl (pe_slice sl_any (pd_lst (pe_lst (pda_cons (pa_cons (pd_c pe_str fun _ _ _ => rfl) (pda_cons (pa_cons (pd_c pe_str fun _ _ _ => rfl) (pda_cons (pa_cons (pd_c pe_str fun _ _ _ => rfl) (pda_cons (pa_cons (pd_c pe_str fun _ _ _ => rfl) (pda_cons (pa_cons (pd_c pe_str fun _ _ _ => rfl) (pda_cons (pa_cons (pd_c pe_str fun _ _ _ => rfl) (pda_nil pa_nil))))))))))))))) po_no (po_at (pd_var 4 (pv 4))))) (pda_cons (pa_cons (pd_var 6 (pv 6)) (pda_cons (pa_cons (pd_var 5 (pv 5)) (pda_cons (pa_cons (pd_var 7 (pv 7)) (pda_nil pa_nil))))))))))))) (pds_nil pss_nil))))))))))))))))))
end
theorem sc_law_streets : FnScope ["hand", "sites", "begins", "ends", "k", "rows", "j", "lanes", "s", "one", "other"] ["hand", "sites"] (defScope (top 112)) := ⟨rfl, rfl, rfl, by decide +kernel, rfl, by decide +kernel, by decide +kernel⟩
section
variable {w : World} {K : PySem.W.Frag} {h : Heap} {mg : Str → Option Value} {base : Heap}
theorem ok_law_streets (T : Fx K h mg) : FnI Pg w K mg base 2 (He.ga K "_law_streets") ["hand", "sites"] (spF K (cfg K) 2 F_law_streets) := by
  obtain ⟨fd, F⟩ := T.c.funD 71 (d := d_law_streets) rfl
  obtain ⟨fd0, G0, B0, K0⟩ := (ok_law_take (w := w) (base := base) T).ex
  have Sc := sc_law_streets
  refine ⟨fd, fn_ok0 F Sc rfl rfl (by decide) fun cdv A outer s H E hr => ?_, F.bindsN fun _ _ _ _ _ _ us hl => match us, hl with | [_, _], _ => rfl, F.kp⟩
  exact (pds_cons (pss_cons (pst_set (g_name 2) (ps_set (i := 2) Sc.nd rfl (Or.inl rfl) (pd_lstC (pe_lst (pda_nil pa_nil))))) (pds_cons (pss_cons (pst_set (g_name 3) (ps_set (i := 3) Sc.nd rfl (Or.inl rfl) (pd_lstC (pe_lst (pda_nil pa_nil))))) (pds_cons (pss_cons (pst_for i_rng (g_name 4) (ps_for PassesOwn.never rfl (pi_range1 rfl (T.free 9) (pda_cons (pa_cons (pd_b1 call_len u_len rfl (T.free 3) bb_len (pd_var 1 (pv 1))) (pda_nil pa_nil)))) (pg_name (i := 4) Sc.nd rfl (Or.inl rfl)) (pds_cons (pss_cons (pst_set (g_name 7) (ps_set (i := 7) Sc.nd rfl (Or.inl rfl) (pd_bin (pe_ix ix_any (pd_bin (pe_ix ix_any (pd_var 1 (pv 1)) (pd_var 4 (pv 4)) fun _ _ => rfl) b_ix) (pd_c pe_int fun _ _ _ => rfl) fun _ _ => rfl) b_ix))) (pds_cons (pss_cons (pst_for i_rng (g_name 8) (ps_for PassesOwn.never rfl (pi_range1 rfl (T.free 9) (pda_cons (pa_cons (pd_b1 call_len u_len rfl (T.free 3) bb_len (pd_var 7 (pv 7))) (pda_nil pa_nil)))) (pg_name (i := 8) Sc.nd rfl (Or.inl rfl)) (pds_cons (pss_cons (pst_if (ps_if (pb_val (pt_cmp (pcd (op_eqA hr.units) b_eq (pd_bin (pe_ix ix_any (pd_bin (pe_ix ix_any (pd_var 7 (pv 7)) (pd_var 8 (pv 8)) fun _ _ => rfl) b_ix) (pd_c pe_int fun _ _ _ => rfl) fun _ _ => rfl) b_ix) (pd_c pe_str fun _ _ _ => rfl)))) (pds_cons (pss_cons (pst_app (ps_expr (pe_bm PySem.F.plainAttrs_list PySem.F.slot_list_append PySem.F.type_list_append mt_append (pd_var 2 (pv 2)) (pa_cons (pd_tup (pe_tup (pda_cons (pa_cons (pd_var 4 (pv 4)) (pda_cons (pa_cons (pd_var 8 (pv 8)) (pda_nil pa_nil))))))) pa_nil)))) (pds_cons (pss_cons (pst_if (ps_if (pb_val (pt_cmp (pcd op_isN b_is (pd_bin (pe_ix ix_any (pd_bin (pe_ix ix_any (pd_var 7 (pv 7)) (pd_var 8 (pv 8)) fun _ _ => rfl) b_ix) (pd_c pe_int fun _ _ _ => rfl) fun _ _ => rfl) b_ix) (pd_c pe_non fun _ _ _ => rfl)))) (pds_cons (pss_cons (pst_app (ps_expr (pe_bm PySem.F.plainAttrs_list PySem.F.slot_list_append PySem.F.type_list_append mt_append (pd_var 3 (pv 3)) (pa_cons (pd_tup (pe_tup (pda_cons (pa_cons (pd_var 4 (pv 4)) (pda_cons (pa_cons (pd_var 8 (pv 8)) (pda_nil pa_nil))))))) pa_nil)))) (pds_nil pss_nil))) (pds_nil pss_nil))) (pds_nil pss_nil))))) (pds_nil pss_nil))) (pds_nil pss_nil))))) (pds_nil pss_nil))))))) (pds_cons (pss_cons (pst_set (g_name 5) (ps_set (i := 5) Sc.nd rfl (Or.inl rfl) (pd_lstC (pe_lst (pda_nil pa_nil))))) (pds_cons (pss_cons (pst_for i_rng (g_name 6) (ps_for PassesOwn.never rfl (pi_range1 rfl (T.free 9) (pda_cons (pa_cons (pd_call (pe_call (G0.mono (by omega)) hr rfl (T.glo 129) K0 B0 .nil passA (pda_cons (pa_cons (pd_var 0 (pv 0)) (pda_cons (pa_cons (pd_c pe_int fun _ _ _ => rfl) (pda_nil pa_nil)))))) runB_len) (pda_nil pa_nil)))) (pg_name (i := 6) Sc.nd rfl (Or.inl rfl)) (pds_cons (pss_cons (pst_if (ps_if (PW.pt (pb_and (pw_and (pb_val (pt_cmp (pcd op_gt b_gt (pd_b1 call_len u_len rfl (T.free 3) bb_len (pd_var 2 (pv 2))) (pd_c pe_int fun _ _ _ => rfl)))) (pw_and1 (pb_val (pt_cmp (pcd op_gt b_gt (pd_b1 call_len u_len rfl (T.free 3) bb_len (pd_var 3 (pv 3))) (pd_c pe_int fun _ _ _ => rfl)))))))) (pds_cons (pss_cons (pst_set (g_name 9) (ps_set (i := 9) Sc.nd rfl (Or.inl rfl) (pd_popAt (pe_bm PySem.F.plainAttrs_list PySem.F.slot_list_pop PySem.F.type_list_pop mt_popAt (pd_var 2 (pv 2)) (pa_cons (pd_call (pe_call (G0.mono (by omega)) hr rfl (T.glo 129) K0 B0 .nil passA (pda_cons (pa_cons (pd_var 0 (pv 0)) (pda_cons (pa_cons (pd_b1 call_len u_len rfl (T.free 3) bb_len (pd_var 2 (pv 2))) (pda_nil pa_nil)))))) runB_len) pa_nil))))) (pds_cons (pss_cons (pst_set (g_name 10) (ps_set (i := 10) Sc.nd rfl (Or.inl rfl) (pd_popAt (pe_bm PySem.F.plainAttrs_list PySem.F.slot_list_pop PySem.F.type_list_pop mt_popAt (pd_var 3 (pv 3)) (pa_cons (pd_call (pe_call (G0.mono (by omega)) hr rfl (T.glo 129) K0 B0 .nil passA (pda_cons (pa_cons (pd_var 0 (pv 0)) (pda_cons (pa_cons (pd_b1 call_len u_len rfl (T.free 3) bb_len (pd_var 3 (pv 3))) (pda_nil pa_nil)))))) runB_len) pa_nil))))) (pds_cons (pss_cons (pst_app (ps_expr (pe_bm PySem.F.plainAttrs_list PySem.F.slot_list_append PySem.F.type_list_append mt_append (pd_var 5 (pv 5)) (pa_cons (pd_tup (pe_tup (pda_cons (pa_cons (pd_var 9 (pv 9)) (pda_cons (pa_cons (pd_var 10 (pv 10)) (pda_cons (pa_cons (pd_bin (pe_op op_addA (pd_c pe_int fun _ _ _ => rfl) (pd_call (pe_call (G0.mono (by omega)) hr rfl (T.glo 129) K0 B0 .nil passA (pda_cons (pa_cons (pd_var 0 (pv 0)) (pda_cons (pa_cons (pd_c pe_int fun _ _ _ => rfl) (pda_nil pa_nil)))))) runB_len)) b_add) (pda_nil pa_nil))))))))) pa_nil)))) (pds_nil pss_nil))))))) (pds_nil pss_nil))) (pds_nil pss_nil))))) (pds_ghost (pds_ghost (pds_ghost (pds_cons (pss_cons (pst_ret (ps_ret (pd_var 5 (pv 5)))) (pds_nil pss_nil))))))))))))))))
end
theorem sc_law_town : FnScope ["hand", "length", "count", "sites", "springs", "k", "offsets", "site"] ["hand"] (defScope (top 113)) := ⟨rfl, rfl, rfl, by decide +kernel, rfl, by decide +kernel, by decide +kernel⟩
section
variable {w : World} {K : PySem.W.Frag} {h : Heap} {mg : Str → Option Value} {base : Heap}
theorem ok_law_town (T : Fx K h mg) : FnI Pg w K mg base 6 (He.ga K "_law_town") ["hand"] (spF K (cfg K) 1 F_law_town) := by
  obtain ⟨fd, F⟩ := T.c.funD 72 (d := d_law_town) rfl
  obtain ⟨fd0, G0, B0, K0⟩ := (ok_law_take (w := w) (base := base) T).ex
  obtain ⟨fd1, G1, B1, K1⟩ := (ok_law_site (w := w) (base := base) T).ex
  obtain ⟨fd2, G2, B2, K2⟩ := (ok_law_springs (w := w) (base := base) T).ex
  obtain ⟨fd3, G3, B3, K3⟩ := (ok_law_streets (w := w) (base := base) T).ex
  have Sc := sc_law_town
  have BK : ∀ (scope : Scope) (own : List (Str × Nat)), blkC ["hand", "length", "count", "sites", "springs", "k", "offsets", "site"] (defScope (top 113)) scope own = true → BlkOk ["hand", "length", "count", "sites", "springs", "k", "offsets", "site"] (defScope (top 113)) scope own := fun _ _ h => blkOk_by h
  refine ⟨fd, fn_ok0 F Sc rfl rfl (by decide) fun cdv A outer s H E hr => ?_, F.bindsN fun _ _ _ _ _ _ us hl => match us, hl with | [_], _ => rfl, F.kp⟩
  exact (pds_cons (pss_cons (pst_set (g_name 1) (ps_set (i := 1) Sc.nd rfl (Or.inr rfl) (pd_bin (pe_op op_addA (pd_c pe_int fun _ _ _ => rfl) (pd_call (pe_call (G0.mono (by omega)) hr rfl (T.glo 129) K0 B0 .nil passA (pda_cons (pa_cons (pd_var 0 (pv 0)) (pda_cons (pa_cons (pd_c pe_int fun _ _ _ => rfl) (pda_nil pa_nil)))))) runB_len)) b_add))) (pds_cons (pss_cons (pst_if (ps_if (pb_val (pt_cmp (pcd (op_eqA hr.units) b_eq (pd_call (pe_call (G0.mono (by omega)) hr rfl (T.glo 129) K0 B0 .nil passA (pda_cons (pa_cons (pd_var 0 (pv 0)) (pda_cons (pa_cons (pd_c pe_int fun _ _ _ => rfl) (pda_nil pa_nil)))))) runB_len) (pd_c pe_int fun _ _ _ => rfl)))) (pds_cons (pss_cons (pst_set (g_name 1) (ps_set (i := 1) Sc.nd rfl (Or.inr rfl) (pd_bin (pe_op op_addA (pd_c pe_int fun _ _ _ => rfl) (pd_call (pe_call (G0.mono (by omega)) hr rfl (T.glo 129) K0 B0 .nil passA (pda_cons (pa_cons (pd_var 0 (pv 0)) (pda_cons (pa_cons (pd_c pe_int fun _ _ _ => rfl) (pda_nil pa_nil)))))) runB_len)) b_add))) (pds_nil pss_nil))) (pds_nil pss_nil))) (pds_cons (pss_cons (pst_set (g_name 2) (ps_set (i := 2) Sc.nd rfl (Or.inl rfl) (pd_bin (pe_op op_addA (pd_c pe_int fun _ _ _ => rfl) (pd_call (pe_call (G0.mono (by omega)) hr rfl (T.glo 129) K0 B0 .nil passA (pda_cons (pa_cons (pd_var 0 (pv 0)) (pda_cons (pa_cons (pd_c pe_int fun _ _ _ => rfl) (pda_nil pa_nil)))))) runB_len)) b_add))) (pds_cons (pss_cons (pst_if (ps_if (pb_val (pt_cmp (pcd (op_eqA hr.units) b_eq (pd_call (pe_call (G0.mono (by omega)) hr rfl (T.glo 129) K0 B0 .nil passA (pda_cons (pa_cons (pd_var 0 (pv 0)) (pda_cons (pa_cons (pd_c pe_int fun _ _ _ => rfl) (pda_nil pa_nil)))))) runB_len) (pd_c pe_int fun _ _ _ => rfl)))) (pds_cons (pss_cons (pst_set (g_name 2) (ps_set (i := 2) Sc.nd rfl (Or.inl rfl) (pd_bin (pe_op op_addA (pd_c pe_int fun _ _ _ => rfl) (pd_call (pe_call (G0.mono (by omega)) hr rfl (T.glo 129) K0 B0 .nil passA (pda_cons (pa_cons (pd_var 0 (pv 0)) (pda_cons (pa_cons (pd_c pe_int fun _ _ _ => rfl) (pda_nil pa_nil)))))) runB_len)) b_add))) (pds_nil pss_nil))) (pds_nil pss_nil))) (pds_cons (pss_cons (pst_set (g_name 3) (ps_set (i := 3) Sc.nd rfl (Or.inl rfl) (pd_lstC (pe_lst (pda_nil pa_nil))))) (pds_cons (pss_cons (pst_set (g_name 4) (ps_set (i := 4) Sc.nd rfl (Or.inl rfl) (pd_c pe_int fun _ _ _ => rfl))) (pds_cons (pss_cons (pst_for i_rng (g_name 5) (ps_for PassesOwn.never rfl (pi_range1 rfl (T.free 9) (pda_cons (pa_cons (pd_var 2 (pv 2)) (pda_nil pa_nil)))) (pg_name (i := 5) Sc.nd rfl (Or.inl rfl)) (pds_cons (pss_cons (pst_set (g_name 7) (ps_set (i := 7) Sc.nd rfl (Or.inl rfl) (pd_call (pe_call (G1.mono (by omega)) hr rfl (T.glo 136) K1 B1 .nil passA (pda_cons (pa_cons (pd_var 0 (pv 0)) (pda_cons (pa_cons (pd_var 1 (pv 1)) (pda_cons (pa_cons (pd_var 5 (pv 5)) (pda_cons (pa_cons (pd_var 4 (pv 4)) (pda_nil pa_nil)))))))))) runB_len))) (pds_cons (pss_cons (pst_set (g_name 4) (ps_set (i := 4) Sc.nd rfl (Or.inl rfl) (pd_bin (pe_op op_sub (pd_var 4 (pv 4)) (pd_call (pe_call (G2.mono (by omega)) hr rfl (T.glo 134) K2 B2 .nil passA (pda_cons (pa_cons (pd_bin (pe_ix ix_any (pd_var 7 (pv 7)) (pd_c pe_int fun _ _ _ => rfl) fun _ _ => rfl) b_ix) (pda_nil pa_nil)))) runB_len)) b_sub))) (pds_cons (pss_cons (pst_app (ps_expr (pe_bm PySem.F.plainAttrs_list PySem.F.slot_list_append PySem.F.type_list_append mt_append (pd_var 3 (pv 3)) (pa_cons (pd_var 7 (pv 7)) pa_nil)))) (pds_nil pss_nil))))))))) (pds_ghost (pds_cons (pss_cons (pst_setLc (own := [7]) i_lst (g_name 7) (by decide) ht_y (ps_setLc (i := 6) (own := [("site", 7)]) rfl Sc.nd rfl rfl rfl (PI.or (pi_list (pd_var 3 (pv 3))) (pi_tup (pd_var 3 (pv 3)))) (BK _ _ (by decide +kernel)) (fun _ _ _ _ _ => (pg_name (i := 7) Sc.nd rfl (Or.inl rfl))) (fun _ _ _ _ _ => pts_nil) (fun _ _ _ _ _ => (pd_call (pe_call (G0.mono (by omega)) hr rfl (T.glo 129) K0 B0 .nil passA (pda_cons (pa_cons (pd_var 0 (pv 0)) (pda_cons (pa_cons (pd_var 1 (pv 1)) (pda_nil pa_nil)))))) runB_len)))) (pds_cons (pss_cons (pst_ret (ps_ret (pd_tup (pe_tup (pda_cons (pa_cons (pd_var 1 (pv 1)) (pda_cons (pa_cons (pd_var 3 (pv 3)) (pda_cons (pa_cons (pd_var 6 (pv 6)) (pda_cons (pa_cons (pd_call (pe_call (G3.mono (by omega)) hr rfl (T.glo 137) K3 B3 .nil passA (pda_cons (pa_cons (pd_var 0 (pv 0)) (pda_cons (pa_cons (pd_var 3 (pv 3)) (pda_nil pa_nil)))))) runB_len) (pda_nil pa_nil))))))))))))) (pds_nil pss_nil))))))))))))))))))))
end
theorem sc_law_make_rate : FnScope ["pace"] ["pace"] (defScope (top 114)) := ⟨rfl, rfl, rfl, by decide +kernel, rfl, by decide +kernel, by decide +kernel⟩
section
variable {w : World} {K : PySem.W.Frag} {h : Heap} {mg : Str → Option Value} {base : Heap}
theorem ok_law_make_rate (T : Fx K h mg) : FnI Pg w K mg base 3 (He.ga K "_law_make_rate") ["pace"] (spF K (cfg K) 1 F_law_make_rate) := by
  obtain ⟨fd, F⟩ := T.c.funD 73 (d := d_law_make_rate) rfl
  obtain ⟨fd0, G0, B0, K0⟩ := (ok_Rate_init (w := w) (base := base) T).ex
  have Sc := sc_law_make_rate
  refine ⟨fd, fn_ok0 F Sc rfl rfl (by decide) fun cdv A outer s H E hr => ?_, F.bindsN fun _ _ _ _ _ _ us hl => match us, hl with | [_], _ => rfl, F.kp⟩
  exact (pds_cons (pss_cons (pst_if (ps_if (pb_val (pt_cmp (pcd op_isN b_is (pd_var 0 (pv 0)) (pd_c pe_non fun _ _ _ => rfl)))) (pds_cons (pss_cons (pst_ret (ps_ret (pd_c pe_non fun _ _ _ => rfl))) (pds_nil pss_nil))) (pds_nil pss_nil))) (pds_cons (pss_cons (pst_ret (ps_ret (pd_make (c := 5) (T.cls 23) (pe_make (T.mkr 138) (G0.mono (by omega)) hr rfl (T.glo 139) B0 .nil passA (pda_cons (pa_cons (pd_bin (pe_ix ix_any (pd_var 0 (pv 0)) (pd_c pe_int fun _ _ _ => rfl) fun _ _ => rfl) b_ix) (pda_cons (pa_cons (pd_bin (pe_ix ix_any (pd_var 0 (pv 0)) (pd_c pe_int fun _ _ _ => rfl) fun _ _ => rfl) b_ix) (pda_cons (pa_cons (pd_bin (pe_ix ix_any (pd_var 0 (pv 0)) (pd_c pe_int fun _ _ _ => rfl) fun _ _ => rfl) b_ix) (pda_nil pa_nil)))))))) runB_len))) (pds_nil pss_nil)))))
end
theorem sc_law_make_lane : FnScope ["lane"] ["lane"] (defScope (top 115)) := ⟨rfl, rfl, rfl, by decide +kernel, rfl, by decide +kernel, by decide +kernel⟩
section
variable {w : World} {K : PySem.W.Frag} {h : Heap} {mg : Str → Option Value} {base : Heap}
theorem ok_law_make_lane (T : Fx K h mg) : FnI Pg w K mg base 4 (He.ga K "_law_make_lane") ["lane"] (spF K (cfg K) 1 F_law_make_lane) := by
  obtain ⟨fd, F⟩ := T.c.funD 74 (d := d_law_make_lane) rfl
  obtain ⟨fd0, G0, B0, K0⟩ := (ok_Foot_init (w := w) (base := base) T).ex
  obtain ⟨fd1, G1, KB1, K1⟩ := ok_Road_init (w := w) (base := base) T
  obtain ⟨fd2, G2, B2, K2⟩ := (ok_law_make_rate (w := w) (base := base) T).ex
  have Sc := sc_law_make_lane
  refine ⟨fd, fn_ok0 F Sc rfl rfl (by decide) fun cdv A outer s H E hr => ?_, F.bindsN fun _ _ _ _ _ _ us hl => match us, hl with | [_], _ => rfl, F.kp⟩
  exact (pds_cons (pss_cons (pst_if (ps_if (pb_val (pt_cmp (pcd (op_eqA hr.units) b_eq (pd_bin (pe_ix ix_any (pd_var 0 (pv 0)) (pd_c pe_int fun _ _ _ => rfl) fun _ _ => rfl) b_ix) (pd_c pe_str fun _ _ _ => rfl)))) (pds_cons (pss_cons (pst_ret (ps_ret (pd_make (c := 2) (T.cls 21) (pe_make (T.mkr 140) (G0.mono (by omega)) hr rfl (T.glo 141) B0 .nil passA (pda_cons (pa_cons (pd_bin (pe_ix ix_any (pd_var 0 (pv 0)) (pd_c pe_int fun _ _ _ => rfl) fun _ _ => rfl) b_ix) (pda_nil pa_nil)))) runB_len))) (pds_nil pss_nil))) (pds_nil pss_nil))) (pds_cons (pss_cons (pst_ret (ps_ret (pd_mkK (c := 3) (n := 1) (j := 2) (T.cls 22) (T.mkr 143) (G1.mono (by omega)) hr rfl (T.glo 144) rfl KB1 rfl (pda_cons (pa_cons (pd_bin (pe_ix ix_any (pd_var 0 (pv 0)) (pd_c pe_int fun _ _ _ => rfl) fun _ _ => rfl) b_ix) (pda_nil pa_nil))) (pkd_cons (pk_cons (pd_call (pe_call (G2.mono (by omega)) hr rfl (T.glo 142) K2 B2 .nil passA (pda_cons (pa_cons (pd_bin (pe_ix ix_any (pd_var 0 (pv 0)) (pd_c pe_int fun _ _ _ => rfl) fun _ _ => rfl) b_ix) (pda_nil pa_nil)))) runB_len) (pkd_cons (pk_cons (pd_bin (pe_ix ix_any (pd_var 0 (pv 0)) (pd_c pe_int fun _ _ _ => rfl) fun _ _ => rfl) b_ix) (pkd_nil pk_nil))))) runB_len (aCons_len aNil_len) (aCons_len (aCons_len aNil_len))))) (pds_nil pss_nil)))))
end
theorem sc_law_make_phase : FnScope ["phase"] ["phase"] (defScope (top 116)) := ⟨rfl, rfl, rfl, by decide +kernel, rfl, by decide +kernel, by decide +kernel⟩
section
variable {w : World} {K : PySem.W.Frag} {h : Heap} {mg : Str → Option Value} {base : Heap}
theorem ok_law_make_phase (T : Fx K h mg) : FnI Pg w K mg base 5 (He.ga K "_law_make_phase") ["phase"] (spF K (cfg K) 1 F_law_make_phase) := by
  obtain ⟨fd, F⟩ := T.c.funD 75 (d := d_law_make_phase) rfl
  obtain ⟨fd0, G0, KB0, K0⟩ := ok_Phase_init (w := w) (base := base) T
  have Sc := sc_law_make_phase
  refine ⟨fd, fn_ok0 F Sc rfl rfl (by decide) fun cdv A outer s H E hr => ?_, F.bindsN fun _ _ _ _ _ _ us hl => match us, hl with | [_], _ => rfl, F.kp⟩
  exact (pds_cons (pss_cons (pst_if (ps_if (pb_truth (pd_bin (pe_ix ix_any (pd_var 0 (pv 0)) (pd_c pe_int fun _ _ _ => rfl) fun _ _ => rfl) b_ix)) (pds_cons (pss_cons (pst_ret (ps_ret (pd_mkK (c := 4) (n := 1) (j := 6) (T.cls 75) (T.mkr 145) (G0.mono (by omega)) hr rfl (T.glo 146) rfl KB0 rfl (pda_cons (pa_cons (pd_t1 call_list_of u_list rfl (T.free 127) bb_list (pd_bin (pe_ix ix_any (pd_var 0 (pv 0)) (pd_c pe_int fun _ _ _ => rfl) fun _ _ => rfl) b_ix)) (pda_nil pa_nil))) (pkd_cons (pk_cons (pd_bin (pe_ix ix_any (pd_var 0 (pv 0)) (pd_c pe_int fun _ _ _ => rfl) fun _ _ => rfl) b_ix) (pkd_cons (pk_cons (pd_bin (pe_ix ix_any (pd_var 0 (pv 0)) (pd_c pe_int fun _ _ _ => rfl) fun _ _ => rfl) b_ix) (pkd_cons (pk_cons (pd_bin (pe_ix ix_any (pd_var 0 (pv 0)) (pd_c pe_int fun _ _ _ => rfl) fun _ _ => rfl) b_ix) (pkd_cons (pk_cons (pd_t1 call_list_of u_list rfl (T.free 127) bb_list (pd_bin (pe_ix ix_any (pd_var 0 (pv 0)) (pd_c pe_int fun _ _ _ => rfl) fun _ _ => rfl) b_ix)) (pkd_cons (pk_cons (pd_t1 call_list_of u_list rfl (T.free 127) bb_list (pd_bin (pe_ix ix_any (pd_var 0 (pv 0)) (pd_c pe_int fun _ _ _ => rfl) fun _ _ => rfl) b_ix)) (pkd_cons (pk_cons (pd_c pe_bl fun _ _ _ => rfl) (pkd_nil pk_nil))))))))))))) runB_len (aCons_len aNil_len) (aCons_len (aCons_len (aCons_len (aCons_len (aCons_len (aCons_len aNil_len))))))))) (pds_nil pss_nil))) (pds_nil pss_nil))) (pds_cons (pss_cons (pst_ret (ps_ret (pd_mkK (c := 4) (n := 1) (j := 6) (T.cls 75) (T.mkr 145) (G0.mono (by omega)) hr rfl (T.glo 146) rfl KB0 rfl (pda_cons (pa_cons (pd_t1 call_list_of u_list rfl (T.free 127) bb_list (pd_bin (pe_ix ix_any (pd_var 0 (pv 0)) (pd_c pe_int fun _ _ _ => rfl) fun _ _ => rfl) b_ix)) (pda_nil pa_nil))) (pkd_cons (pk_cons (pd_bin (pe_ix ix_any (pd_var 0 (pv 0)) (pd_c pe_int fun _ _ _ => rfl) fun _ _ => rfl) b_ix) (pkd_cons (pk_cons (pd_bin (pe_ix ix_any (pd_var 0 (pv 0)) (pd_c pe_int fun _ _ _ => rfl) fun _ _ => rfl) b_ix) (pkd_cons (pk_cons (pd_bin (pe_ix ix_any (pd_var 0 (pv 0)) (pd_c pe_int fun _ _ _ => rfl) fun _ _ => rfl) b_ix) (pkd_cons (pk_cons (pd_t1 call_list_of u_list rfl (T.free 127) bb_list (pd_bin (pe_ix ix_any (pd_var 0 (pv 0)) (pd_c pe_int fun _ _ _ => rfl) fun _ _ => rfl) b_ix)) (pkd_cons (pk_cons (pd_t1 call_list_of u_list rfl (T.free 127) bb_list (pd_bin (pe_ix ix_any (pd_var 0 (pv 0)) (pd_c pe_int fun _ _ _ => rfl) fun _ _ => rfl) b_ix)) (pkd_cons (pk_cons (pd_c pe_bl fun _ _ _ => rfl) (pkd_nil pk_nil))))))))))))) runB_len (aCons_len aNil_len) (aCons_len (aCons_len (aCons_len (aCons_len (aCons_len (aCons_len aNil_len))))))))) (pds_nil pss_nil)))))
end
theorem sc_law_make_book : FnScope ["site", "length", "phases", "phase"] ["site", "length"] (defScope (top 117)) := ⟨rfl, rfl, rfl, by decide +kernel, rfl, by decide +kernel, by decide +kernel⟩
section
variable {w : World} {K : PySem.W.Frag} {h : Heap} {mg : Str → Option Value} {base : Heap}
theorem ok_law_make_book (T : Fx K h mg) : FnI Pg w K mg base 6 (He.ga K "_law_make_book") ["site", "length"] (spF K (cfg K) 2 F_law_make_book) := by
  obtain ⟨fd, F⟩ := T.c.funD 76 (d := d_law_make_book) rfl
  obtain ⟨fd0, G0, B0, K0⟩ := (ok_law_make_phase (w := w) (base := base) T).ex
  obtain ⟨fd1, G1, B1, K1⟩ := (ok_Book_init (w := w) (base := base) T).ex
  obtain ⟨fd2, G2, B2, K2⟩ := (ok_Crossing_init (w := w) (base := base) T).ex
  have Sc := sc_law_make_book
  have BK : ∀ (scope : Scope) (own : List (Str × Nat)), blkC ["site", "length", "phases", "phase"] (defScope (top 117)) scope own = true → BlkOk ["site", "length", "phases", "phase"] (defScope (top 117)) scope own := fun _ _ h => blkOk_by h
  refine ⟨fd, fn_ok0 F Sc rfl rfl (by decide) fun cdv A outer s H E hr => ?_, F.bindsN fun _ _ _ _ _ _ us hl => match us, hl with | [_, _], _ => rfl, F.kp⟩
  exact (pds_cons (pss_cons (pst_setLc (own := [3]) i_lst (g_name 3) (by decide) ht_y (ps_setLc (i := 2) (own := [("phase", 3)]) rfl Sc.nd rfl rfl rfl (PI.or (pi_list (pd_bin (pe_ix ix_any (pd_var 0 (pv 0)) (pd_c pe_int fun _ _ _ => rfl) fun _ _ => rfl) b_ix)) (pi_tup (pd_bin (pe_ix ix_any (pd_var 0 (pv 0)) (pd_c pe_int fun _ _ _ => rfl) fun _ _ => rfl) b_ix))) (BK _ _ (by decide +kernel)) (fun _ _ _ _ _ => (pg_name (i := 3) Sc.nd rfl (Or.inl rfl))) (fun _ _ _ _ _ => pts_nil) (fun _ _ _ _ _ => (pd_call (pe_call (G0.mono (by omega)) hr rfl (T.glo 147) K0 B0 .nil passA (pda_cons (pa_cons (pd_var 3 (pv 3)) (pda_nil pa_nil)))) runB_len)))) (pds_cons (pss_cons (pst_ret (ps_ret (pd_make (c := 0) (T.cls 5) (pe_make (T.mkr 150) (G1.mono (by omega)) hr rfl (T.glo 151) B1 .nil passA (pda_cons (pa_cons (pd_make (c := 1) (T.cls 17) (pe_make (T.mkr 148) (G2.mono (by omega)) hr rfl (T.glo 149) B2 .nil passA (pda_cons (pa_cons (pd_t1 call_list_of u_list rfl (T.free 127) bb_list (pd_bin (pe_ix ix_any (pd_var 0 (pv 0)) (pd_c pe_int fun _ _ _ => rfl) fun _ _ => rfl) b_ix)) (pda_cons (pa_cons (pd_t1 call_list_of u_list rfl (T.free 127) bb_list (pd_bin (pe_ix ix_any (pd_var 0 (pv 0)) (pd_c pe_int fun _ _ _ => rfl) fun _ _ => rfl) b_ix)) (pda_nil pa_nil)))))) runB_len) (pda_cons (pa_cons (pd_var 1 (pv 1)) (pda_cons (pa_cons (pd_bin (pe_ix ix_any (pd_var 2 (pv 2)) (pd_c pe_int fun _ _ _ => rfl) fun _ _ => rfl) b_ix) (pda_cons (pa_cons (pd_sl (pe_slice sl_any (pd_var 2 (pv 2)) (po_at (pd_c pe_int fun _ _ _ => rfl)) po_no)) (pda_nil pa_nil)))))))))) runB_len))) (pds_nil pss_nil)))))
end
theorem sc_law_make_site : FnScope ["site", "length", "lanes", "lane"] ["site", "length"] (defScope (top 118)) := ⟨rfl, rfl, rfl, by decide +kernel, rfl, by decide +kernel, by decide +kernel⟩
section
variable {w : World} {K : PySem.W.Frag} {h : Heap} {mg : Str → Option Value} {base : Heap}
theorem ok_law_make_site (T : Fx K h mg) : FnI Pg w K mg base 7 (He.ga K "_law_make_site") ["site", "length"] (spF K (cfg K) 2 F_law_make_site) := by
  obtain ⟨fd, F⟩ := T.c.funD 77 (d := d_law_make_site) rfl
  obtain ⟨fd0, G0, B0, K0⟩ := (ok_law_make_lane (w := w) (base := base) T).ex
  obtain ⟨fd1, G1, B1, K1⟩ := (ok_Site_init (w := w) (base := base) T).ex
  obtain ⟨fd2, G2, B2, K2⟩ := (ok_law_make_book (w := w) (base := base) T).ex
  have Sc := sc_law_make_site
  have BK : ∀ (scope : Scope) (own : List (Str × Nat)), blkC ["site", "length", "lanes", "lane"] (defScope (top 118)) scope own = true → BlkOk ["site", "length", "lanes", "lane"] (defScope (top 118)) scope own := fun _ _ h => blkOk_by h
  refine ⟨fd, fn_ok0 F Sc rfl rfl (by decide) fun cdv A outer s H E hr => ?_, F.bindsN fun _ _ _ _ _ _ us hl => match us, hl with | [_, _], _ => rfl, F.kp⟩
  exact (pds_cons (pss_cons (pst_setLc (own := [3]) i_lst (g_name 3) (by decide) ht_y (ps_setLc (i := 2) (own := [("lane", 3)]) rfl Sc.nd rfl rfl rfl (PI.or (pi_list (pd_bin (pe_ix ix_any (pd_var 0 (pv 0)) (pd_c pe_int fun _ _ _ => rfl) fun _ _ => rfl) b_ix)) (pi_tup (pd_bin (pe_ix ix_any (pd_var 0 (pv 0)) (pd_c pe_int fun _ _ _ => rfl) fun _ _ => rfl) b_ix))) (BK _ _ (by decide +kernel)) (fun _ _ _ _ _ => (pg_name (i := 3) Sc.nd rfl (Or.inl rfl))) (fun _ _ _ _ _ => pts_nil) (fun _ _ _ _ _ => (pd_call (pe_call (G0.mono (by omega)) hr rfl (T.glo 152) K0 B0 .nil passA (pda_cons (pa_cons (pd_var 3 (pv 3)) (pda_nil pa_nil)))) runB_len)))) (pds_cons (pss_cons (pst_ret (ps_ret (pd_make (c := 6) (T.cls 89) (pe_make (T.mkr 154) (G1.mono (by omega)) hr rfl (T.glo 155) B1 .nil passA (pda_cons (pa_cons (pd_call (pe_call (G2.mono (by omega)) hr rfl (T.glo 153) K2 B2 .nil passA (pda_cons (pa_cons (pd_var 0 (pv 0)) (pda_cons (pa_cons (pd_var 1 (pv 1)) (pda_nil pa_nil)))))) runB_len) (pda_cons (pa_cons (pd_var 2 (pv 2)) (pda_nil pa_nil)))))) runB_len))) (pds_nil pss_nil)))))
end
theorem sc_law_make_town : FnScope ["town", "sites", "streets", "site", "street"] ["town"] (defScope (top 119)) := ⟨rfl, rfl, rfl, by decide +kernel, rfl, by decide +kernel, by decide +kernel⟩
section
variable {w : World} {K : PySem.W.Frag} {h : Heap} {mg : Str → Option Value} {base : Heap}
theorem ok_law_make_town (T : Fx K h mg) : FnI Pg w K mg base 9 (He.ga K "_law_make_town") ["town"] (spF K (cfg K) 1 F_law_make_town) := by
  obtain ⟨fd, F⟩ := T.c.funD 78 (d := d_law_make_town) rfl
  obtain ⟨fd0, G0, B0, K0⟩ := (ok_law_make_site (w := w) (base := base) T).ex
  obtain ⟨fd1, G1, B1, K1⟩ := (ok_Street_init (w := w) (base := base) T).ex
  obtain ⟨fd2, G2, B2, K2⟩ := (ok_Town_init (w := w) (base := base) T).ex
  have Sc := sc_law_make_town
  have BK : ∀ (scope : Scope) (own : List (Str × Nat)), blkC ["town", "sites", "streets", "site", "street"] (defScope (top 119)) scope own = true → BlkOk ["town", "sites", "streets", "site", "street"] (defScope (top 119)) scope own := fun _ _ h => blkOk_by h
  refine ⟨fd, fn_ok0 F Sc rfl rfl (by decide) fun cdv A outer s H E hr => ?_, F.bindsN fun _ _ _ _ _ _ us hl => match us, hl with | [_], _ => rfl, F.kp⟩
  exact (pds_cons (pss_cons (pst_setLc (own := [3]) i_lst (g_name 3) (by decide) ht_y (ps_setLc (i := 1) (own := [("site", 3)]) rfl Sc.nd rfl rfl rfl (PI.or (pi_list (pd_bin (pe_ix ix_any (pd_var 0 (pv 0)) (pd_c pe_int fun _ _ _ => rfl) fun _ _ => rfl) b_ix)) (pi_tup (pd_bin (pe_ix ix_any (pd_var 0 (pv 0)) (pd_c pe_int fun _ _ _ => rfl) fun _ _ => rfl) b_ix))) (BK _ _ (by decide +kernel)) (fun _ _ _ _ _ => (pg_name (i := 3) Sc.nd rfl (Or.inl rfl))) (fun _ _ _ _ _ => pts_nil) (fun _ _ _ _ _ => (pd_call (pe_call (G0.mono (by omega)) hr rfl (T.glo 156) K0 B0 .nil passA (pda_cons (pa_cons (pd_var 3 (pv 3)) (pda_cons (pa_cons (pd_bin (pe_ix ix_any (pd_var 0 (pv 0)) (pd_c pe_int fun _ _ _ => rfl) fun _ _ => rfl) b_ix) (pda_nil pa_nil)))))) runB_len)))) (pds_cons (pss_cons (pst_setLc (own := [4]) i_lst (g_name 4) (by decide) ht_y (ps_setLc (i := 2) (own := [("street", 4)]) rfl Sc.nd rfl rfl rfl (PI.or (pi_list (pd_bin (pe_ix ix_any (pd_var 0 (pv 0)) (pd_c pe_int fun _ _ _ => rfl) fun _ _ => rfl) b_ix)) (pi_tup (pd_bin (pe_ix ix_any (pd_var 0 (pv 0)) (pd_c pe_int fun _ _ _ => rfl) fun _ _ => rfl) b_ix))) (BK _ _ (by decide +kernel)) (fun _ _ _ _ _ => (pg_name (i := 4) Sc.nd rfl (Or.inl rfl))) (fun _ _ _ _ _ => pts_nil) (fun _ _ _ _ _ => (pd_make (c := 7) (T.cls 93) (pe_make (T.mkr 157) (G1.mono (by omega)) hr rfl (T.glo 158) B1 .nil passA (pda_cons (pa_cons (pd_bin (pe_ix ix_any (pd_var 4 (pv 4)) (pd_c pe_int fun _ _ _ => rfl) fun _ _ => rfl) b_ix) (pda_cons (pa_cons (pd_bin (pe_ix ix_any (pd_var 4 (pv 4)) (pd_c pe_int fun _ _ _ => rfl) fun _ _ => rfl) b_ix) (pda_cons (pa_cons (pd_bin (pe_ix ix_any (pd_var 4 (pv 4)) (pd_c pe_int fun _ _ _ => rfl) fun _ _ => rfl) b_ix) (pda_nil pa_nil)))))))) runB_len)))) (pds_cons (pss_cons (pst_ret (ps_ret (pd_make (c := 8) (T.cls 28) (pe_make (T.mkr 117) (G2.mono (by omega)) hr rfl (T.glo 118) B2 .nil passA (pda_cons (pa_cons (pd_var 1 (pv 1)) (pda_cons (pa_cons (pd_t1 call_list_of u_list rfl (T.free 127) bb_list (pd_bin (pe_ix ix_any (pd_var 0 (pv 0)) (pd_c pe_int fun _ _ _ => rfl) fun _ _ => rfl) b_ix)) (pda_cons (pa_cons (pd_var 2 (pv 2)) (pda_nil pa_nil)))))))) runB_len))) (pds_nil pss_nil)))))))
end
theorem sc_law_following : FnScope ["length", "phases", "number", "k"] ["length", "phases", "number"] (defScope (top 120)) := ⟨rfl, rfl, rfl, by decide +kernel, rfl, by decide +kernel, by decide +kernel⟩
section
variable {w : World} {K : PySem.W.Frag} {h : Heap} {mg : Str → Option Value} {base : Heap}
theorem ok_law_following (T : Fx K h mg) : FnI Pg w K mg base 1 (He.ga K "_law_following") ["length", "phases", "number"] (spF K (cfg K) 3 F_law_following) := by
  obtain ⟨fd, F⟩ := T.c.funD 79 (d := d_law_following) rfl
  have Sc := sc_law_following
  refine ⟨fd, fn_ok0 F Sc rfl rfl (by decide) fun cdv A outer s H E hr => ?_, F.bindsN fun _ _ _ _ _ _ us hl => match us, hl with | [_, _, _], _ => rfl, F.kp⟩
  exact (pds_cons (pss_cons (pst_for i_rng2 (g_name 3) (ps_for PassesOwn.never rfl (pi_range2 rfl (T.free 9) (pda_cons (pa_cons (pd_bin (pe_op op_addA (pd_var 2 (pv 2)) (pd_c pe_int fun _ _ _ => rfl)) b_add) (pda_cons (pa_cons (pd_b1 call_len u_len rfl (T.free 3) bb_len (pd_var 1 (pv 1))) (pda_nil pa_nil)))))) (pg_name (i := 3) Sc.nd rfl (Or.inl rfl)) (pds_cons (pss_cons (pst_if (ps_if (pb_val (pt_cmp (pcd (op_eqA hr.units) b_eq (pd_b1 call_len u_len rfl (T.free 3) bb_len (pd_bin (pe_ix ix_any (pd_bin (pe_ix ix_any (pd_var 1 (pv 1)) (pd_var 3 (pv 3)) fun _ _ => rfl) b_ix) (pd_c pe_int fun _ _ _ => rfl) fun _ _ => rfl) b_ix)) (pd_c pe_int fun _ _ _ => rfl)))) (pds_cons (pss_cons (pst_ret (ps_ret (pd_var 3 (pv 3)))) (pds_nil pss_nil))) (pds_nil pss_nil))) (pds_nil pss_nil))))) (pds_cons (pss_cons (pst_ret (ps_ret (pd_c pe_int fun _ _ _ => rfl))) (pds_nil pss_nil)))))
end
theorem sc_law_still : FnScope ["length", "phases", "beat", "rows", "number", "green", "calm", "k", "begins"] ["length", "phases", "beat"] (defScope (top 121)) := ⟨rfl, rfl, rfl, by decide +kernel, rfl, by decide +kernel, by decide +kernel⟩
section
variable {w : World} {K : PySem.W.Frag} {h : Heap} {mg : Str → Option Value} {base : Heap}
theorem ok_law_still (T : Fx K h mg) : FnI Pg w K mg base 2 (He.ga K "_law_still") ["length", "phases", "beat"] (spF K (cfg K) 3 F_law_still) := by
  obtain ⟨fd, F⟩ := T.c.funD 80 (d := d_law_still) rfl
  obtain ⟨fd0, G0, B0, K0⟩ := (ok_law_following (w := w) (base := base) T).ex
  have Sc := sc_law_still
  refine ⟨fd, fn_ok0 F Sc rfl rfl (by decide) fun cdv A outer s H E hr => ?_, F.bindsN fun _ _ _ _ _ _ us hl => match us, hl with | [_, _, _], _ => rfl, F.kp⟩
  exact (pds_cons (pss_cons (pst_set (g_name 3) (ps_set (i := 3) Sc.nd rfl (Or.inl rfl) (pd_lstC (pe_lst (pda_nil pa_nil))))) (pds_cons (pss_cons (pst_set (g_name 4) (ps_set (i := 4) Sc.nd rfl (Or.inl rfl) (pd_c pe_int fun _ _ _ => rfl))) (pds_cons (pss_cons (pst_set (g_name 5) (ps_set (i := 5) Sc.nd rfl (Or.inl rfl) (pd_c pe_int fun _ _ _ => rfl))) (pds_cons (pss_cons (pst_set (g_name 6) (ps_set (i := 6) Sc.nd rfl (Or.inl rfl) (pd_c pe_int fun _ _ _ => rfl))) (pds_cons (pss_cons (pst_for i_rng (g_name 7) (ps_for PassesOwn.never rfl (pi_range1 rfl (T.free 9) (pda_cons (pa_cons (pd_bin (pe_op op_addA (pd_bin (pe_op op_addA (pd_var 2 (pv 2)) (pd_c pe_int fun _ _ _ => rfl)) b_add) (pd_bin (pe_op op_mulA (pd_c pe_int fun _ _ _ => rfl) (pd_var 0 (pv 0))) b_mul)) b_add) (pda_nil pa_nil)))) (pg_name (i := 7) Sc.nd rfl (Or.inl rfl)) (pds_cons (pss_cons (pst_set (g_name 8) (ps_set (i := 8) Sc.nd rfl (Or.inl rfl) (pd_c pe_bl fun _ _ _ => rfl))) (pds_cons (pss_cons (pst_if (ps_if (pb_val (pt_cmp (pcd op_gt b_gt (pd_var 6 (pv 6)) (pd_c pe_int fun _ _ _ => rfl)))) (pds_cons (pss_cons (pst_set (g_name 6) (ps_set (i := 6) Sc.nd rfl (Or.inl rfl) (pd_bin (pe_op op_sub (pd_var 6 (pv 6)) (pd_c pe_int fun _ _ _ => rfl)) b_sub))) (pds_cons (pss_cons (pst_set (g_name 8) (ps_set (i := 8) Sc.nd rfl (Or.inl rfl) (pe_cmp (pcd (op_eqA hr.units) b_eq (pd_var 6 (pv 6)) (pd_c pe_int fun _ _ _ => rfl))))) (pds_nil pss_nil))))) (pds_cons (pss_cons (pst_if (ps_if (PW.pt (pb_and (pw_and (pb_val (pt_cmp (pcd (op_eqA hr.units) b_eq (pd_var 4 (pv 4)) (pd_c pe_int fun _ _ _ => rfl)))) (pw_and1 (PW.pt (pb_or (pw_or (pb_val (pt_cmp (pcd (op_neA hr.units) b_ne (pd_bin (pe_op op_mod (pd_t1 call_int1 u_int1 rfl (T.free 122) bb_int (pd_var 7 (pv 7))) (pd_var 0 (pv 0))) b_mod) (pd_c pe_int fun _ _ _ => rfl)))) (pw_or1 (pb_val (pt_cmp (pcd (op_eqA hr.units) b_eq (pd_call (pe_call (G0.mono (by omega)) hr rfl (T.glo 159) K0 B0 .nil passA (pda_cons (pa_cons (pd_var 0 (pv 0)) (pda_cons (pa_cons (pd_var 1 (pv 1)) (pda_cons (pa_cons (pd_c pe_int fun _ _ _ => rfl) (pda_nil pa_nil)))))))) runB_len) (pd_c pe_int fun _ _ _ => rfl)))))))))))) (pds_cons (pss_cons (pst_set (g_name 5) (ps_set (i := 5) Sc.nd rfl (Or.inl rfl) (pd_c pe_int fun _ _ _ => rfl))) (pds_nil pss_nil))) (pds_cons (pss_cons (pst_if (ps_if (PW.pt (pb_and (pw_and (pb_val (pt_cmp (pcd op_gt b_gt (pd_var 4 (pv 4)) (pd_c pe_int fun _ _ _ => rfl)))) (pw_and1 (pb_val (pt_cmp (pcd op_lt b_lt (pd_var 5 (pv 5)) (pd_bin (pe_ix ix_any (pd_bin (pe_ix ix_any (pd_var 1 (pv 1)) (pd_var 4 (pv 4)) fun _ _ => rfl) b_ix) (pd_c pe_int fun _ _ _ => rfl) fun _ _ => rfl) b_ix)))))))) (pds_cons (pss_cons (pst_set (g_name 5) (ps_set (i := 5) Sc.nd rfl (Or.inl rfl) (pd_bin (pe_op op_addA (pd_var 5 (pv 5)) (pd_c pe_int fun _ _ _ => rfl)) b_add))) (pds_nil pss_nil))) (pds_cons (pss_cons (pst_set (g_name 6) (ps_set (i := 6) Sc.nd rfl (Or.inl rfl) (pd_bin (pe_ix ix_any (pd_bin (pe_ix ix_any (pd_var 1 (pv 1)) (pd_var 4 (pv 4)) fun _ _ => rfl) b_ix) (pd_c pe_int fun _ _ _ => rfl) fun _ _ => rfl) b_ix))) (pds_cons (pss_cons (pst_set (g_name 8) (ps_set (i := 8) Sc.nd rfl (Or.inl rfl) (pe_cmp (pcd (op_eqA hr.units) b_eq (pd_var 6 (pv 6)) (pd_c pe_int fun _ _ _ => rfl))))) (pds_nil pss_nil))))))) (pds_nil pss_nil))))) (pds_nil pss_nil))))) (pds_cons (pss_cons (pst_if (ps_if (pb_truth (pd_var 8 (pv 8))) (pds_cons (pss_cons (pst_set (g_name 4) (ps_set (i := 4) Sc.nd rfl (Or.inl rfl) (pd_call (pe_call (G0.mono (by omega)) hr rfl (T.glo 159) K0 B0 .nil passA (pda_cons (pa_cons (pd_var 0 (pv 0)) (pda_cons (pa_cons (pd_var 1 (pv 1)) (pda_cons (pa_cons (pd_var 4 (pv 4)) (pda_nil pa_nil)))))))) runB_len))) (pds_cons (pss_cons (pst_set (g_name 5) (ps_set (i := 5) Sc.nd rfl (Or.inl rfl) (pd_c pe_int fun _ _ _ => rfl))) (pds_nil pss_nil))))) (pds_nil pss_nil))) (pds_cons (pss_cons (pst_if (ps_if (pb_val (pt_cmp (pcd op_gt b_gt (pd_var 6 (pv 6)) (pd_c pe_int fun _ _ _ => rfl)))) (pds_cons (pss_cons (pst_app (ps_expr (pe_bm PySem.F.plainAttrs_list PySem.F.slot_list_append PySem.F.type_list_append mt_append (pd_var 3 (pv 3)) (pa_cons (pd_tup (pe_tup (pda_cons (pa_cons (pd_var 4 (pv 4)) (pda_cons (pa_cons (pd_bin (pe_op op_sub (pd_c pe_int fun _ _ _ => rfl) (pd_var 6 (pv 6))) b_sub) (pda_nil pa_nil))))))) pa_nil)))) (pds_nil pss_nil))) (pds_cons (pss_cons (pst_app (ps_expr (pe_bm PySem.F.plainAttrs_list PySem.F.slot_list_append PySem.F.type_list_append mt_append (pd_var 3 (pv 3)) (pa_cons (pd_tup (pe_tup (pda_cons (pa_cons (pd_var 4 (pv 4)) (pda_cons (pa_cons (pd_bin (pe_op op_sub (pd_var 5 (pv 5)) (pd_c pe_int fun _ _ _ => rfl)) b_sub) (pda_nil pa_nil))))))) pa_nil)))) (pds_nil pss_nil))))) (pds_nil pss_nil))))))))))) (pds_ghost (pds_cons (pss_cons (pst_ret (ps_ret (pd_var 3 (pv 3)))) (pds_nil pss_nil))))))))))))))
end
theorem sc_law_streams_shown : FnScope ["phases", "pair"] ["phases", "pair"] (defScope (top 122)) := ⟨rfl, rfl, rfl, by decide +kernel, rfl, by decide +kernel, by decide +kernel⟩
section
variable {w : World} {K : PySem.W.Frag} {h : Heap} {mg : Str → Option Value} {base : Heap}
theorem ok_law_streams_shown (T : Fx K h mg) : FnI Pg w K mg base 1 (He.ga K "_law_streams_shown") ["phases", "pair"] (spF K (cfg K) 2 F_law_streams_shown) := by
  obtain ⟨fd, F⟩ := T.c.funD 81 (d := d_law_streams_shown) rfl
  have Sc := sc_law_streams_shown
  refine ⟨fd, fn_ok0 F Sc rfl rfl (by decide) fun cdv A outer s H E hr => ?_, F.bindsN fun _ _ _ _ _ _ us hl => match us, hl with | [_, _], _ => rfl, F.kp⟩
  exact (pds_cons (pss_cons (pst_if (ps_if (pb_val (pt_cmp (pcd op_lt b_lt (pd_bin (pe_ix ix_any (pd_var 1 (pv 1)) (pd_c pe_int fun _ _ _ => rfl) fun _ _ => rfl) b_ix) (pd_c pe_int fun _ _ _ => rfl)))) (pds_cons (pss_cons (pst_ret (ps_ret (pd_tup (pe_tup (pda_nil pa_nil))))) (pds_nil pss_nil))) (pds_nil pss_nil))) (pds_cons (pss_cons (pst_ret (ps_ret (pd_bin (pe_ix ix_any (pd_bin (pe_ix ix_any (pd_var 0 (pv 0)) (pd_bin (pe_ix ix_any (pd_var 1 (pv 1)) (pd_c pe_int fun _ _ _ => rfl) fun _ _ => rfl) b_ix) fun _ _ => rfl) b_ix) (pd_c pe_int fun _ _ _ => rfl) fun _ _ => rfl) b_ix))) (pds_nil pss_nil)))))
end
theorem sc_law_reach : FnScope ["rivals", "stream", "spans", "rival"] ["rivals", "stream"] (defScope (top 123)) := ⟨rfl, rfl, rfl, by decide +kernel, rfl, by decide +kernel, by decide +kernel⟩
section
variable {w : World} {K : PySem.W.Frag} {h : Heap} {mg : Str → Option Value} {base : Heap}
theorem ok_law_reach (T : Fx K h mg) : FnI Pg w K mg base 1 (He.ga K "_law_reach") ["rivals", "stream"] (spF K (cfg K) 2 F_law_reach) := by
  obtain ⟨fd, F⟩ := T.c.funD 82 (d := d_law_reach) rfl
  have Sc := sc_law_reach
  have BK : ∀ (scope : Scope) (own : List (Str × Nat)), blkC ["rivals", "stream", "spans", "rival"] (defScope (top 123)) scope own = true → BlkOk ["rivals", "stream", "spans", "rival"] (defScope (top 123)) scope own := fun _ _ h => blkOk_by h
  refine ⟨fd, fn_ok0 F Sc rfl rfl (by decide) fun cdv A outer s H E hr => ?_, F.bindsN fun _ _ _ _ _ _ us hl => match us, hl with | [_, _], _ => rfl, F.kp⟩
  exact (pds_cons (pss_cons (pst_set (g_name 2) (ps_set (i := 2) Sc.nd rfl (Or.inl rfl) (pd_bin (pe_op op_addA (pd_lc (own := [3]) i_lst (g_name 3) (by decide) ht_t (pe_lc (own := [("rival", 3)]) rfl Sc.nd (PI.or (pi_list (pd_var 0 (pv 0))) (pi_tup (pd_var 0 (pv 0)))) (BK _ _ (by decide +kernel)) (fun _ _ _ _ _ => (pg_name (i := 3) Sc.nd rfl (Or.inl rfl))) (fun _ _ _ _ _ => (pts_one (pb_val (pt_cmp (pcd (op_eqA hr.units) b_eq (pd_bin (pe_ix ix_any (pd_var 3 (pv 3)) (pd_c pe_int fun _ _ _ => rfl) fun _ _ => rfl) b_ix) (pd_var 1 (pv 1))))))) (fun _ _ _ _ _ => (pd_bin (pe_ix ix_any (pd_var 3 (pv 3)) (pd_c pe_int fun _ _ _ => rfl) fun _ _ => rfl) b_ix)))) (pd_lc (own := [3]) i_lst (g_name 3) (by decide) ht_t (pe_lc (own := [("rival", 3)]) rfl Sc.nd (PI.or (pi_list (pd_var 0 (pv 0))) (pi_tup (pd_var 0 (pv 0)))) (BK _ _ (by decide +kernel)) (fun _ _ _ _ _ => (pg_name (i := 3) Sc.nd rfl (Or.inl rfl))) (fun _ _ _ _ _ => (pts_one (pb_val (pt_cmp (pcd (op_eqA hr.units) b_eq (pd_bin (pe_ix ix_any (pd_var 3 (pv 3)) (pd_c pe_int fun _ _ _ => rfl) fun _ _ => rfl) b_ix) (pd_var 1 (pv 1))))))) (fun _ _ _ _ _ => (pd_bin (pe_ix ix_any (pd_var 3 (pv 3)) (pd_c pe_int fun _ _ _ => rfl) fun _ _ => rfl) b_ix))))) b_add))) (pds_cons (pss_cons (pst_ret (ps_ret (pd_b1 (cr_max rfl) u_max rfl (T.free 52) bb_max (pd_bin (pe_op op_addA (pd_lst (pe_lst (pda_cons (pa_cons (pd_c pe_int fun _ _ _ => rfl) (pda_nil pa_nil))))) (pd_var 2 (pv 2))) b_add)))) (pds_nil pss_nil)))))
end
theorem sc_law_since : FnScope ["rivals", "phases", "rows", "stream", "longest", "gap"] ["rivals", "phases", "rows", "stream"] (defScope (top 124)) := ⟨rfl, rfl, rfl, by decide +kernel, rfl, by decide +kernel, by decide +kernel⟩
section
variable {w : World} {K : PySem.W.Frag} {h : Heap} {mg : Str → Option Value} {base : Heap}
theorem ok_law_since (T : Fx K h mg) : FnI Pg w K mg base 2 (He.ga K "_law_since") ["rivals", "phases", "rows", "stream"] (spF K (cfg K) 4 F_law_since) := by
  obtain ⟨fd, F⟩ := T.c.funD 83 (d := d_law_since) rfl
  obtain ⟨fd0, G0, B0, K0⟩ := (ok_law_reach (w := w) (base := base) T).ex
  obtain ⟨fd1, G1, B1, K1⟩ := (ok_law_streams_shown (w := w) (base := base) T).ex
  have Sc := sc_law_since
  refine ⟨fd, fn_ok0 F Sc rfl rfl (by decide) fun cdv A outer s H E hr => ?_, F.bindsN fun _ _ _ _ _ _ us hl => match us, hl with | [_, _, _, _], _ => rfl, F.kp⟩
  exact (pds_cons (pss_cons (pst_set (g_name 4) (ps_set (i := 4) Sc.nd rfl (Or.inl rfl) (pd_call (pe_call (G0.mono (by omega)) hr rfl (T.glo 160) K0 B0 .nil passA (pda_cons (pa_cons (pd_var 0 (pv 0)) (pda_cons (pa_cons (pd_var 3 (pv 3)) (pda_nil pa_nil)))))) runB_len))) (pds_cons (pss_cons (pst_for i_rng (g_name 5) (ps_for PassesOwn.never rfl (pi_range1 rfl (T.free 9) (pda_cons (pa_cons (pd_var 4 (pv 4)) (pda_nil pa_nil)))) (pg_name (i := 5) Sc.nd rfl (Or.inl rfl)) (pds_cons (pss_cons (pst_if (ps_if (pb_val (pt_cmp (pcd op_inA b_in (pd_var 3 (pv 3)) (pd_call (pe_call (G1.mono (by omega)) hr rfl (T.glo 161) K1 B1 .nil passA (pda_cons (pa_cons (pd_var 1 (pv 1)) (pda_cons (pa_cons (pd_bin (pe_ix ix_any (pd_var 2 (pv 2)) (pd_bin (pe_op op_sub (pd_bin (pe_op op_sub (pd_b1 call_len u_len rfl (T.free 3) bb_len (pd_var 2 (pv 2))) (pd_c pe_int fun _ _ _ => rfl)) b_sub) (pd_var 5 (pv 5))) b_sub) fun _ _ => rfl) b_ix) (pda_nil pa_nil)))))) runB_len)))) (pds_cons (pss_cons (pst_ret (ps_ret (pd_var 5 (pv 5)))) (pds_nil pss_nil))) (pds_nil pss_nil))) (pds_nil pss_nil))))) (pds_cons (pss_cons (pst_ret (ps_ret (pd_var 4 (pv 4)))) (pds_nil pss_nil)))))))
end
theorem sc_law_begin : FnScope ["town", "lights", "since", "credits", "k", "zeros", "absent", "roads", "state", "site", "rows", "s", "lane", "street"] ["town"] (defScope (top 125)) := ⟨rfl, rfl, rfl, by decide +kernel, rfl, by decide +kernel, by decide +kernel⟩
section
variable {w : World} {K : PySem.W.Frag} {h : Heap} {mg : Str → Option Value} {base : Heap}
theorem ok_law_begin (T : Fx K h mg) : FnI Pg w K mg base 3 (He.ga K "_law_begin") ["town"] (spF K (cfg K) 1 F_law_begin) := by
  obtain ⟨fd, F⟩ := T.c.funD 84 (d := d_law_begin) rfl
  obtain ⟨fd0, G0, B0, K0⟩ := (ok_law_still (w := w) (base := base) T).ex
  obtain ⟨fd1, G1, B1, K1⟩ := (ok_law_since (w := w) (base := base) T).ex
  have Sc := sc_law_begin
  have BK : ∀ (scope : Scope) (own : List (Str × Nat)), blkC ["town", "lights", "since", "credits", "k", "zeros", "absent", "roads", "state", "site", "rows", "s", "lane", "street"] (defScope (top 125)) scope own = true → BlkOk ["town", "lights", "since", "credits", "k", "zeros", "absent", "roads", "state", "site", "rows", "s", "lane", "street"] (defScope (top 125)) scope own := fun _ _ h => blkOk_by h
  have BK2 : ∀ (sc : Scope) (cl : List (Str × Addr)) (C : Addr) (env : PySem.Env) (scope : Scope) (own : List (Str × Nat)), (∀ x ∈ sc.names, x.2 ≠ NameKind.free) → blkC ["town", "lights", "since", "credits", "k", "zeros", "absent", "roads", "state", "site", "rows", "s", "lane", "street"] sc scope own = true → BlkOk ["town", "lights", "since", "credits", "k", "zeros", "absent", "roads", "state", "site", "rows", "s", "lane", "street"] (compEnvC sc cl C env).scope scope own := fun _ _ _ _ _ _ h0 h => bk_blk h0 h
  refine ⟨fd, fn_ok0 F Sc rfl rfl (by decide) fun cdv A outer s H E hr => ?_, F.bindsN fun _ _ _ _ _ _ us hl => match us, hl with | [_], _ => rfl, F.kp⟩
  exact (pds_cons (pss_cons (pst_set (g_name 1) (ps_set (i := 1) Sc.nd rfl (Or.inl rfl) (pd_lstC (pe_lst (pda_nil pa_nil))))) (pds_cons (pss_cons (pst_set (g_name 2) (ps_set (i := 2) Sc.nd rfl (Or.inl rfl) (pd_lstC (pe_lst (pda_nil pa_nil))))) (pds_cons (pss_cons (pst_set (g_name 3) (ps_set (i := 3) Sc.nd rfl (Or.inl rfl) (pd_lstC (pe_lst (pda_nil pa_nil))))) (pds_cons (pss_cons (pst_for i_rng (g_name 4) (ps_for PassesOwn.never rfl (pi_range1 rfl (T.free 9) (pda_cons (pa_cons (pd_b1 call_len u_len rfl (T.free 3) bb_len (pd_bin (pe_ix ix_any (pd_var 0 (pv 0)) (pd_c pe_int fun _ _ _ => rfl) fun _ _ => rfl) b_ix)) (pda_nil pa_nil)))) (pg_name (i := 4) Sc.nd rfl (Or.inl rfl)) (pds_cons (pss_cons (pst_set (g_name 9) (ps_set (i := 9) Sc.nd rfl (Or.inl rfl) (pd_bin (pe_ix ix_any (pd_bin (pe_ix ix_any (pd_var 0 (pv 0)) (pd_c pe_int fun _ _ _ => rfl) fun _ _ => rfl) b_ix) (pd_var 4 (pv 4)) fun _ _ => rfl) b_ix))) (pds_cons (pss_cons (pst_set (g_name 10) (ps_set (i := 10) Sc.nd rfl (Or.inl rfl) (pd_call (pe_call (G0.mono (by omega)) hr rfl (T.glo 162) K0 B0 .nil passA (pda_cons (pa_cons (pd_bin (pe_ix ix_any (pd_var 0 (pv 0)) (pd_c pe_int fun _ _ _ => rfl) fun _ _ => rfl) b_ix) (pda_cons (pa_cons (pd_bin (pe_ix ix_any (pd_var 9 (pv 9)) (pd_c pe_int fun _ _ _ => rfl) fun _ _ => rfl) b_ix) (pda_cons (pa_cons (pd_bin (pe_op op_mod (pd_t1 call_int1 u_int1 rfl (T.free 122) bb_int (pd_bin (pe_op op_sub (pd_c pe_int fun _ _ _ => rfl) (pd_bin (pe_ix ix_any (pd_bin (pe_ix ix_any (pd_var 0 (pv 0)) (pd_c pe_int fun _ _ _ => rfl) fun _ _ => rfl) b_ix) (pd_var 4 (pv 4)) fun _ _ => rfl) b_ix)) b_sub)) (pd_bin (pe_ix ix_any (pd_var 0 (pv 0)) (pd_c pe_int fun _ _ _ => rfl) fun _ _ => rfl) b_ix)) b_mod) (pda_nil pa_nil)))))))) runB_len))) (pds_cons (pss_cons (pst_app (ps_expr (pe_bm PySem.F.plainAttrs_list PySem.F.slot_list_append PySem.F.type_list_append mt_append (pd_var 1 (pv 1)) (pa_cons (pd_bin (pe_ix ix_any (pd_var 10 (pv 10)) (pd_bin (pe_op op_sub (pd_b1 call_len u_len rfl (T.free 3) bb_len (pd_var 10 (pv 10))) (pd_c pe_int fun _ _ _ => rfl)) b_sub) fun _ _ => rfl) b_ix) pa_nil)))) (pds_cons (pss_cons (pst_for i_rng (g_name 11) (ps_for PassesOwn.never rfl (pi_range1 rfl (T.free 9) (pda_cons (pa_cons (pd_b1 call_len u_len rfl (T.free 3) bb_len (pd_bin (pe_ix ix_any (pd_var 9 (pv 9)) (pd_c pe_int fun _ _ _ => rfl) fun _ _ => rfl) b_ix)) (pda_nil pa_nil)))) (pg_name (i := 11) Sc.nd rfl (Or.inl rfl)) (pds_cons (pss_cons (pst_set (g_name 12) (ps_set (i := 12) Sc.nd rfl (Or.inl rfl) (pd_bin (pe_ix ix_any (pd_bin (pe_ix ix_any (pd_var 9 (pv 9)) (pd_c pe_int fun _ _ _ => rfl) fun _ _ => rfl) b_ix) (pd_var 11 (pv 11)) fun _ _ => rfl) b_ix))) (pds_cons (pss_cons (pst_app (ps_expr (pe_bm PySem.F.plainAttrs_list PySem.F.slot_list_append PySem.F.type_list_append mt_append (pd_var 2 (pv 2)) (pa_cons (pd_call (pe_call (G1.mono (by omega)) hr rfl (T.glo 163) K1 B1 .nil passA (pda_cons (pa_cons (pd_bin (pe_ix ix_any (pd_var 9 (pv 9)) (pd_c pe_int fun _ _ _ => rfl) fun _ _ => rfl) b_ix) (pda_cons (pa_cons (pd_bin (pe_ix ix_any (pd_var 9 (pv 9)) (pd_c pe_int fun _ _ _ => rfl) fun _ _ => rfl) b_ix) (pda_cons (pa_cons (pd_var 10 (pv 10)) (pda_cons (pa_cons (pd_var 11 (pv 11)) (pda_nil pa_nil)))))))))) runB_len) pa_nil)))) (pds_cons (pss_cons (pst_if (ps_if (PW.pt (pb_and (pw_and (pb_val (pt_cmp (pcd (op_eqA hr.units) b_eq (pd_bin (pe_ix ix_any (pd_var 12 (pv 12)) (pd_c pe_int fun _ _ _ => rfl) fun _ _ => rfl) b_ix) (pd_c pe_str fun _ _ _ => rfl)))) (pw_and1 (pb_val (pt_cmp (pcd op_notN b_isn (pd_bin (pe_ix ix_any (pd_var 12 (pv 12)) (pd_c pe_int fun _ _ _ => rfl) fun _ _ => rfl) b_ix) (pd_c pe_non fun _ _ _ => rfl)))))))) (pds_cons (pss_cons (pst_app (ps_expr (pe_bm PySem.F.plainAttrs_list PySem.F.slot_list_append PySem.F.type_list_append mt_append (pd_var 3 (pv 3)) (pa_cons (pd_bin (pe_op op_sub (pd_bin (pe_op op_addA (pd_bin (pe_op op_mulA (pd_bin (pe_ix ix_any (pd_bin (pe_ix ix_any (pd_var 12 (pv 12)) (pd_c pe_int fun _ _ _ => rfl) fun _ _ => rfl) b_ix) (pd_c pe_int fun _ _ _ => rfl) fun _ _ => rfl) b_ix) (pd_bin (pe_ix ix_any (pd_bin (pe_ix ix_any (pd_var 12 (pv 12)) (pd_c pe_int fun _ _ _ => rfl) fun _ _ => rfl) b_ix) (pd_c pe_int fun _ _ _ => rfl) fun _ _ => rfl) b_ix)) b_mul) (pd_bin (pe_ix ix_any (pd_bin (pe_ix ix_any (pd_var 12 (pv 12)) (pd_c pe_int fun _ _ _ => rfl) fun _ _ => rfl) b_ix) (pd_c pe_int fun _ _ _ => rfl) fun _ _ => rfl) b_ix)) b_add) (pd_c pe_int fun _ _ _ => rfl)) b_sub) pa_nil)))) (pds_nil pss_nil))) (pds_cons (pss_cons (pst_app (ps_expr (pe_bm PySem.F.plainAttrs_list PySem.F.slot_list_append PySem.F.type_list_append mt_append (pd_var 3 (pv 3)) (pa_cons (pd_c pe_int fun _ _ _ => rfl) pa_nil)))) (pds_nil pss_nil))))) (pds_nil pss_nil))))))))) (pds_nil pss_nil))))))))))) (pds_ghost (pds_ghost (pds_ghost (pds_cons (pss_cons (pst_setLc (own := [12]) i_lst (g_name 12) (by decide) ht_y (ps_setLc (i := 5) (own := [("lane", 12)]) rfl Sc.nd rfl rfl rfl (PI.or (pi_list (pd_var 2 (pv 2))) (pi_tup (pd_var 2 (pv 2)))) (BK _ _ (by decide +kernel)) (fun _ _ _ _ _ => (pg_name (i := 12) Sc.nd rfl (Or.inl rfl))) (fun _ _ _ _ _ => pts_nil) (fun _ _ _ _ _ => (pd_c pe_int fun _ _ _ => rfl)))) (pds_cons (pss_cons (pst_setLc (own := [12]) i_lst (g_name 12) (by decide) ht_y (ps_setLc (i := 6) (own := [("lane", 12)]) rfl Sc.nd rfl rfl rfl (PI.or (pi_list (pd_var 2 (pv 2))) (pi_tup (pd_var 2 (pv 2)))) (BK _ _ (by decide +kernel)) (fun _ _ _ _ _ => (pg_name (i := 12) Sc.nd rfl (Or.inl rfl))) (fun _ _ _ _ _ => pts_nil) (fun _ _ _ _ _ => (pd_un (pe_un un_neg (pd_c pe_int fun _ _ _ => rfl)) u_neg)))) (pds_cons (pss_cons (pst_setLc (own := [13]) i_lst (g_name 13) (by decide) ht_y (ps_setLc (i := 7) (own := [("street", 13)]) rfl Sc.nd rfl rfl rfl (PI.or (pi_list (pd_bin (pe_ix ix_any (pd_var 0 (pv 0)) (pd_c pe_int fun _ _ _ => rfl) fun _ _ => rfl) b_ix)) (pi_tup (pd_bin (pe_ix ix_any (pd_var 0 (pv 0)) (pd_c pe_int fun _ _ _ => rfl) fun _ _ => rfl) b_ix))) (BK _ _ (by decide +kernel)) (fun _ _ _ _ _ => (pg_name (i := 13) Sc.nd rfl (Or.inl rfl))) (fun _ _ _ _ _ => pts_nil) (fun _ _ _ _ _ => (pd_t1 call_tuple_of u_tuple rfl (T.free 31) bb_tuple (pd_lc (own := [4]) i_rng (g_name 4) (by decide) ht_y (pe_lc (own := [("k", 4)]) rfl Sc.nd (pi_range1 rfl (T.free 9) (pda_cons (pa_cons (pd_bin (pe_ix ix_any (pd_var 13 (pv 13)) (pd_c pe_int fun _ _ _ => rfl) fun _ _ => rfl) b_ix) (pda_nil pa_nil)))) (BK2 _ _ _ _ _ _ (by decide) (by decide +kernel)) (fun _ _ _ _ _ => (pg_name (i := 4) Sc.nd rfl (Or.inl rfl))) (fun _ _ _ _ _ => pts_nil) (fun _ _ _ _ _ => (pd_c pe_int fun _ _ _ => rfl)))))))) (pds_cons (pss_cons (pst_set (g_name 8) (ps_set (i := 8) Sc.nd rfl (Or.inl rfl) (pd_tup (pe_tup (pda_cons (pa_cons (pd_c pe_int fun _ _ _ => rfl) (pda_cons (pa_cons (pd_t1 call_tuple_of u_tuple rfl (T.free 31) bb_tuple (pd_var 1 (pv 1))) (pda_cons (pa_cons (pd_t1 call_tuple_of u_tuple rfl (T.free 31) bb_tuple (pd_var 2 (pv 2))) (pda_cons (pa_cons (pd_t1 call_tuple_of u_tuple rfl (T.free 31) bb_tuple (pd_var 5 (pv 5))) (pda_cons (pa_cons (pd_t1 call_tuple_of u_tuple rfl (T.free 31) bb_tuple (pd_var 6 (pv 6))) (pda_cons (pa_cons (pd_t1 call_tuple_of u_tuple rfl (T.free 31) bb_tuple (pd_var 5 (pv 5))) (pda_cons (pa_cons (pd_t1 call_tuple_of u_tuple rfl (T.free 31) bb_tuple (pd_var 3 (pv 3))) (pda_nil pa_nil))))))))))))))))))) (pds_cons (pss_cons (pst_ret (ps_ret (pd_bin (pe_op op_addA (pd_var 8 (pv 8)) (pd_tup (pe_tup (pda_cons (pa_cons (pd_t1 call_tuple_of u_tuple rfl (T.free 31) bb_tuple (pd_var 7 (pv 7))) (pda_nil pa_nil)))))) b_add))) (pds_nil pss_nil))))))))))))))))))))))
end
theorem sc_law_quiet_agrees : FnScope ["made", "town", "due", "k", "beat", "rows"] ["made", "town", "due"] (defScope (top 126)) := ⟨rfl, rfl, rfl, by decide +kernel, rfl, by decide +kernel, by decide +kernel⟩
section
variable {w : World} {K : PySem.W.Frag} {h : Heap} {mg : Str → Option Value} {base : Heap}
theorem ok_law_quiet_agrees (T : Fx K h mg) : FnI Pg w K mg base 8 (He.ga K "_law_quiet_agrees") ["made", "town", "due"] (spF K (cfg K) 3 F_law_quiet_agrees) := by
  obtain ⟨fd, F⟩ := T.c.funD 85 (d := d_law_quiet_agrees) rfl
  obtain ⟨fd0, G0, B0, K0⟩ := (ok_quiet (w := w) (base := base) T).ex
  obtain ⟨fd1, G1, B1, K1⟩ := (ok_law_same (w := w) (base := base) 5 T).ex
  have Sc := sc_law_quiet_agrees
  refine ⟨fd, fn_ok0 F Sc rfl rfl (by decide) fun cdv A outer s H E hr => ?_, F.bindsN fun _ _ _ _ _ _ us hl => match us, hl with | [_, _, _], _ => rfl, F.kp⟩
  exact (pds_cons (pss_cons (pst_for i_rng (g_name 3) (ps_for PassesOwn.never rfl (pi_range1 rfl (T.free 9) (pda_cons (pa_cons (pd_b1 call_len u_len rfl (T.free 3) bb_len (pd_bin (pe_ix ix_any (pd_var 1 (pv 1)) (pd_c pe_int fun _ _ _ => rfl) fun _ _ => rfl) b_ix)) (pda_nil pa_nil)))) (pg_name (i := 3) Sc.nd rfl (Or.inl rfl)) (pds_cons (pss_cons (pst_set (g_name 4) (ps_set (i := 4) Sc.nd rfl (Or.inl rfl) (pd_bin (pe_op op_mod (pd_t1 call_int1 u_int1 rfl (T.free 122) bb_int (pd_bin (pe_op op_sub (pd_c pe_int fun _ _ _ => rfl) (pd_bin (pe_ix ix_any (pd_bin (pe_ix ix_any (pd_var 1 (pv 1)) (pd_c pe_int fun _ _ _ => rfl) fun _ _ => rfl) b_ix) (pd_var 3 (pv 3)) fun _ _ => rfl) b_ix)) b_sub)) (pd_bin (pe_ix ix_any (pd_var 1 (pv 1)) (pd_c pe_int fun _ _ _ => rfl) fun _ _ => rfl) b_ix)) b_mod))) (pds_cons (pss_cons (pst_set (g_name 5) (ps_set (i := 5) Sc.nd rfl (Or.inl rfl) (pd_call (pe_call (G0.mono (by omega)) hr rfl (T.glo 25) K0 B0 .nil passA (pda_cons (pa_cons (pd_fld (fl := 23) (pe_fld (pd_bin (pe_ix ix_any (pd_fld (fl := 28) (pe_fld (pd_var 0 (pv 0)) rfl)) (pd_var 3 (pv 3)) fun _ _ => rfl) b_ix) rfl)) (pda_nil pa_nil)))) runB_len))) (pds_cons (pss_cons (pst_if (ps_if (PW.pt (pb_or (pw_or (pb_not (pt_not (pb_truth (pd_isty (.inr (.inr (.inr (.inr rfl)))) (pe_callB call_isi rfl (T.free 123) bb_isinstance (pa_cons (pd_var 5 (pv 5)) (pa_cons (pe_ty rfl (T.free 127) bb_list) pa_nil))))))) (pw_or1 (pb_val (pt_cmp (pcd (op_neA hr.units) b_ne (pd_b1 call_len u_len rfl (T.free 3) bb_len (pd_var 5 (pv 5))) (pd_bin (pe_ix ix_any (pd_var 1 (pv 1)) (pd_c pe_int fun _ _ _ => rfl) fun _ _ => rfl) b_ix)))))))) (pds_cons (pss_cons (pst_ret (ps_ret (pd_c pe_bl fun _ _ _ => rfl))) (pds_nil pss_nil))) (pds_nil pss_nil))) (pds_cons (pss_cons (pst_if (ps_if (pb_not (pt_not (pb_truth (pd_call (pe_call (G1.mono (by omega)) hr rfl (T.glo 128) K1 B1 .nil passA (pda_cons (pa_cons (pd_bin (pe_ix ix_any (pd_var 5 (pv 5)) (pd_var 4 (pv 4)) fun _ _ => rfl) b_ix) (pda_cons (pa_cons (pd_bin (pe_op op_addA (pd_tup (pe_tup (pda_cons (pa_cons (pd_var 4 (pv 4)) (pda_nil pa_nil))))) (pd_bin (pe_ix ix_any (pd_bin (pe_ix ix_any (pd_var 2 (pv 2)) (pd_c pe_int fun _ _ _ => rfl) fun _ _ => rfl) b_ix) (pd_var 3 (pv 3)) fun _ _ => rfl) b_ix)) b_add) (pda_nil pa_nil)))))) (runBR_len _))))) (pds_cons (pss_cons (pst_ret (ps_ret (pd_c pe_bl fun _ _ _ => rfl))) (pds_nil pss_nil))) (pds_nil pss_nil))) (pds_nil pss_nil))))))))))) (pds_cons (pss_cons (pst_ret (ps_ret (pd_c pe_bl fun _ _ _ => rfl))) (pds_nil pss_nil)))))
end
theorem sc_law : FnScope ["script", "town", "made", "due", "move", "moved", "x"] ["script"] (defScope (top 127)) := ⟨rfl, rfl, rfl, by decide +kernel, rfl, by decide +kernel, by decide +kernel⟩
section
variable {w : World} {K : PySem.W.Frag} {h : Heap} {mg : Str → Option Value} {base : Heap}
theorem ok_law_of (T : Fx K h mg) {fd : FuncData} (F : FunD K d_law.name d_law.qual d_law.params d_law.body d_law.scope (d_law.dvs K) [] (d_law.adr K) fd) : FnOk Pg w K mg base CX0 11 (He.ga K "law") fd ["script"] (spF K (cfg K) 1 F_law) := by
  obtain ⟨fd0, G0, B0, K0⟩ := (ok_law_town (w := w) (base := base) T).ex
  obtain ⟨fd1, G1, B1, K1⟩ := (ok_law_hand (w := w) (base := base) T).ex
  obtain ⟨fd2, G2, B2, K2⟩ := (ok_law_make_town (w := w) (base := base) T).ex
  obtain ⟨fd3, G3, B3, K3⟩ := (ok_law_begin (w := w) (base := base) T).ex
  obtain ⟨fd4, G4, B4, K4⟩ := (ok_law_same (w := w) (base := base) 5 T).ex
  obtain ⟨fd5, G5, B5, K5⟩ := (ok_first_state (w := w) (base := base) T).ex
  obtain ⟨fd6, G6, B6, K6⟩ := (ok_law_quiet_agrees (w := w) (base := base) T).ex
  obtain ⟨fd7, G7, B7, K7⟩ := (ok_law_take (w := w) (base := base) T).ex
  obtain ⟨fd8, G8, B8, K8⟩ := (ok_Town_turned (w := w) (base := base) T).ex
  have Sc := sc_law
  have BK : ∀ (scope : Scope) (own : List (Str × Nat)), blkC ["script", "town", "made", "due", "move", "moved", "x"] (defScope (top 127)) scope own = true → BlkOk ["script", "town", "made", "due", "move", "moved", "x"] (defScope (top 127)) scope own := fun _ _ h => blkOk_by h
  refine fn_ok0 F Sc rfl rfl (by decide) fun cdv A outer s H E hr => ?_
  exact (pds_cons (pss_cons (pst_set (g_name 1) (ps_set (i := 1) Sc.nd rfl (Or.inr rfl) (pd_call (pe_call (G0.mono (by omega)) hr rfl (T.glo 165) K0 B0 .nil passA (pda_cons (pa_cons (pd_call (pe_call (G1.mono (by omega)) hr rfl (T.glo 164) K1 B1 .nil passA (pda_cons (pa_cons (pd_var 0 (pv 0)) (pda_cons (pa_cons (pd_c pe_int fun _ _ _ => rfl) (pda_nil pa_nil)))))) runC_len) (pda_nil pa_nil)))) runB_len))) (pds_cons (pss_cons (pst_set (g_name 2) (ps_set (i := 2) Sc.nd rfl (Or.inl rfl) (pd_call (pe_call (G2.mono (by omega)) hr rfl (T.glo 166) K2 B2 .nil passA (pda_cons (pa_cons (pd_var 1 (pv 1)) (pda_nil pa_nil)))) runB_len))) (pds_cons (pss_cons (pst_set (g_name 3) (ps_set (i := 3) Sc.nd rfl (Or.inl rfl) (pd_call (pe_call (G3.mono (by omega)) hr rfl (T.glo 167) K3 B3 .nil passA (pda_cons (pa_cons (pd_var 1 (pv 1)) (pda_nil pa_nil)))) runB_len))) (pds_cons (pss_cons (pst_if (ps_if (PW.pt (pb_or (pw_or (pb_not (pt_not (pb_truth (pd_call (pe_call (G4.mono (by omega)) hr rfl (T.glo 128) K4 B4 .nil passA (pda_cons (pa_cons (pd_call (pe_call (G5.mono (by omega)) hr rfl (T.glo 168) K5 B5 .nil passA (pda_cons (pa_cons (pd_var 2 (pv 2)) (pda_nil pa_nil)))) runB_len) (pda_cons (pa_cons (pd_var 3 (pv 3)) (pda_nil pa_nil)))))) (runBR_len _))))) (pw_or1 (pb_not (pt_not (pb_truth (pd_call (pe_call (G6.mono (by omega)) hr rfl (T.glo 169) K6 B6 .nil passA (pda_cons (pa_cons (pd_var 2 (pv 2)) (pda_cons (pa_cons (pd_var 1 (pv 1)) (pda_cons (pa_cons (pd_var 3 (pv 3)) (pda_nil pa_nil)))))))) runB_len)))))))) (pds_cons (pss_cons (pst_ret (ps_ret (pd_c pe_bl fun _ _ _ => rfl))) (pds_nil pss_nil))) (pds_nil pss_nil))) (pds_cons (pss_cons (pst_set (g_name 4) (ps_set (i := 4) Sc.nd rfl (Or.inr rfl) (pd_bin (pe_op op_sub (pd_call (pe_call (G7.mono (by omega)) hr rfl (T.glo 129) K7 B7 .nil passA (pda_cons (pa_cons (pd_call (pe_call (G1.mono (by omega)) hr rfl (T.glo 164) K1 B1 .nil passA (pda_cons (pa_cons (pd_var 0 (pv 0)) (pda_cons (pa_cons (pd_c pe_int fun _ _ _ => rfl) (pda_nil pa_nil)))))) runC_len) (pda_cons (pa_cons (pd_c pe_int fun _ _ _ => rfl) (pda_nil pa_nil)))))) runB_len) (pd_c pe_int fun _ _ _ => rfl)) b_sub))) (pds_cons (pss_cons (pst_set (g_name 5) (ps_set (i := 5) Sc.nd rfl (Or.inl rfl) (pd_tup (pe_tup (pda_cons (pa_cons (pd_bin (pe_ix ix_any (pd_var 1 (pv 1)) (pd_c pe_int fun _ _ _ => rfl) fun _ _ => rfl) b_ix) (pda_cons (pa_cons (pd_bin (pe_ix ix_any (pd_var 1 (pv 1)) (pd_c pe_int fun _ _ _ => rfl) fun _ _ => rfl) b_ix) (pda_cons (pa_cons (pd_lc (own := [6]) i_lst (g_name 6) (by decide) ht_y (pe_lc (own := [("x", 6)]) rfl Sc.nd (PI.or (pi_list (pd_bin (pe_ix ix_any (pd_var 1 (pv 1)) (pd_c pe_int fun _ _ _ => rfl) fun _ _ => rfl) b_ix)) (pi_tup (pd_bin (pe_ix ix_any (pd_var 1 (pv 1)) (pd_c pe_int fun _ _ _ => rfl) fun _ _ => rfl) b_ix))) (BK _ _ (by decide +kernel)) (fun _ _ _ _ _ => (pg_name (i := 6) Sc.nd rfl (Or.inl rfl))) (fun _ _ _ _ _ => pts_nil) (fun _ _ _ _ _ => (pd_bin (pe_op op_mod (pd_t1 call_int1 u_int1 rfl (T.free 122) bb_int (pd_bin (pe_op op_addA (pd_var 6 (pv 6)) (pd_var 4 (pv 4))) b_add)) (pd_bin (pe_ix ix_any (pd_var 1 (pv 1)) (pd_c pe_int fun _ _ _ => rfl) fun _ _ => rfl) b_ix)) b_mod)))) (pda_cons (pa_cons (pd_bin (pe_ix ix_any (pd_var 1 (pv 1)) (pd_c pe_int fun _ _ _ => rfl) fun _ _ => rfl) b_ix) (pda_nil pa_nil))))))))))))) (pds_cons (pss_cons (pst_if (ps_if (pb_not (pt_not (pb_truth (pd_call (pe_call (G4.mono (by omega)) hr rfl (T.glo 128) K4 B4 .nil passA (pda_cons (pa_cons (pd_call (pe_call (G5.mono (by omega)) hr rfl (T.glo 168) K5 B5 .nil passA (pda_cons (pa_cons (pd_meth (c := 8) T.nofld_turned (pe_meth (pd_var 2 (pv 2)) (T.cls 28) (T.meth 170) (G8.mono (by omega)) hr B8 .nil passA (pda_cons (pa_cons (pd_var 4 (pv 4)) (pda_nil pa_nil)))) runB_len) (pda_nil pa_nil)))) runB_len) (pda_cons (pa_cons (pd_call (pe_call (G3.mono (by omega)) hr rfl (T.glo 167) K3 B3 .nil passA (pda_cons (pa_cons (pd_var 5 (pv 5)) (pda_nil pa_nil)))) runB_len) (pda_nil pa_nil)))))) (runBR_len _))))) (pds_cons (pss_cons (pst_ret (ps_ret (pd_c pe_bl fun _ _ _ => rfl))) (pds_nil pss_nil))) (pds_nil pss_nil))) (pds_cons (pss_cons (pst_ret (ps_ret (pd_call (pe_call (G4.mono (by omega)) hr rfl (T.glo 128) K4 B4 .nil passA (pda_cons (pa_cons (pd_call (pe_call (G5.mono (by omega)) hr rfl (T.glo 168) K5 B5 .nil passA (pda_cons (pa_cons (pd_var 2 (pv 2)) (pda_nil pa_nil)))) runB_len) (pda_cons (pa_cons (pd_var 3 (pv 3)) (pda_nil pa_nil)))))) (runBR_len _)))) (pds_nil pss_nil)))))))))))))))))
theorem law_fd (T : Fx K h mg) : ∃ fd, FunD K d_law.name d_law.qual d_law.params d_law.body d_law.scope (d_law.dvs K) [] (d_law.adr K) fd ∧ ∀ (s : Shared) (v : Value), BindsTo s fd ⟨[v], []⟩ [("script", v)] := by
  obtain ⟨fd, F⟩ := T.c.funD 86 (d := d_law) rfl
  have b := FunD.bindsA (ps := ["script"]) F fun _ _ _ _ _ _ us hl => match us, hl with | [_], _ => rfl
  exact ⟨fd, F, fun s v => b s [v] rfl⟩
end
end K63
end
section
set_option Elab.async false
set_option linter.all false
set_option maxRecDepth 100000
set_option maxHeartbeats 0
namespace K63
open PySem PySem.Spec PyProof.Rows L2 CL
theorem plain (ns : List Int) (hl : ns.length ≤ 63) : ∃ s, F_law [.scr ns] [] = .ok (.bl true) s := K63.P.law_ok ns hl
theorem sp_law {K : PySem.W.Frag} {H : Hp} {a : Addr} {ns : List Int} (hl : ns.length ≤ 63) (hO : Only H) (hS : SqL K H a (ns.map V.int)) :
    spF K (cfg K) 1 F_law [.ref a] H (fun v _ => v = .bl true) (fun _ _ _ => False) := by
  refine ⟨rfl, fun _ => False, [], [], [.scr ns], { len := rfl, nd := List.nodup_nil, trk := fun a ha => (by cases ha), ztrk := fun _ z => z.elim, zdis := fun _ z => z.elim, znt := fun _ z => z.elim, ct := fun k a c e => (by simp at e) }, .cons ⟨a, rfl, ?_⟩ .nil, ?_⟩
  · rcases hS with h | h
    · refine .inl ⟨?_, h⟩
      rintro (⟨k, c, e, _⟩ | z)
      · simp at e
      · exact z
    · exact .inr h
  · obtain ⟨s, h⟩ := plain ns hl
    rw [h]
    intro κ' H' x v rv
    exact rv
theorem facts {w : World} {K : PySem.W.Frag} {h : Heap} {mg : Str → Option Value} {f : Addr} (X : K.In h) (G : h.Ns mainGlobals mg) (hfa : mg ("law" : Str) = some (.ref f)) (c : HM.SaysM fa fn ex K) :
    ∃ fd : FuncData, (∀ (s : Shared) (v : Value), BindsTo s fd ⟨[v], []⟩ [("script", v)]) ∧ ∀ base : Heap, K.In base → base.Ns mainGlobals mg → FnOk Pg w K mg base CX0 11 f fd ["script"] (spF K (cfg K) 1 F_law) := by
  have T : Fx K h mg := ⟨X, G, c⟩
  have e : mg ("law" : Str) = some (.ref (He.ga K "law")) := He.glo_ok X G (c.fact (f := .glo "law") (List.mem_of_getElem? (i := 171) rfl))
  rw [e] at hfa
  cases hfa
  obtain ⟨fd, F, hb⟩ := law_fd T
  exact ⟨fd, hb, fun base _ _ => ok_law_of T F⟩
end K63
end
section
set_option Elab.async false
set_option linter.all false
set_option maxRecDepth 100000
set_option maxHeartbeats 0
open PySem PySem.W PySem.Calls PyProof.Rows
theorem PySem.Challenge.cw_crossinglights_k63_first_state_holds : PySem.Challenge.rw_crossinglights_k63_first_state.Holds := by
  w_on; o_law
  refine HandSHeadRun.head_any (r := OpenLaw.row PySem.Challenge.rw_crossinglights_k63_first_state) (q := view (OpenLaw.row PySem.Challenge.rw_crossinglights_k63_first_state).prog [127]) (H := HM.hookM K63.fa K63.fn K63.ex) (ob := K63.ob) (M := 10600) (loose := K63.names) (d := HandSHeadRun.topDef (OpenLaw.row PySem.Challenge.rw_crossinglights_k63_first_state).prog 127) (kwd := []) K63.ob_eq
    (by kernel_rfl) (fun s => by kernel_rfl) K63.run (by kernel_rfl) (by kernel_rfl) (by kernel_rfl) (by rfl) (by first | assumption | decide +kernel) (by decide +kernel) ⟨rfl, rfl, rfl, rfl, rfl, by decide +kernel⟩ ?hw ?hc
  case hw => w_witness2
  case hc =>
    refine L2.walk_ofE (l := PySem.Challenge.rw_crossinglights_k63_first_state) (n := 63) (k := 11) (x := "script") (CX := L2.CX0) rfl (by decide) (by kernel_rfl) ⟨rfl, by decide, by decide⟩ ?F (fun _ _ _ _ z => z)
    intro w mg fa h Y G hmg0
    obtain ⟨K, KX, c⟩ := Y
    have hmg : mg ("law" : PySem.Str) = some (.ref fa) := by
      have e : (HandSHeadRun.topDef (OpenLaw.row PySem.Challenge.rw_crossinglights_k63_first_state).prog 127).name = ("law" : PySem.Str) := by kernel_rfl
      rw [← e]
      exact hmg0
    obtain ⟨fd, hb, hF⟩ := K63.facts (w := w) KX G hmg c
    exact ⟨K, fd, _, KX, hb, fun H a ns hl hO hS => K63.sp_law hl hO hS, hF⟩
end
